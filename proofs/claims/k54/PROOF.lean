import PyProof.Rows.All
import HandS.ForMost
import HandS.ForExc
import HandS.TupSets
import HandS.SortInts
import HandS.Wide
import HandS.Conv
import HandS.Deep
import HandS.TupAny
import HandS.Flow
import HandS.Style
import HandS.IsInst
import KE.KeyNested
import KE.KDictKeyed
import PyProof.Rows.SetFrom
import KE.KSortTupAny
import HandS.TupLe
import HandS.ExcInit
import HandS.Nested
import KE.KExcSuper
import HandS.WordsExc
import HandS.ExcOwn
import HandS.ExcField
import Open.SpecLaws
import HandS.ForSpec
import KE.RegKSuper
import PySem.Challenge.RW_countedwebs_k54_webs_as_text
set_option Elab.async false
set_option linter.all false
set_option maxRecDepth 100000
set_option maxHeartbeats 4000000
set_option Elab.async false
set_option linter.all false
set_option maxRecDepth 100000
/-! The tree layer: a def's body as a function on data trees, with owned lists; over the hand layer's readings. -/
namespace TL
open PySem PySem.Spec PyProof.Rows L2

abbrev D := PyData
/-- what a slot holds: nothing known, a datum that stays, an owned list, an owned list of owned lists, the law's state -/
inductive Sl where
  | un
  | fz (d : D)
  | ow (ds : List D)
  | ow2 (rows : List (List D))
  | st (p q : Addr)
  | raw (ns : List Int)
abbrev Rho := List Sl
abbrev Own := Addr → Option Nat

/-! ### data that stays -/
mutual
/-- a datum at a value: lists are tracked, tuples may stand in the written part -/
inductive Rp (K : PySem.W.Frag) (H : Hp) : V → D → Prop
  | non : Rp K H .non .none
  | bl (b : Bool) : Rp K H (.bl b) (.bool b)
  | int (i : Int) : Rp K H (.int i) (.int i)
  | str (x : Str) : Rp K H (.str x) (.str x)
  | lst {a : Addr} {xs : List V} {ds : List D} : H a = some (.lst xs) → RpAll K H xs ds → Rp K H (.ref a) (.list ds)
  | tup {a : Addr} {xs : List V} {ds : List D} : SqT K H a xs → RpAll K H xs ds → Rp K H (.ref a) (.tuple ds)
inductive RpAll (K : PySem.W.Frag) (H : Hp) : List V → List D → Prop
  | nil : RpAll K H [] []
  | cons {v : V} {vs : List V} {d : D} {ds : List D} : Rp K H v d → RpAll K H vs ds → RpAll K H (v :: vs) (d :: ds)
end
theorem sq_mono {K : PySem.W.Frag} {H H' : Hp} {a : Addr} {xs : List V} (e : Same H H') (h : SqT K H a xs) : SqT K H' a xs := by
  rcases h with (h | ⟨o, h⟩) | h
  · exact .inl (.inl (e _ _ h))
  · exact .inl (.inr ⟨o, e _ _ h⟩)
  · exact .inr h
theorem sl_mono {K : PySem.W.Frag} {H H' : Hp} {a : Addr} {xs : List V} (e : Same H H') (h : SqL K H a xs) : SqL K H' a xs := by
  rcases h with (h | ⟨o, h⟩) | h
  · exact .inl (.inl (e _ _ h))
  · exact .inl (.inr ⟨o, e _ _ h⟩)
  · exact .inr h
mutual
theorem dp_mono {K : PySem.W.Frag} {H H' : Hp} (e : Same H H') : ∀ {v : V} {d : D}, Rp K H v d → Rp K H' v d
  | _, _, .non => .non
  | _, _, .bl b => .bl b
  | _, _, .int i => .int i
  | _, _, .str x => .str x
  | _, _, .lst h a => .lst (e _ _ h) (dpa_mono e a)
  | _, _, .tup h a => .tup (sq_mono e h) (dpa_mono e a)
theorem dpa_mono {K : PySem.W.Frag} {H H' : Hp} (e : Same H H') : ∀ {vs : List V} {ds : List D}, RpAll K H vs ds → RpAll K H' vs ds
  | _, _, .nil => .nil
  | _, _, .cons a b => .cons (dp_mono e a) (dpa_mono e b)
end
theorem dpa_len {K : PySem.W.Frag} {H : Hp} : ∀ {vs : List V} {ds : List D}, RpAll K H vs ds → vs.length = ds.length
  | _, _, .nil => rfl
  | _, _, .cons _ b => congrArg (· + 1) (dpa_len b)
theorem dpa_app {K : PySem.W.Frag} {H : Hp} : ∀ {vs : List V} {ds : List D} {us : List V} {es : List D}, RpAll K H vs ds → RpAll K H us es → RpAll K H (vs ++ us) (ds ++ es)
  | _, _, _, _, .nil, b => b
  | _, _, _, _, .cons a t, b => .cons a (dpa_app t b)
theorem dpa_get {K : PySem.W.Frag} {H : Hp} : ∀ {vs : List V} {ds : List D} {i : Nat} {v : V}, RpAll K H vs ds → vs[i]? = some v → ∃ d, ds[i]? = some d ∧ Rp K H v d
  | _, _, i, v, .nil, h => by simp at h
  | _, _, 0, v, .cons a t, h => by
    simp at h; subst h; exact ⟨_, rfl, a⟩
  | _, _, i + 1, v, .cons a t, h => by
    simp at h
    obtain ⟨d, e, q⟩ := dpa_get t h
    exact ⟨d, by simpa using e, q⟩
theorem dpa_get' {K : PySem.W.Frag} {H : Hp} {vs : List V} {ds : List D} {i : Nat} {d : D} (h : RpAll K H vs ds) (e : ds[i]? = some d) : ∃ v, vs[i]? = some v ∧ Rp K H v d := by
  have hl := dpa_len h
  have hi : i < ds.length := (List.getElem?_eq_some_iff.mp e).1
  have hv : vs[i]? = some (vs[i]'(by omega)) := List.getElem?_eq_getElem _
  obtain ⟨d', e', q⟩ := dpa_get h hv
  rw [e] at e'
  cases e'
  exact ⟨_, hv, q⟩
theorem dpa_set {K : PySem.W.Frag} {H : Hp} {v : V} {d : D} (q : Rp K H v d) : ∀ {vs : List V} {ds : List D} (i : Nat), RpAll K H vs ds → RpAll K H (vs.set i v) (ds.set i d)
  | _, _, _, .nil => .nil
  | _, _, 0, .cons _ t => .cons q t
  | _, _, i + 1, .cons a t => .cons a (dpa_set q i t)
theorem dpa_take {K : PySem.W.Frag} {H : Hp} : ∀ {vs : List V} {ds : List D} (n : Nat), RpAll K H vs ds → RpAll K H (vs.take n) (ds.take n)
  | _, _, 0, _ => .nil
  | _, _, _ + 1, .nil => .nil
  | _, _, n + 1, .cons a t => .cons a (dpa_take n t)
theorem dpa_drop {K : PySem.W.Frag} {H : Hp} : ∀ {vs : List V} {ds : List D} (n : Nat), RpAll K H vs ds → RpAll K H (vs.drop n) (ds.drop n)
  | _, _, 0, h => h
  | _, _, _ + 1, .nil => .nil
  | _, _, n + 1, .cons _ t => dpa_drop n t
theorem dpa_dropLast {K : PySem.W.Frag} {H : Hp} {vs : List V} {ds : List D} (h : RpAll K H vs ds) : RpAll K H vs.dropLast ds.dropLast := by
  rw [List.dropLast_eq_take, List.dropLast_eq_take, dpa_len h]
  exact dpa_take _ h
theorem dpa_eraseIdx {K : PySem.W.Frag} {H : Hp} {vs : List V} {ds : List D} (i : Nat) (h : RpAll K H vs ds) : RpAll K H (vs.eraseIdx i) (ds.eraseIdx i) := by
  rw [List.eraseIdx_eq_take_drop_succ, List.eraseIdx_eq_take_drop_succ]
  exact dpa_app (dpa_take _ h) (dpa_drop _ h)
theorem dpa_mem {K : PySem.W.Frag} {H : Hp} : ∀ {vs : List V} {ds : List D}, RpAll K H vs ds → ∀ v ∈ vs, ∃ d ∈ ds, Rp K H v d
  | _, _, .nil, v, h => by cases h
  | _, _, .cons a t, v, h => by
    rcases List.mem_cons.mp h with e | h
    · subst e; exact ⟨_, List.mem_cons_self, a⟩
    · obtain ⟨d, hd, q⟩ := dpa_mem t v h
      exact ⟨d, List.mem_cons_of_mem _ hd, q⟩
theorem dp_ints {K : PySem.W.Frag} {H : Hp} : ∀ {vs : List V} {ns : List Int}, RpAll K H vs (ns.map PyData.int) → vs = ns.map V.int
  | _, [], h => by cases h; rfl
  | _, n :: ns, h => by
    cases h with
    | cons a t =>
      cases a
      rw [dp_ints t]
      rfl
theorem dp_ints' {K : PySem.W.Frag} {H : Hp} : ∀ (ns : List Int), RpAll K H (ns.map V.int) (ns.map PyData.int)
  | [] => .nil
  | n :: ns => .cons (.int n) (dp_ints' ns)
theorem dp_strs {K : PySem.W.Frag} {H : Hp} : ∀ {vs : List V} {ns : List Str}, RpAll K H vs (ns.map PyData.str) → vs = ns.map V.str
  | _, [], h => by cases h; rfl
  | _, n :: ns, h => by
    cases h with
    | cons a t =>
      cases a
      rw [dp_strs t]
      rfl
theorem dp_strs' {K : PySem.W.Frag} {H : Hp} : ∀ (ns : List Str), RpAll K H (ns.map V.str) (ns.map PyData.str)
  | [] => .nil
  | n :: ns => .cons (.str n) (dp_strs' ns)
theorem dp_bools {K : PySem.W.Frag} {H : Hp} : ∀ {vs : List V} {ns : List Bool}, RpAll K H vs (ns.map PyData.bool) → vs = ns.map V.bl
  | _, [], h => by cases h; rfl
  | _, n :: ns, h => by
    cases h with
    | cons a t =>
      cases a
      rw [dp_bools t]
      rfl

mutual
theorem Rp.dp {K : PySem.W.Frag} {H : Hp} : ∀ {v : V} {d : D}, Rp K H v d → Dp K H v d
  | _, _, .non => .non
  | _, _, .bl b => .bl b
  | _, _, .int i => .int i
  | _, _, .str x => .str x
  | _, _, .lst h a => .lst (.of h) (RpAll.dp a)
  | _, _, .tup h a => .tup h (RpAll.dp a)
theorem RpAll.dp {K : PySem.W.Frag} {H : Hp} : ∀ {vs : List V} {ds : List D}, RpAll K H vs ds → DpAll K H vs ds
  | _, _, .nil => .nil
  | _, _, .cons a b => .cons (Rp.dp a) (RpAll.dp b)
end
/-! ### the state between steps -/
section
variable (K : PySem.W.Frag) (F H : Hp) (own : Own) (i : Nat)
def RowsOk : List Addr → List (List D) → Prop := Paired fun q row => own q = some i ∧ ∃ vs, H q = some (.lst vs) ∧ RpAll K F vs row
def SlOk : Sl → Option V → Prop
  | .un, _ => True
  | .fz d, v => ∃ x, v = some x ∧ Rp K F x d
  | .ow ds, v => ∃ p vs, v = some (.ref p) ∧ own p = some i ∧ H p = some (.lst vs) ∧ RpAll K F vs ds
  | .ow2 rows, v => ∃ (p : Addr) (qs : List Addr), v = some (.ref p) ∧ own p = some i ∧ H p = some (.lst (qs.map V.ref)) ∧ (p :: qs).Nodup ∧ RowsOk K F H own i qs rows
  | .st p q, v => v = some (.ref p) ∧ p ≠ q ∧ own p = some i ∧ own q = some i ∧ ∃ (k : Int) (ns : List Int), H p = some (.lst [.int k, .ref q]) ∧ H q = some (.lst (ns.map V.int)) ∧ ns ≠ []
  | .raw ns, v => ∃ a, v = some (.ref a) ∧ SqL K F a (ns.map V.int)
end

structure SInv (K : PySem.W.Frag) (B F : Hp) (own : Own) (H : Hp) (σ : L2.St) (ρ : Rho) : Prop where
  fh : Same F H
  bh : Same B H
  bf : ∀ a o, B a = some o → F a = none ∧ own a = none
  ow : ∀ a i, own a = some i → F a = none ∧ ∃ o, H a = some o
  len : ρ.length = σ.length
  sl : ∀ (i : Nat) (s : Sl) (v : Option V), ρ[i]? = some s → σ[i]? = some v → SlOk K F H own i s v

theorem paired_imp {α β : Type} {R S : α → β → Prop} : ∀ {l : List α} {m : List β}, Paired R l m → (∀ a b, R a b → S a b) → Paired S l m
  | _, _, .nil, _ => .nil
  | _, _, .cons h t, f => .cons (f _ _ h) (paired_imp t f)

theorem SlOk.keep {K : PySem.W.Frag} {F F' H H' : Hp} {own own' : Own} {i : Nat} {s : Sl} {v : Option V} (ff : Same F F') (hh : ∀ a o, own a = some i → H a = some o → H' a = some o) (oo : ∀ a, own a = some i → own' a = some i) (h : SlOk K F H own i s v) : SlOk K F' H' own' i s v := by
  cases s with
  | un => exact True.intro
  | fz d => obtain ⟨x, e, q⟩ := h; exact ⟨x, e, dp_mono ff q⟩
  | ow ds => obtain ⟨p, vs, e, o, q, r⟩ := h; exact ⟨p, vs, e, oo _ o, hh _ _ o q, dpa_mono ff r⟩
  | ow2 rows =>
    obtain ⟨p, qs, e, o, q, nd, r⟩ := h
    exact ⟨p, qs, e, oo _ o, hh _ _ o q, nd, paired_imp r fun a b ⟨o, vs, q, r⟩ => ⟨oo _ o, vs, hh _ _ o q, dpa_mono ff r⟩⟩
  | st p q =>
    obtain ⟨e, ne, o1, o2, k, ns, h1, h2, hn⟩ := h
    exact ⟨e, ne, oo _ o1, oo _ o2, k, ns, hh _ _ o1 h1, hh _ _ o2 h2, hn⟩
  | raw ns =>
    obtain ⟨a, e, q⟩ := h
    exact ⟨a, e, sl_mono ff q⟩

/-- what an expression does: p: it changes nothing that stood -/
structure Ext (p : Bool) (F : Hp) (own : Own) (H F' : Hp) (own' : Own) (H' : Hp) : Prop where
  ff : Same F F'
  hh : ∀ a o, H a = some o → (p = true ∨ own a = none) → H' a = some o
  oo : ∀ a i, own a = some i → own' a = some i
  on : ∀ a i o, H a = some o → own' a = some i → own a = some i
  hl : ∀ a o, H a = some o → ∃ o', H' a = some o'
  fo : ∀ a o, H a = some o → F' a = F a
theorem Ext.refl {p F own H} : Ext p F own H F own H := ⟨Same.refl _, fun _ _ h _ => h, fun _ _ h => h, fun _ _ _ _ h => h, fun _ o h => ⟨o, h⟩, fun _ _ _ => rfl⟩
theorem Ext.trans {p q : Bool} {F own H F1 own1 H1 F2 own2 H2} (x : Ext p F own H F1 own1 H1) (y : Ext q F1 own1 H1 F2 own2 H2) : Ext (p && q) F own H F2 own2 H2 where
  ff := x.ff.trans y.ff
  hh := fun a o h c => by
    have c1 : p = true ∨ own a = none := by
      rcases c with c | c
      · exact .inl (by revert c; cases p <;> simp)
      · exact .inr c
    have h1 := x.hh a o h c1
    refine y.hh a o h1 ?_
    rcases c with c | c
    · exact .inl (by revert c; cases p <;> cases q <;> simp)
    · refine .inr ?_
      cases e : own1 a with
      | none => rfl
      | some i => rw [x.on a i o h e] at c; cases c
  oo := fun a i h => y.oo a i (x.oo a i h)
  on := fun a i o h e => by
    obtain ⟨o1, h1⟩ := x.hl a o h
    exact x.on a i o h (y.on a i o1 h1 e)
  hl := fun a o h => by
    obtain ⟨o1, h1⟩ := x.hl a o h
    exact y.hl a o1 h1
  fo := fun a o h => by
    obtain ⟨o1, h1⟩ := x.hl a o h
    exact (y.fo a o1 h1).trans (x.fo a o h)
theorem Ext.weak {p F own H F' own' H'} (x : Ext true F own H F' own' H') : Ext p F own H F' own' H' :=
  ⟨x.ff, fun a o h _ => x.hh a o h (.inl rfl), x.oo, x.on, x.hl, x.fo⟩
theorem SInv.keep {K : PySem.W.Frag} {B F F' H H' : Hp} {own own' : Own} {σ : L2.St} {ρ ρ' : Rho} (I : SInv K B F own H σ ρ) (J : SInv K B F' own' H' σ ρ') (x : Ext true F own H F' own' H') : SInv K B F' own' H' σ ρ :=
  ⟨J.fh, J.bh, J.bf, J.ow, I.len, fun i s v e e2 => (I.sl i s v e e2).keep x.ff (fun a o _ h => x.hh a o h (.inl rfl)) fun a h => x.oo a i h⟩

/-- new data is laid -/
structure Al (F H F' H' : Hp) : Prop where
  ff : Same F F'
  hh : Same H H'
  fh : Same F' H'
  fo : ∀ a o, H a = some o → F' a = F a
theorem Al.refl {F H : Hp} (h : Same F H) : Al F H F H := ⟨Same.refl _, Same.refl _, h, fun _ _ _ => rfl⟩
theorem Al.trans {F H F1 H1 F2 H2 : Hp} (x : Al F H F1 H1) (y : Al F1 H1 F2 H2) : Al F H F2 H2 :=
  ⟨x.ff.trans y.ff, x.hh.trans y.hh, y.fh, fun a o h => (y.fo a o (x.hh a o h)).trans (x.fo a o h)⟩
theorem same_upd {H : Hp} {p : Addr} {o : HO} (h : H p = none) : Same H (upd H p o) := fun b x e => by
  rw [upd_ne (ne_of_none e h)]
  exact e
theorem Al.one {F H : Hp} {a : Addr} {o : HO} (h : Same F H) (n : H a = none) : Al F H (upd F a o) (upd H a o) where
  ff := same_upd (by cases e : F a with
    | none => rfl
    | some u => rw [h a u e] at n; cases n)
  hh := same_upd n
  fh := fun b u e => by
    by_cases hb : b = a
    · subst hb; rw [upd_same] at e ⊢; exact e
    · rw [upd_ne hb] at e ⊢; exact h b u e
  fo := fun b u e => upd_ne (ne_of_none e n)
theorem SInv.al {K : PySem.W.Frag} {B F F' H H' : Hp} {own : Own} {σ : L2.St} {ρ : Rho} (I : SInv K B F own H σ ρ) (x : Al F H F' H') : SInv K B F' own H' σ ρ where
  fh := x.fh
  bh := I.bh.trans x.hh
  bf := fun a o h => ⟨(x.fo a o (I.bh a o h)).trans (I.bf a o h).1, (I.bf a o h).2⟩
  ow := fun a i h => by
    obtain ⟨f, o, e⟩ := I.ow a i h
    exact ⟨(x.fo a o e).trans f, o, x.hh a o e⟩
  len := I.len
  sl := fun i s v e e2 => (I.sl i s v e e2).keep x.ff (fun a o _ h => x.hh a o h) fun _ h => h
theorem Al.ext {F H F' H' : Hp} {own : Own} (p : Bool) (x : Al F H F' H') : Ext p F own H F' own H' :=
  ⟨x.ff, fun a o h _ => x.hh a o h, fun _ _ h => h, fun _ _ _ _ h => h, fun a o h => ⟨o, x.hh a o h⟩, x.fo⟩

/-! ### judgements -/
/-- an exception: its class and what its own dict holds -/
def XOk (K : PySem.W.Frag) (xc : Str → Option (Addr × List Str)) (F : Hp) (nm : Str) (ds : List D) (cls : Value) (d : Option Addr) : Prop :=
  ∃ (c : Addr) (fn : List Str) (dd : Addr) (vs : List V), xc nm = some (c, fn) ∧ cls = .ref c ∧ d = some dd ∧ F dd = some (.xd (fn.zip vs).reverse) ∧ RpAll K F vs ds ∧ vs.length = fn.length
structure Ct where
  X : Cx
  wx : WX
  W : Str → List D → Rho → Prop
  xc : Str → Option (Addr × List Str)
  calm : X.calm = true
  po : PassesOwn (model X.prog X.w) X.A X.env X.xe
  nd : X.N.Nodup
  lv : Nat
  room : Room lv X.A
theorem Ct.hu (C : Ct) : C.X.A.units + 200 < cLine := Nat.lt_of_le_of_lt (by omega) C.room.un
structure WOk (C : Ct) (B F : Hp) : Prop where
  go : ∀ F' own' H' σ' ρ' (nm : Str) (ds : List D) (cls : Value) (d : Option Addr), SInv C.X.K B F' own' H' σ' ρ' → Same F F' → XOk C.X.K C.xc F' nm ds cls d → C.W nm ds ρ' → C.wx cls d σ' H'
theorem WOk.mono {C : Ct} {B F F' : Hp} (h : WOk C B F) (e : Same F F') : WOk C B F' := ⟨fun F2 own' H' σ' ρ' nm ds cls d I s => h.go F2 own' H' σ' ρ' nm ds cls d I (e.trans s)⟩

abbrev EF := Rho → (D → Rho → Prop) → Prop
abbrev NF := Rho → (List D → Rho → Prop) → Prop
abbrev TF := Rho → (Bool → Rho → Prop) → Prop
/-- readable now: it stays, or it is an owned list as it stands -/
def DpR (K : PySem.W.Frag) (F : Hp) (own : Own) (H : Hp) (v : V) (d : D) : Prop :=
  Rp K F v d ∨ ∃ a vs ds i, v = .ref a ∧ d = .list ds ∧ own a = some i ∧ H a = some (.lst vs) ∧ RpAll K F vs ds
theorem DpR.keep {K : PySem.W.Frag} {F F' H H' : Hp} {own own' : Own} {v : V} {d : D} (x : Ext true F own H F' own' H') (h : DpR K F own H v d) : DpR K F' own' H' v d := by
  rcases h with h | ⟨a, vs, ds, i, e1, e2, o, q, r⟩
  · exact .inl (dp_mono x.ff h)
  · exact .inr ⟨a, vs, ds, i, e1, e2, x.oo a i o, x.hh a _ q (.inl rfl), dpa_mono x.ff r⟩

/-- an expression whose value stays -/
def HE (C : Ct) (p : Bool) (e : Expr) (f : EF) : Prop := ∃ t, PE C.X e t ∧ ∀ B F own H σ ρ Q R, SInv C.X.K B F own H σ ρ → WOk C B F →
  (∀ d ρ' F' own' H' v, R d ρ' → SInv C.X.K B F' own' H' σ ρ' → Ext p F own H F' own' H' → Rp C.X.K F' v d → Q v H') → f ρ R → t σ H Q
/-- an expression that is read at once and changes nothing -/
abbrev RF := Rho → (D → Prop) → Prop
def HR (C : Ct) (e : Expr) (f : RF) : Prop := ∃ t, PE C.X e t ∧ ∀ B F own H σ ρ Q R, SInv C.X.K B F own H σ ρ → WOk C B F →
  (∀ d F' own' H' v, R d → SInv C.X.K B F' own' H' σ ρ → Ext true F own H F' own' H' → DpR C.X.K F' own' H' v d → Q v H') → f ρ R → t σ H Q
/-- a new list -/
def HN (C : Ct) (p : Bool) (e : Expr) (f : NF) : Prop := ∃ t, PE C.X e t ∧ ∀ B F own H σ ρ Q R, SInv C.X.K B F own H σ ρ → WOk C B F →
  (∀ ds ρ' F' own' H' a vs, R ds ρ' → SInv C.X.K B F' own' H' σ ρ' → Ext p F own H F' own' H' → H a = none → H' a = some (.lst vs) → F' a = none → own' a = none → RpAll C.X.K F' vs ds → Q (.ref a) H') → f ρ R → t σ H Q
/-- a test -/
def HT (C : Ct) (p : Bool) (e : Expr) (f : TF) : Prop := ∃ t, PT C.X e t ∧ ∀ B F own H σ ρ Q R, SInv C.X.K B F own H σ ρ → WOk C B F →
  (∀ b ρ' F' own' H', R b ρ' → SInv C.X.K B F' own' H' σ ρ' → Ext p F own H F' own' H' → Q b H') → f ρ R → t σ H Q
/-- arguments that stay -/
def HA (C : Ct) (p : Bool) (es : List Expr) (f : NF) : Prop := ∃ t, PA C.X es t ∧ ∀ B F own H σ ρ Q R, SInv C.X.K B F own H σ ρ → WOk C B F →
  (∀ ds ρ' F' own' H' vs, R ds ρ' → SInv C.X.K B F' own' H' σ ρ' → Ext p F own H F' own' H' → RpAll C.X.K F' vs ds → Q vs H') → f ρ R → t σ H Q

/-- statements' ends -/
structure EndF where
  nx : Rho → Prop
  rt : D → Rho → Prop
  bk : Rho → Prop := fun _ => False
  ct : Rho → Prop := fun _ => False
abbrev SF := Rho → EndF → Prop
structure EndOk (K : PySem.W.Frag) (B F : Hp) (E : EndF) (G : Ends) : Prop where
  nx : ∀ F' own' H' σ' ρ', SInv K B F' own' H' σ' ρ' → Same F F' → E.nx ρ' → G.nx σ' H'
  rt : ∀ F' own' H' σ' ρ' v d, SInv K B F' own' H' σ' ρ' → Same F F' → Rp K F' v d → E.rt d ρ' → G.rt v H'
  bk : ∀ F' own' H' σ' ρ', SInv K B F' own' H' σ' ρ' → Same F F' → E.bk ρ' → G.bk σ' H'
  ct : ∀ F' own' H' σ' ρ', SInv K B F' own' H' σ' ρ' → Same F F' → E.ct ρ' → G.ct σ' H'
theorem EndOk.mono {K : PySem.W.Frag} {B F F' : Hp} {E : EndF} {G : Ends} (h : EndOk K B F E G) (e : Same F F') : EndOk K B F' E G :=
  ⟨fun F2 own' H' σ' ρ' I s => h.nx F2 own' H' σ' ρ' I (e.trans s), fun F2 own' H' σ' ρ' v d I s => h.rt F2 own' H' σ' ρ' v d I (e.trans s),
    fun F2 own' H' σ' ρ' I s => h.bk F2 own' H' σ' ρ' I (e.trans s), fun F2 own' H' σ' ρ' I s => h.ct F2 own' H' σ' ρ' I (e.trans s)⟩
def HS (C : Ct) (st : Stmt) (f : SF) : Prop := ∃ t, PS C.X st t ∧ ∀ B F own H σ ρ E G, SInv C.X.K B F own H σ ρ → WOk C B F → EndOk C.X.K B F E G → f ρ E → t G σ H
def HSs (C : Ct) (st : List Stmt) (f : SF) : Prop := ∃ t, PSs C.X st t ∧ ∀ B F own H σ ρ E G, SInv C.X.K B F own H σ ρ → WOk C B F → EndOk C.X.K B F E G → f ρ E → t G σ H

/-! ### changes between the judgements -/
variable {C : Ct}
theorem hr_of {e : Expr} {f : EF} (h : HE C true e f) : HR C e (fun ρ R => f ρ fun d _ => R d) := by
  obtain ⟨t, ht, hs⟩ := h
  refine ⟨t, ht, fun B F own H σ ρ Q R I w k q => hs B F own H σ ρ Q _ I w (fun d ρ' F' own' H' v r J x dv => ?_) q⟩
  exact k d F' own' H' v r (I.keep J x) x (.inl dv)
theorem HE.weak {p : Bool} {e : Expr} {f : EF} (h : HE C true e f) : HE C p e f := by
  obtain ⟨t, ht, hs⟩ := h
  exact ⟨t, ht, fun B F own H σ ρ Q R I w k q => hs B F own H σ ρ Q R I w (fun d ρ' F' own' H' v r J x dv => k d ρ' F' own' H' v r J x.weak dv) q⟩
/-- an owned list is given up: it stays from here on -/
theorem SInv.freeze {K : PySem.W.Frag} {B F H : Hp} {own : Own} {σ : L2.St} {ρ : Rho} {a : Addr} {o : HO} (I : SInv K B F own H σ ρ) (h : H a = some o) (hF : F a = none) (ho : own a = none) (hB : B a = none) : SInv K B (upd F a o) own H σ ρ where
  fh := fun b u e => by
    by_cases hb : b = a
    · subst hb; rw [upd_same] at e; cases e; exact h
    · rw [upd_ne hb] at e; exact I.fh b u e
  bh := I.bh
  bf := fun b u e => by
    have hb : b ≠ a := fun z => by subst z; rw [hB] at e; cases e
    rw [upd_ne hb]; exact I.bf b u e
  ow := fun b i e => by
    have hb : b ≠ a := fun z => by subst z; rw [ho] at e; cases e
    rw [upd_ne hb]; exact I.ow b i e
  len := I.len
  sl := fun i s v e e2 => (I.sl i s v e e2).keep (same_upd hF) (fun _ _ _ h => h) fun _ h => h
theorem he_new {p : Bool} {e : Expr} {f : NF} (h : HN C p e f) : HE C p e (fun ρ R => f ρ fun ds ρ' => R (.list ds) ρ') := by
  obtain ⟨t, ht, hs⟩ := h
  refine ⟨t, ht, fun B F own H σ ρ Q R I w k q => hs B F own H σ ρ Q _ I w (fun ds ρ' F' own' H' a vs r J x ha h' hF ho dv => ?_) q⟩
  have hB : B a = none := by
    cases e : B a with
    | none => rfl
    | some u => rw [I.bh a u e] at ha; cases ha
  refine k (.list ds) ρ' (upd F' a (.lst vs)) own' H' (.ref a) r (J.freeze h' hF ho hB) ⟨x.ff.trans (same_upd hF), x.hh, x.oo, x.on, x.hl, fun b o h => (upd_ne (ne_of_none h ha)).trans (x.fo b o h)⟩ ?_
  exact .lst upd_same (dpa_mono (same_upd hF) dv)

/-! ### names and constants -/
theorem he_var {i : Nat} {x : Str} {pos : Pos} (h : PE C.X (.Name x pos) (tVar i)) : HE C true (.Name x pos) (fun ρ R => ∃ d, ρ[i]? = some (.fz d) ∧ R d ρ) := by
  refine ⟨_, h, fun B F own H σ ρ Q R I w k q => ?_⟩
  obtain ⟨d, e, r⟩ := q
  have hi : i < σ.length := by rw [← I.len]; exact (List.getElem?_eq_some_iff.mp e).1
  obtain ⟨v, hv, dv⟩ := I.sl i _ _ e (List.getElem?_eq_getElem hi)
  exact ⟨v, by rw [List.getElem?_eq_getElem hi, hv], k d ρ F own H v r I .refl dv⟩
theorem hr_own {i : Nat} {x : Str} {pos : Pos} (h : PE C.X (.Name x pos) (tVar i)) : HR C (.Name x pos) (fun ρ R => ∃ ds, ρ[i]? = some (.ow ds) ∧ R (.list ds)) := by
  refine ⟨_, h, fun B F own H σ ρ Q R I w k q => ?_⟩
  obtain ⟨ds, e, r⟩ := q
  have hi : i < σ.length := by rw [← I.len]; exact (List.getElem?_eq_some_iff.mp e).1
  obtain ⟨p, vs, hv, o, hp, dv⟩ := I.sl i _ _ e (List.getElem?_eq_getElem hi)
  exact ⟨.ref p, by rw [List.getElem?_eq_getElem hi, hv], k _ F own H _ r I .refl (.inr ⟨p, vs, ds, i, rfl, rfl, o, hp, dv⟩)⟩
theorem he_c {e : Expr} {v : V} {d : D} (h : PE C.X e (tC v)) (hd : ∀ F, Rp C.X.K F v d) : HE C true e (fun ρ R => R d ρ) :=
  ⟨_, h, fun B F own H σ ρ Q R I w k q => k d ρ F own H v q I .refl (hd F)⟩
theorem he_int {i j pos} : HE C true (.Constant (.int i) j pos) (fun ρ R => R (.int i) ρ) := he_c pe_int fun _ => .int i
theorem he_bool {i j pos} : HE C true (.Constant (.bool i) j pos) (fun ρ R => R (.bool i) ρ) := he_c pe_bl fun _ => .bl i
theorem he_str {i j pos} : HE C true (.Constant (.str i) j pos) (fun ρ R => R (.str i) ρ) := he_c pe_str fun _ => .str i
theorem he_none {j pos} : HE C true (.Constant .none j pos) (fun ρ R => R .none ρ) := he_c pe_non fun _ => .non

/-! ### two in a row, by values -/
/-- an operation upon two values -/
def Op2 (C : Ct) (r : R2) (g : D → D → (D → Prop) → Prop) : Prop := ∀ F own H v u x y (Q : VK) (R : D → Prop), Same F H → DpR C.X.K F own H v x → DpR C.X.K F own H u y →
  (∀ d F' H' w, R d → Al F H F' H' → Rp C.X.K F' w d → Q w H') → g x y R → r v u H Q
theorem he_op {p q : Bool} {op : Operator} {a b : Expr} {pos : Pos} {r : R2} {f1 f2 : EF} {g : D → D → (D → Prop) → Prop} (ho : OpR C.X (binaryOp op) r) (hg : Op2 C r g) (h1 : HE C p a f1) (h2 : HE C q b f2) :
    HE C (p && q) (.BinOp a op b pos) (fun ρ R => f1 ρ fun x ρ1 => f2 ρ1 fun y ρ2 => g x y fun z => R z ρ2) := by
  obtain ⟨t1, ht1, hs1⟩ := h1
  obtain ⟨t2, ht2, hs2⟩ := h2
  refine ⟨_, pe_op ho ht1 ht2, fun B F own H σ ρ Q R I w k z => ?_⟩
  refine hs1 B F own H σ ρ _ _ I w (fun x ρ1 F1 own1 H1 v r1 I1 x1 d1 => ?_) z
  refine hs2 B F1 own1 H1 σ ρ1 _ _ I1 (w.mono x1.ff) (fun y ρ2 F2 own2 H2 u r2 I2 x2 d2 => ?_) r1
  refine hg F2 own2 H2 v u x y _ _ I2.fh (.inl (dp_mono x2.ff d1)) (.inl d2) (fun d F' H' w' r3 al dw => ?_) r2
  exact k d ρ2 F' own2 H' w' r3 (I2.al al) (by simpa using (x1.trans x2).trans (al.ext true)) dw
end TL
set_option Elab.async false
set_option linter.all false
set_option maxRecDepth 100000
namespace TL
open PySem PySem.Spec PyProof.Rows L2
variable {C : Ct}

/-! ### readings of values -/
theorem DpR.dp {K : PySem.W.Frag} {F H : Hp} {own : Own} {v : V} {d : D} (e : Same F H) (h : DpR K F own H v d) : Dp K H v d := by
  rcases h with h | ⟨a, vs, ds, i, rfl, rfl, o, q, r⟩
  · exact (dp_mono e h).dp
  · exact .lst (.of q) (dpa_mono e r).dp
theorem DpR.int {K : PySem.W.Frag} {F H : Hp} {own : Own} {v : V} {i : Int} (h : DpR K F own H v (.int i)) : v = .int i := by
  rcases h with h | ⟨a, vs, ds, j, rfl, e, o, q, r⟩
  · cases h; rfl
  · cases e
theorem DpR.str {K : PySem.W.Frag} {F H : Hp} {own : Own} {v : V} {i : Str} (h : DpR K F own H v (.str i)) : v = .str i := by
  rcases h with h | ⟨a, vs, ds, j, rfl, e, o, q, r⟩
  · cases h; rfl
  · cases e
theorem DpR.bool {K : PySem.W.Frag} {F H : Hp} {own : Own} {v : V} {i : Bool} (h : DpR K F own H v (.bool i)) : v = .bl i := by
  rcases h with h | ⟨a, vs, ds, j, rfl, e, o, q, r⟩
  · cases h; rfl
  · cases e
theorem DpR.none {K : PySem.W.Frag} {F H : Hp} {own : Own} {v : V} (h : DpR K F own H v .none) : v = .non := by
  rcases h with h | ⟨a, vs, ds, j, rfl, e, o, q, r⟩
  · cases h; rfl
  · cases e
theorem DpR.non_iff {K : PySem.W.Frag} {F H : Hp} {own : Own} {v : V} {d : D} (h : DpR K F own H v d) : (v = .non) ↔ d = .none := by
  rcases h with h | ⟨a, vs, ds, j, rfl, rfl, o, q, r⟩
  · cases h <;> simp
  · simp
theorem DpR.list {K : PySem.W.Frag} {F H : Hp} {own : Own} {v : V} {ds : List D} (e : Same F H) (h : DpR K F own H v (.list ds)) : ∃ a vs, v = .ref a ∧ H a = some (.lst vs) ∧ RpAll K F vs ds := by
  rcases h with h | ⟨a, vs, ds', j, rfl, e2, o, q, r⟩
  · cases h with
    | lst h1 h2 => exact ⟨_, _, rfl, e _ _ h1, h2⟩
  · cases e2; exact ⟨a, vs, rfl, q, r⟩
theorem DpR.tuple {K : PySem.W.Frag} {F H : Hp} {own : Own} {v : V} {ds : List D} (h : DpR K F own H v (.tuple ds)) : ∃ a vs, v = .ref a ∧ SqT K F a vs ∧ RpAll K F vs ds := by
  rcases h with h | ⟨a, vs, ds', j, rfl, e2, o, q, r⟩
  · cases h with
    | tup h1 h2 => exact ⟨_, _, rfl, h1, h2⟩
  · cases e2

/-! ### the shapes of rules -/
abbrev G1 := D → (D → Prop) → Prop
abbrev G2 := D → D → (D → Prop) → Prop
abbrev N1 := D → (List D → Prop) → Prop
abbrev N2 := D → D → (List D → Prop) → Prop
def s1 (g : G1) (f : EF) : EF := fun ρ R => f ρ fun x ρ1 => g x fun z => R z ρ1
def s2 (g : G2) (f1 f2 : EF) : EF := fun ρ R => f1 ρ fun x ρ1 => f2 ρ1 fun y ρ2 => g x y fun z => R z ρ2
def s1r (g : G1) (f : RF) : EF := fun ρ R => f ρ fun x => g x fun z => R z ρ
def s2r (g : G2) (f1 f2 : RF) : EF := fun ρ R => f1 ρ fun x => f2 ρ fun y => g x y fun z => R z ρ
def n1r (g : N1) (f : RF) : NF := fun ρ R => f ρ fun x => g x fun z => R z ρ
def n2r (g : N2) (f1 f2 : RF) : NF := fun ρ R => f1 ρ fun x => f2 ρ fun y => g x y fun z => R z ρ
def n2 (g : N2) (f1 f2 : EF) : NF := fun ρ R => f1 ρ fun x ρ1 => f2 ρ1 fun y ρ2 => g x y fun z => R z ρ2
def n1 (g : N1) (f : EF) : NF := fun ρ R => f ρ fun x ρ1 => g x fun z => R z ρ1
def sVar (i : Nat) : EF := fun ρ R => ∃ d, ρ[i]? = some (.fz d) ∧ R d ρ
def sC (d : D) : EF := fun ρ R => R d ρ
def rOwn (i : Nat) : RF := fun ρ R => ∃ ds, ρ[i]? = some (.ow ds) ∧ R (.list ds)
def rOf (f : EF) : RF := fun ρ R => f ρ fun d _ => R d

theorem Al.new {F H : Hp} {a : Addr} {o : HO} (h : Same F H) (n : H a = none) : Al F H F (upd H a o) :=
  ⟨Same.refl _, same_upd n, h.trans (same_upd n), fun _ _ _ => rfl⟩
theorem SInv.no_own {K : PySem.W.Frag} {B F H : Hp} {own : Own} {σ : L2.St} {ρ : Rho} {a : Addr} (I : SInv K B F own H σ ρ) (n : H a = none) : own a = none := by
  cases e : own a with
  | none => rfl
  | some i => obtain ⟨_, o, q⟩ := I.ow a i e; rw [q] at n; cases n
theorem SInv.no_F {K : PySem.W.Frag} {B F H : Hp} {own : Own} {σ : L2.St} {ρ : Rho} {a : Addr} (I : SInv K B F own H σ ρ) (n : H a = none) : F a = none := by
  cases e : F a with
  | none => rfl
  | some i => rw [I.fh a i e] at n; cases n

def Op1 (C : Ct) (r : V → Hp → VK → Prop) (g : G1) : Prop := ∀ F own H v x (Q : VK) (R : D → Prop), Same F H → DpR C.X.K F own H v x →
  (∀ d F' H' w, R d → Al F H F' H' → Rp C.X.K F' w d → Q w H') → g x R → r v H Q
def Op1N (C : Ct) (r : V → Hp → VK → Prop) (g : N1) : Prop := ∀ F own H v x (Q : VK) (R : List D → Prop), Same F H → DpR C.X.K F own H v x →
  (∀ ds F' H' a vs, R ds → Al F H F' H' → H' a = none → RpAll C.X.K F' vs ds → Q (.ref a) (upd H' a (.lst vs))) → g x R → r v H Q
def Op2N (C : Ct) (r : R2) (g : N2) : Prop := ∀ F own H v u x y (Q : VK) (R : List D → Prop), Same F H → DpR C.X.K F own H v x → DpR C.X.K F own H u y →
  (∀ ds F' H' a vs, R ds → Al F H F' H' → H' a = none → RpAll C.X.K F' vs ds → Q (.ref a) (upd H' a (.lst vs))) → g x y R → r v u H Q

section
variable {p q : Bool} {e a b : Expr} {r1 : V → Hp → VK → Prop} {r : R2} {f1 f2 : EF} {h1 h2 : RF} {g1 : G1} {g2 : G2} {k1 : N1} {k2 : N2} {pos : Pos}
theorem he_two (mk : ∀ {ta tb : TE}, PE C.X a ta → PE C.X b tb → PE C.X e (tOp r ta tb)) (hg : Op2 C r g2) (x1 : HE C p a f1) (x2 : HE C q b f2) : HE C (p && q) e (s2 g2 f1 f2) := by
  obtain ⟨t1, ht1, hs1⟩ := x1
  obtain ⟨t2, ht2, hs2⟩ := x2
  refine ⟨_, mk ht1 ht2, fun B F own H σ ρ Q R I w k z => ?_⟩
  refine hs1 B F own H σ ρ _ _ I w (fun x ρ1 F1 own1 H1 v r1 I1 x1 d1 => ?_) z
  refine hs2 B F1 own1 H1 σ ρ1 _ _ I1 (w.mono x1.ff) (fun y ρ2 F2 own2 H2 u r2 I2 x2 d2 => ?_) r1
  refine hg F2 own2 H2 v u x y _ _ I2.fh (.inl (dp_mono x2.ff d1)) (.inl d2) (fun d F' H' w' r3 al dw => ?_) r2
  exact k d ρ2 F' own2 H' w' r3 (I2.al al) (by simpa using (x1.trans x2).trans (al.ext true)) dw
theorem he_twoR (mk : ∀ {ta tb : TE}, PE C.X a ta → PE C.X b tb → PE C.X e (tOp r ta tb)) (hg : Op2 C r g2) (x1 : HR C a h1) (x2 : HR C b h2) : HE C true e (s2r g2 h1 h2) := by
  obtain ⟨t1, ht1, hs1⟩ := x1
  obtain ⟨t2, ht2, hs2⟩ := x2
  refine ⟨_, mk ht1 ht2, fun B F own H σ ρ Q R I w k z => ?_⟩
  refine hs1 B F own H σ ρ _ _ I w (fun x F1 own1 H1 v r1 I1 x1 d1 => ?_) z
  refine hs2 B F1 own1 H1 σ ρ _ _ I1 (w.mono x1.ff) (fun y F2 own2 H2 u r2 I2 x2 d2 => ?_) r1
  refine hg F2 own2 H2 v u x y _ _ I2.fh (d1.keep x2) d2 (fun d F' H' w' r3 al dw => ?_) r2
  exact k d ρ F' own2 H' w' r3 (I2.al al) (by simpa using (x1.trans x2).trans (al.ext true)) dw
theorem hn_two (mk : ∀ {ta tb : TE}, PE C.X a ta → PE C.X b tb → PE C.X e (tOp r ta tb)) (hg : Op2N C r k2) (x1 : HE C p a f1) (x2 : HE C q b f2) : HN C (p && q) e (n2 k2 f1 f2) := by
  obtain ⟨t1, ht1, hs1⟩ := x1
  obtain ⟨t2, ht2, hs2⟩ := x2
  refine ⟨_, mk ht1 ht2, fun B F own H σ ρ Q R I w k z => ?_⟩
  refine hs1 B F own H σ ρ _ _ I w (fun x ρ1 F1 own1 H1 v r1 I1 x1 d1 => ?_) z
  refine hs2 B F1 own1 H1 σ ρ1 _ _ I1 (w.mono x1.ff) (fun y ρ2 F2 own2 H2 u r2 I2 x2 d2 => ?_) r1
  refine hg F2 own2 H2 v u x y _ _ I2.fh (.inl (dp_mono x2.ff d1)) (.inl d2) (fun ds F' H' a vs r3 al n dw => ?_) r2
  have I3 := I2.al al
  have al2 := Al.new (o := .lst vs) I3.fh n
  have ex : Ext (p && q) F own H F' own2 (upd H' a (.lst vs)) := by simpa using ((x1.trans x2).trans (al.ext true)).trans (al2.ext true)
  refine k ds ρ2 F' own2 _ a vs r3 (I3.al al2) ex ?_ upd_same (I3.no_F n) (I3.no_own n) dw
  cases e : H a with
  | none => rfl
  | some o => obtain ⟨o', q⟩ := ((x1.trans x2).trans (al.ext true)).hl a o e; rw [q] at n; cases n
theorem hn_twoR (mk : ∀ {ta tb : TE}, PE C.X a ta → PE C.X b tb → PE C.X e (tOp r ta tb)) (hg : Op2N C r k2) (x1 : HR C a h1) (x2 : HR C b h2) : HN C true e (n2r k2 h1 h2) := by
  obtain ⟨t1, ht1, hs1⟩ := x1
  obtain ⟨t2, ht2, hs2⟩ := x2
  refine ⟨_, mk ht1 ht2, fun B F own H σ ρ Q R I w k z => ?_⟩
  refine hs1 B F own H σ ρ _ _ I w (fun x F1 own1 H1 v r1 I1 x1 d1 => ?_) z
  refine hs2 B F1 own1 H1 σ ρ _ _ I1 (w.mono x1.ff) (fun y F2 own2 H2 u r2 I2 x2 d2 => ?_) r1
  refine hg F2 own2 H2 v u x y _ _ I2.fh (d1.keep x2) d2 (fun ds F' H' a vs r3 al n dw => ?_) r2
  have I3 := I2.al al
  have al2 := Al.new (o := .lst vs) I3.fh n
  have ex : Ext true F own H F' own2 (upd H' a (.lst vs)) := by simpa using ((x1.trans x2).trans (al.ext true)).trans (al2.ext true)
  refine k ds ρ F' own2 _ a vs r3 (I3.al al2) ex ?_ upd_same (I3.no_F n) (I3.no_own n) dw
  cases e : H a with
  | none => rfl
  | some o => obtain ⟨o', q⟩ := ((x1.trans x2).trans (al.ext true)).hl a o e; rw [q] at n; cases n
def tV1 (r : V → Hp → VK → Prop) (ta : TE) : TE := fun σ H Q => ta σ H fun x H1 => r x H1 Q
theorem he_one (mk : ∀ {ta : TE}, PE C.X a ta → ∃ t, PE C.X e t ∧ ∀ σ H Q, tV1 r1 ta σ H Q → t σ H Q) (hg : Op1 C r1 g1) (x1 : HE C p a f1) : HE C p e (s1 g1 f1) := by
  obtain ⟨t1, ht1, hs1⟩ := x1
  obtain ⟨t, ht, hm⟩ := mk ht1
  refine ⟨_, ht, fun B F own H σ ρ Q R I w k z => hm _ _ _ ?_⟩
  refine hs1 B F own H σ ρ _ _ I w (fun x ρ1 F1 own1 H1 v r1 I1 x1 d1 => ?_) z
  refine hg F1 own1 H1 v x _ _ I1.fh (.inl d1) (fun d F' H' w' r3 al dw => ?_) r1
  exact k d ρ1 F' own1 H' w' r3 (I1.al al) (by simpa using x1.trans (al.ext true)) dw
theorem he_oneR (mk : ∀ {ta : TE}, PE C.X a ta → ∃ t, PE C.X e t ∧ ∀ σ H Q, tV1 r1 ta σ H Q → t σ H Q) (hg : Op1 C r1 g1) (x1 : HR C a h1) : HE C true e (s1r g1 h1) := by
  obtain ⟨t1, ht1, hs1⟩ := x1
  obtain ⟨t, ht, hm⟩ := mk ht1
  refine ⟨_, ht, fun B F own H σ ρ Q R I w k z => hm _ _ _ ?_⟩
  refine hs1 B F own H σ ρ _ _ I w (fun x F1 own1 H1 v r1 I1 x1 d1 => ?_) z
  refine hg F1 own1 H1 v x _ _ I1.fh d1 (fun d F' H' w' r3 al dw => ?_) r1
  exact k d ρ F' own1 H' w' r3 (I1.al al) (by simpa using x1.trans (al.ext true)) dw
theorem hn_one (mk : ∀ {ta : TE}, PE C.X a ta → ∃ t, PE C.X e t ∧ ∀ σ H Q, tV1 r1 ta σ H Q → t σ H Q) (hg : Op1N C r1 k1) (x1 : HE C p a f1) : HN C p e (n1 k1 f1) := by
  obtain ⟨t1, ht1, hs1⟩ := x1
  obtain ⟨t, ht, hm⟩ := mk ht1
  refine ⟨_, ht, fun B F own H σ ρ Q R I w k z => hm _ _ _ ?_⟩
  refine hs1 B F own H σ ρ _ _ I w (fun x ρ1 F1 own1 H1 v r1 I1 x1 d1 => ?_) z
  refine hg F1 own1 H1 v x _ _ I1.fh (.inl d1) (fun ds F' H' a vs r3 al n dw => ?_) r1
  have I3 := I1.al al
  have al2 := Al.new (o := .lst vs) I3.fh n
  have ex : Ext p F own H F' own1 (upd H' a (.lst vs)) := by simpa using (x1.trans (al.ext true)).trans (al2.ext true)
  refine k ds ρ1 F' own1 _ a vs r3 (I3.al al2) ex ?_ upd_same (I3.no_F n) (I3.no_own n) dw
  cases e : H a with
  | none => rfl
  | some o => obtain ⟨o', q⟩ := (x1.trans (al.ext true)).hl a o e; rw [q] at n; cases n
theorem hn_oneR (mk : ∀ {ta : TE}, PE C.X a ta → ∃ t, PE C.X e t ∧ ∀ σ H Q, tV1 r1 ta σ H Q → t σ H Q) (hg : Op1N C r1 k1) (x1 : HR C a h1) : HN C true e (n1r k1 h1) := by
  obtain ⟨t1, ht1, hs1⟩ := x1
  obtain ⟨t, ht, hm⟩ := mk ht1
  refine ⟨_, ht, fun B F own H σ ρ Q R I w k z => hm _ _ _ ?_⟩
  refine hs1 B F own H σ ρ _ _ I w (fun x F1 own1 H1 v r1 I1 x1 d1 => ?_) z
  refine hg F1 own1 H1 v x _ _ I1.fh d1 (fun ds F' H' a vs r3 al n dw => ?_) r1
  have I3 := I1.al al
  have al2 := Al.new (o := .lst vs) I3.fh n
  have ex : Ext true F own H F' own1 (upd H' a (.lst vs)) := by simpa using (x1.trans (al.ext true)).trans (al2.ext true)
  refine k ds ρ F' own1 _ a vs r3 (I3.al al2) ex ?_ upd_same (I3.no_F n) (I3.no_own n) dw
  cases e : H a with
  | none => rfl
  | some o => obtain ⟨o', q⟩ := (x1.trans (al.ext true)).hl a o e; rw [q] at n; cases n
end
theorem hx_var {i : Nat} {x : Str} {pos : Pos} (h : PE C.X (.Name x pos) (tVar i)) : HE C true (.Name x pos) (sVar i) := he_var h
theorem hx_own {i : Nat} {x : Str} {pos : Pos} (h : PE C.X (.Name x pos) (tVar i)) : HR C (.Name x pos) (rOwn i) := hr_own h
theorem hx_r {e : Expr} {f : EF} (h : HE C true e f) : HR C e (rOf f) := hr_of h
def sN (f : NF) : EF := fun ρ R => f ρ fun ds ρ' => R (.list ds) ρ'
theorem hx_new {p : Bool} {e : Expr} {f : NF} (h : HN C p e f) : HE C p e (sN f) := he_new h

/-! ### operators -/
def gI (f : Int → Int → D) : G2 := fun x y R => ∃ i j, x = .int i ∧ y = .int j ∧ R (f i j)
def gIc (c : Int → Int → Prop) (f : Int → Int → D) : G2 := fun x y R => ∃ i j, x = .int i ∧ y = .int j ∧ c i j ∧ R (f i j)
def Pln (K : PySem.W.Frag) (d : D) (v : V) : Prop := ∀ F, Rp K F v d
theorem o2_I {f : Int → Int → V} {g : Int → Int → D} (h : ∀ i j F, Rp C.X.K F (f i j) (g i j)) : Op2 C (rI0 f) (gI g) := by
  intro F own H v u x y Q R e dv du k q
  obtain ⟨i, j, rfl, rfl, q⟩ := q
  exact ⟨i, j, dv.int, du.int, k _ F H _ q (.refl e) (h i j F)⟩
theorem o2_Ic {c : Int → Int → Prop} {f : Int → Int → V} {g : Int → Int → D} (h : ∀ i j F, Rp C.X.K F (f i j) (g i j)) : Op2 C (rI c f) (gIc c g) := by
  intro F own H v u x y Q R e dv du k q
  obtain ⟨i, j, rfl, rfl, hc, q⟩ := q
  exact ⟨i, j, dv.int, du.int, hc, k _ F H _ q (.refl e) (h i j F)⟩
def gAdd : G2 := gI fun i j => .int (i + j)
def gSub : G2 := gI fun i j => .int (i - j)
def gMul : G2 := gIc CMul fun i j => .int (i * j)
def gDiv : G2 := gIc CDiv fun i j => .int (i / j)
def gDivN : G2 := gIc CDivN fun i j => .int (i.fdiv j)
def gMod : G2 := gIc (fun _ j => 0 < j) fun i j => .int (i % j)
def gModN : G2 := gIc (fun _ j => j ≠ 0) fun i j => .int (i.fmod j)
def gLt : G2 := gI fun i j => .bool (decide (i < j))
def gLe : G2 := gI fun i j => .bool (decide (i ≤ j))
def gGt : G2 := gI fun i j => .bool (decide (j < i))
def gGe : G2 := gI fun i j => .bool (decide (j ≤ i))
theorem o_add : Op2 C (rI0 fun i j => .int (i + j)) gAdd := o2_I fun _ _ _ => .int _
theorem o_sub : Op2 C (rI0 fun i j => .int (i - j)) gSub := o2_I fun _ _ _ => .int _
theorem o_mul : Op2 C (rI CMul fun i j => .int (i * j)) gMul := o2_Ic fun _ _ _ => .int _
theorem o_div : Op2 C (rI CDiv fun i j => .int (i / j)) gDiv := o2_Ic fun _ _ _ => .int _
theorem o_mod : Op2 C (rI (fun _ j => 0 < j) fun i j => .int (i % j)) gMod := o2_Ic fun _ _ _ => .int _
theorem o_lt : Op2 C (rI0 fun i j => .bl (decide (i < j))) gLt := o2_I fun _ _ _ => .bl _
theorem o_le : Op2 C (rI0 fun i j => .bl (decide (i ≤ j))) gLe := o2_I fun _ _ _ => .bl _
theorem o_gt : Op2 C (rI0 fun i j => .bl (decide (j < i))) gGt := o2_I fun _ _ _ => .bl _
theorem o_ge : Op2 C (rI0 fun i j => .bl (decide (j ≤ i))) gGe := o2_I fun _ _ _ => .bl _
/-- equal data -/
def gEq : G2 := fun x y R => SeqAt.shaped x = true ∧ SeqAt.shaped y = true ∧ R (.bool (PyData.eqv x y))
def gNe : G2 := fun x y R => SeqAt.shaped x = true ∧ SeqAt.shaped y = true ∧ R (.bool (!PyData.eqv x y))
theorem o_eq : Op2 C (rEqD C.X.K) gEq := by
  intro F own H v u x y Q R e dv du k ⟨h1, h2, q⟩
  exact ⟨x, y, dv.dp e, du.dp e, h1, h2, k _ F H _ q (.refl e) (.bl _)⟩
theorem o_ne : Op2 C (rNeD C.X.K) gNe := by
  intro F own H v u x y Q R e dv du k ⟨h1, h2, q⟩
  exact ⟨x, y, dv.dp e, du.dp e, h1, h2, k _ F H _ q (.refl e) (.bl _)⟩
/-- texts -/
def gEqS : G2 := fun x y R => ∃ a b : Str, x = .str a ∧ y = .str b ∧ R (.bool (decide (a = b)))
def gNeS : G2 := fun x y R => ∃ a b : Str, x = .str a ∧ y = .str b ∧ R (.bool (!decide (a = b)))
theorem o_eqS : Op2 C rEq gEqS := by
  intro F own H v u x y Q R e dv du k ⟨a, b, e1, e2, q⟩
  subst e1; subst e2
  obtain rfl := dv.str
  obtain rfl := du.str
  refine ⟨rfl, ?_⟩
  have : (decide (V.str a = V.str b)) = decide (a = b) := by simp
  rw [this]
  exact k _ F H _ q (.refl e) (.bl _)
theorem o_neS : Op2 C rNe gNeS := by
  intro F own H v u x y Q R e dv du k ⟨a, b, e1, e2, q⟩
  subst e1; subst e2
  obtain rfl := dv.str
  obtain rfl := du.str
  refine ⟨rfl, ?_⟩
  have : (decide (V.str a = V.str b)) = decide (a = b) := by simp
  rw [this]
  exact k _ F H _ q (.refl e) (.bl _)
def gAddS : G2 := fun x y R => ∃ a b : Str, x = .str a ∧ y = .str b ∧ a.length + b.length ≤ sizeLine ∧ R (.str (a ++ b))
theorem o_addS : Op2 C (fun x y H Q => ∃ i j, x = .str i ∧ y = .str j ∧ i.length + j.length ≤ sizeLine ∧ Q (.str (i ++ j)) H) gAddS := by
  intro F own H v u x y Q R e dv du k ⟨a, b, e1, e2, hz, q⟩
  subst e1; subst e2
  exact ⟨a, b, dv.str, du.str, hz, k _ F H _ q (.refl e) (.str _)⟩
/-- is None, is True -/
def isN : D → Bool
  | .none => true
  | _ => false
def gIsN : G2 := fun x y R => y = .none ∧ R (.bool (isN x))
def gNotN : G2 := fun x y R => y = .none ∧ R (.bool (!isN x))
theorem dec_non {K : PySem.W.Frag} {F H : Hp} {own : Own} {v : V} {x : D} (h : DpR K F own H v x) : decide (v = .non) = isN x := by
  have := h.non_iff
  cases x <;> simp_all [isN]
theorem o_isN : Op2 C (fun x y H Q => y = .non ∧ Q (.bl (decide (x = .non))) H) gIsN := by
  intro F own H v u x y Q R e dv du k ⟨h1, q⟩
  subst h1
  refine ⟨du.none, ?_⟩
  rw [dec_non dv]
  exact k _ F H _ q (.refl e) (.bl _)
theorem o_notN : Op2 C (fun x y H Q => y = .non ∧ Q (.bl (!decide (x = .non))) H) gNotN := by
  intro F own H v u x y Q R e dv du k ⟨h1, q⟩
  subst h1
  refine ⟨du.none, ?_⟩
  rw [dec_non dv]
  exact k _ F H _ q (.refl e) (.bl _)
def gIsB : G2 := fun x y R => ∃ a b : Bool, x = .bool a ∧ y = .bool b ∧ R (.bool (decide (a = b)))
def gNotB : G2 := fun x y R => ∃ a b : Bool, x = .bool a ∧ y = .bool b ∧ R (.bool (!decide (a = b)))
theorem o_isB : Op2 C rIsB gIsB := by
  intro F own H v u x y Q R e dv du k ⟨a, b, e1, e2, q⟩
  subst e1; subst e2
  exact ⟨a, b, dv.bool, du.bool, k _ F H _ q (.refl e) (.bl _)⟩
theorem o_notB : Op2 C rNotB gNotB := by
  intro F own H v u x y Q R e dv du k ⟨a, b, e1, e2, q⟩
  subst e1; subst e2
  exact ⟨a, b, dv.bool, du.bool, k _ F H _ q (.refl e) (.bl _)⟩
/-- x in a list -/
def gIn (neg : Bool) : G2 := fun x y R => ∃ ds, y = .list ds ∧ SeqAt.shaped x = true ∧ SeqAt.shaped y = true ∧ R (.bool (if neg then !ds.any (fun z => PyData.eqv z x) else ds.any fun z => PyData.eqv z x))
theorem o_in : Op2 C (rInD C.X.K) (gIn false) := by
  intro F own H v u x y Q R e dv du k ⟨ds, e1, h1, h2, q⟩
  subst e1
  exact ⟨x, ds, dv.dp e, du.dp e, h1, h2, k _ F H _ q (.refl e) (.bl _)⟩
theorem o_notin : Op2 C (rNotInD C.X.K) (gIn true) := by
  intro F own H v u x y Q R e dv du k ⟨ds, e1, h1, h2, q⟩
  subst e1
  exact ⟨x, ds, dv.dp e, du.dp e, h1, h2, k _ F H _ q (.refl e) (.bl _)⟩
/-- flat data -/
def flatD : D → Bool
  | .none | .bool _ | .int _ | .str _ => true
  | _ => false
theorem flat_of {K : PySem.W.Frag} {F : Hp} {v : V} {d : D} (h : Rp K F v d) (f : flatD d = true) : flatV v = true := by
  cases h <;> first | rfl | simp [flatD] at f
theorem eqV_of {K : PySem.W.Frag} {F G : Hp} {v u : V} {x y : D} (h : Rp K F v x) (h' : Rp K G u y) (f : flatD x = true) (f' : flatD y = true) : eqV v u = PyData.eqv x y := by
  cases h <;> cases h' <;> first | rfl | (simp [flatD] at f f'; done) | (simp [eqV, PyData.eqv]; done) | (simp [flatD] at f; done) | (simp [flatD] at f'; done)
theorem all_flat {K : PySem.W.Frag} {F : Hp} : ∀ {vs : List V} {ds : List D}, RpAll K F vs ds → ds.all flatD = true → vs.all flatV = true
  | _, _, .nil, _ => rfl
  | _, _, .cons a t, h => by
    simp only [List.all_cons, Bool.and_eq_true] at h ⊢
    exact ⟨flat_of a h.1, all_flat t h.2⟩
theorem inV_of {K : PySem.W.Frag} {F G : Hp} {v : V} {x : D} (h : Rp K G v x) (f : flatD x = true) : ∀ {vs : List V} {ds : List D}, RpAll K F vs ds → ds.all flatD = true → inV v vs = ds.any fun z => PyData.eqv z x
  | _, _, .nil, _ => rfl
  | _, _, .cons a t, hf => by
    simp only [List.all_cons, Bool.and_eq_true] at hf
    unfold inV
    rw [List.any_cons, List.any_cons, eqV_of a h hf.1 f]
    have := inV_of h f t hf.2
    unfold inV at this
    rw [this]
def seqD : D → Option (List D)
  | .list ds => some ds
  | .tuple ds => some ds
  | _ => none
theorem seqR {K : PySem.W.Frag} {F H : Hp} {own : Own} {v : V} {x : D} {ds : List D} (e : Same F H) (h : DpR K F own H v x) (hx : seqD x = some ds) : ∃ a vs, v = .ref a ∧ (SqL K H a vs ∨ SqT K H a vs) ∧ RpAll K F vs ds := by
  cases x <;> simp [seqD] at hx
  · subst hx
    obtain ⟨a, vs, e1, e2, r⟩ := h.list e
    exact ⟨a, vs, e1, .inl (.of e2), r⟩
  · subst hx
    obtain ⟨a, vs, e1, e2, r⟩ := h.tuple
    exact ⟨a, vs, e1, .inr (sq_mono e e2), r⟩
theorem DpR.rp_flat {K : PySem.W.Frag} {F H : Hp} {own : Own} {v : V} {x : D} (h : DpR K F own H v x) (f : flatD x = true) : Rp K F v x := by
  rcases h with h | ⟨a, vs, ds, i, rfl, rfl, o, q, r⟩
  · exact h
  · simp [flatD] at f
def gInF (neg : Bool) : G2 := fun x y R => ∃ ds, seqD y = some ds ∧ flatD x = true ∧ ds.all flatD = true ∧ R (.bool (if neg then !ds.any (fun z => PyData.eqv z x) else ds.any fun z => PyData.eqv z x))
theorem o_inF {neg : Bool} : Op2 C (rIn C.X.K neg) (gInF neg) := by
  intro F own H v u x y Q R e dv du k ⟨ds, e1, h1, h2, q⟩
  obtain ⟨a, vs, rfl, hs, r⟩ := seqR e du e1
  refine ⟨a, vs, rfl, hs, flat_of (dv.rp_flat h1) h1, all_flat r h2, ?_⟩
  rw [inV_of (dv.rp_flat h1) h1 r h2]
  exact k _ F H _ q (.refl e) (.bl _)
/-- a sign in a text -/
def gInS (neg : Bool) : G2 := fun x y R => ∃ (c : Nat) (z : Str), x = .str ⟨#[c]⟩ ∧ y = .str z ∧ R (.bool (if neg then !decide (c ∈ z.cps.toList) else decide (c ∈ z.cps.toList)))
theorem o_inS : Op2 C (fun x y H Q => ∃ (c : Nat) (z : Str), x = .str ⟨#[c]⟩ ∧ y = .str z ∧ Q (.bl (decide (c ∈ z.cps.toList))) H) (gInS false) := by
  intro F own H v u x y Q R e dv du k ⟨c, z, e1, e2, q⟩
  subst e1; subst e2
  exact ⟨c, z, dv.str, du.str, k _ F H _ q (.refl e) (.bl _)⟩
theorem o_notinS : Op2 C (fun x y H Q => ∃ (c : Nat) (z : Str), x = .str ⟨#[c]⟩ ∧ y = .str z ∧ Q (.bl (!decide (c ∈ z.cps.toList))) H) (gInS true) := by
  intro F own H v u x y Q R e dv du k ⟨c, z, e1, e2, q⟩
  subst e1; subst e2
  exact ⟨c, z, dv.str, du.str, k _ F H _ q (.refl e) (.bl _)⟩

/-! ### subscripts -/
def gIx : G2 := fun x y R => ∃ i, y = .int i ∧ ((∃ ds d, seqD x = some ds ∧ atI ds i = some d ∧ R d) ∨ ∃ (z : Str) (c : Nat), x = .str z ∧ z.length ≤ sizeLine ∧ atI z.cps.toList i = some c ∧ R (.str ⟨#[c]⟩))
theorem atI_rp {K : PySem.W.Frag} {F : Hp} {vs : List V} {ds : List D} {i : Int} {d : D} (r : RpAll K F vs ds) (h : atI ds i = some d) : ∃ v, atI vs i = some v ∧ Rp K F v d := by
  unfold atI at h ⊢
  rw [dpa_len r]
  cases e : ixN ds.length i with
  | none => rw [e] at h; cases h
  | some j =>
    rw [e] at h
    simp only [Option.bind_some] at h ⊢
    exact dpa_get' r h
theorem o_ix : Op2 C (rIx C.X.K) gIx := by
  intro F own H v u x y Q R e dv du k ⟨i, e1, q⟩
  subst e1
  obtain rfl := du.int
  rcases q with ⟨ds, d, e2, e3, q⟩ | ⟨z, c, e2, hz, e3, q⟩
  · cases x <;> simp [seqD] at e2
    · subst e2
      obtain ⟨a, vs, rfl, hs, r⟩ := dv.list e
      obtain ⟨w, hw, dw⟩ := atI_rp r e3
      exact .inl ⟨a, vs, i, w, rfl, rfl, .of hs, hw, k _ F H _ q (.refl e) dw⟩
    · subst e2
      obtain ⟨a, vs, rfl, hs, r⟩ := dv.tuple
      obtain ⟨w, hw, dw⟩ := atI_rp r e3
      exact .inr (.inl ⟨a, vs, i, w, rfl, rfl, sq_mono e hs, hw, k _ F H _ q (.refl e) dw⟩)
  · subst e2
    obtain rfl := dv.str
    exact .inr (.inr ⟨z, i, c, rfl, rfl, hz, e3, k _ F H _ q (.refl e) (.str _)⟩)
/-! ### lists put together -/
def kCat : N2 := fun x y R => ∃ ds es, x = .list ds ∧ y = .list es ∧ ds.length + es.length ≤ sizeLine ∧ R (ds ++ es)
theorem o_cat : Op2N C rCat kCat := by
  intro F own H v u x y Q R e dv du k ⟨ds, es, e1, e2, hz, q⟩
  subst e1; subst e2
  obtain ⟨a, vs, rfl, h1, r1⟩ := dv.list e
  obtain ⟨b, us, rfl, h2, r2⟩ := du.list e
  refine ⟨a, b, vs, us, rfl, rfl, h1, h2, by rw [dpa_len r1, dpa_len r2]; exact hz, fun p np => ?_⟩
  exact k _ F H p _ q (.refl e) np (dpa_app r1 r2)
theorem rep_flat {α : Type} (k : Nat) (l : List α) : (List.replicate k l).flatten.length = k * l.length := by
  induction k with
  | zero => simp
  | succ k ih => rw [List.replicate_succ, List.flatten_cons, List.length_append, ih, Nat.succ_mul, Nat.add_comm]
theorem dpa_rep {K : PySem.W.Frag} {F : Hp} {vs : List V} {ds : List D} (r : RpAll K F vs ds) : ∀ k : Nat, RpAll K F (List.replicate k vs).flatten (List.replicate k ds).flatten
  | 0 => .nil
  | k + 1 => by
    rw [List.replicate_succ, List.replicate_succ, List.flatten_cons, List.flatten_cons]
    exact dpa_app r (dpa_rep r k)
def kRep : N2 := fun x y R => ∃ ds k, x = .list ds ∧ y = .int k ∧ -(2 ^ 63) ≤ k ∧ k < 2 ^ 63 ∧ ds.length * k.toNat ≤ sizeLine ∧ R (List.replicate k.toNat ds).flatten
theorem o_rep : Op2N C rRep kRep := by
  intro F own H v u x y Q R e dv du k ⟨ds, n, e1, e2, h1, h2, hz, q⟩
  subst e1; subst e2
  obtain ⟨a, vs, rfl, h3, r1⟩ := dv.list e
  obtain rfl := du.int
  refine ⟨a, n, vs, rfl, rfl, h3, h1, h2, by rw [dpa_len r1]; exact hz, fun p np => ?_⟩
  exact k _ F H p _ q (.refl e) np (dpa_rep r1 _)
/-- tuples put together -/
def gCatT : G2 := fun x y R => ∃ ds es, x = .tuple ds ∧ y = .tuple es ∧ ds.length + es.length ≤ sizeLine ∧ R (.tuple (ds ++ es))
end TL
set_option Elab.async false
set_option linter.all false
set_option maxRecDepth 100000
namespace TL
open PySem PySem.Spec PyProof.Rows L2
variable {C : Ct}

theorem o_catT : Op2 C (rCatA C.X.K) gCatT := by
  intro F own H v u x y Q R e dv du k ⟨ds, es, e1, e2, hz, q⟩
  subst e1; subst e2
  obtain ⟨a, vs, rfl, h1, r1⟩ := dv.tuple
  obtain ⟨b, us, rfl, h2, r2⟩ := du.tuple
  refine ⟨a, b, vs, us, rfl, rfl, sq_mono e h1, sq_mono e h2, by rw [dpa_len r1, dpa_len r2]; exact hz, fun z => ?_, fun _ z => ?_, fun _ _ p np => ?_⟩
  · subst z
    cases r1
    exact k _ F H _ q (.refl e) (.tup h2 r2)
  · subst z
    cases r2
    rw [List.append_nil] at q
    exact k _ F H _ q (.refl e) (.tup h1 r1)
  · have al := Al.one (F := F) (o := .tup (vs ++ us)) e np
    exact k _ _ _ _ q al (.tup (.of upd_same) (dpa_mono al.ff (dpa_app r1 r2)))

/-! ### displays -/
def aNil : NF := fun ρ R => R [] ρ
def aCons (f : EF) (g : NF) : NF := fun ρ R => f ρ fun d ρ1 => g ρ1 fun ds ρ2 => R (d :: ds) ρ2
theorem ha_nil : HA C true [] aNil := ⟨_, pa_nil, fun B F own H σ ρ Q R I w k q => k [] ρ F own H [] q I .refl .nil⟩
theorem ha_cons {p q : Bool} {e : Expr} {es : List Expr} {f : EF} {g : NF} (h : HE C p e f) (hr : HA C q es g) (hs : starEach (e :: es) C.X.env = (false, eval e C.X.env) :: starEach es C.X.env := by rfl) : HA C (p && q) (e :: es) (aCons f g) := by
  obtain ⟨t1, ht1, hs1⟩ := h
  obtain ⟨t2, ht2, hs2⟩ := hr
  refine ⟨_, pa_cons ht1 ht2 hs, fun B F own H σ ρ Q R I w k z => ?_⟩
  refine hs1 B F own H σ ρ _ _ I w (fun x ρ1 F1 own1 H1 v r1 I1 x1 d1 => ?_) z
  refine hs2 B F1 own1 H1 σ ρ1 _ _ I1 (w.mono x1.ff) (fun ds ρ2 F2 own2 H2 vs r2 I2 x2 d2 => ?_) r1
  exact k (x :: ds) ρ2 F2 own2 H2 (v :: vs) r2 I2 (x1.trans x2) (.cons (dp_mono x2.ff d1) d2)
def sTup (f : NF) : EF := fun ρ R => f ρ fun ds ρ1 => ds.length ≤ sizeLine ∧ R (.tuple ds) ρ1
def nLst (f : NF) : NF := fun ρ R => f ρ fun ds ρ1 => ds.length ≤ sizeLine ∧ R ds ρ1
theorem he_tup {p : Bool} {es : List Expr} {k : Nat} {pos : Pos} {f : NF} (h : HA C p es f) : HE C p (.Tuple es k pos) (sTup f) := by
  obtain ⟨t1, ht1, hs1⟩ := h
  refine ⟨_, pe_tup ht1, fun B F own H σ ρ Q R I w k z => ?_⟩
  refine hs1 B F own H σ ρ _ _ I w (fun ds ρ1 F1 own1 H1 vs r1 I1 x1 d1 => ?_) z
  refine ⟨by rw [dpa_len d1]; exact r1.1, fun p np => ?_⟩
  have al := Al.one (F := F1) (o := .tup vs) I1.fh np
  exact k _ ρ1 _ own1 _ _ r1.2 (I1.al al) (by simpa using x1.trans (al.ext true)) (.tup (.of upd_same) (dpa_mono al.ff d1))
theorem hn_lst {p : Bool} {es : List Expr} {pos : Pos} {f : NF} (h : HA C p es f) : HN C p (.List es pos) (nLst f) := by
  obtain ⟨t1, ht1, hs1⟩ := h
  refine ⟨_, pe_lst ht1, fun B F own H σ ρ Q R I w k z => ?_⟩
  refine hs1 B F own H σ ρ _ _ I w (fun ds ρ1 F1 own1 H1 vs r1 I1 x1 d1 => ?_) z
  refine ⟨by rw [dpa_len d1]; exact r1.1, fun p np => ?_⟩
  have al := Al.new (F := F1) (o := .lst vs) I1.fh np
  refine k _ ρ1 _ own1 _ _ _ r1.2 (I1.al al) (by simpa using x1.trans (al.ext true)) ?_ upd_same (I1.no_F np) (I1.no_own np) d1
  cases e : H p with
  | none => rfl
  | some o => obtain ⟨o', q⟩ := x1.hl p o e; rw [q] at np; cases np

/-! ### tests -/
/-- a value that is a bool, as a test -/
def tBool (f : EF) : TF := fun ρ R => f ρ fun d ρ1 => ∃ b, d = .bool b ∧ R b ρ1
theorem ht_val {p : Bool} {e : Expr} {f : EF} (h : HE C p e f) (he : ∀ whole, isTrue e C.X.env whole = (do let v ← whole; standAt e.pos; holding [v] (truthy v)) := by intro _; rfl) : HT C p e (tBool f) := by
  obtain ⟨t1, ht1, hs1⟩ := h
  refine ⟨_, pt_val ht1 he, fun B F own H σ ρ Q R I w k z => ?_⟩
  refine hs1 B F own H σ ρ _ _ I w (fun x ρ1 F1 own1 H1 v r1 I1 x1 d1 => ?_) z
  obtain ⟨b, rfl, r⟩ := r1
  cases d1
  exact ⟨b, rfl, k b ρ1 F1 own1 H1 r I1 x1⟩
/-- a comparison as a test -/
theorem ht_two {p q : Bool} {e a b : Expr} {r : R2} {f1 f2 : EF} {g2 : G2} (mk : ∀ {ta tb : TE}, PE C.X a ta → PE C.X b tb → PT C.X e (tTest (tOp r ta tb))) (hg : Op2 C r g2) (x1 : HE C p a f1) (x2 : HE C q b f2) : HT C (p && q) e (tBool (s2 g2 f1 f2)) := by
  obtain ⟨t1, ht1, hs1⟩ := x1
  obtain ⟨t2, ht2, hs2⟩ := x2
  refine ⟨_, mk ht1 ht2, fun B F own H σ ρ Q R I w k z => ?_⟩
  refine hs1 B F own H σ ρ _ _ I w (fun x ρ1 F1 own1 H1 v r1 I1 x1 d1 => ?_) z
  refine hs2 B F1 own1 H1 σ ρ1 _ _ I1 (w.mono x1.ff) (fun y ρ2 F2 own2 H2 u r2 I2 x2 d2 => ?_) r1
  refine hg F2 own2 H2 v u x y _ _ I2.fh (.inl (dp_mono x2.ff d1)) (.inl d2) (fun d F' H' w' r3 al dw => ?_) r2
  obtain ⟨b, rfl, r3⟩ := r3
  cases dw
  exact ⟨b, rfl, k b ρ2 F' own2 H' r3 (I2.al al) (by simpa using (x1.trans x2).trans (al.ext true))⟩
theorem ht_twoR {e a b : Expr} {r : R2} {h1 h2 : RF} {g2 : G2} (mk : ∀ {ta tb : TE}, PE C.X a ta → PE C.X b tb → PT C.X e (tTest (tOp r ta tb))) (hg : Op2 C r g2) (x1 : HR C a h1) (x2 : HR C b h2) : HT C true e (tBool (s2r g2 h1 h2)) := by
  obtain ⟨t1, ht1, hs1⟩ := x1
  obtain ⟨t2, ht2, hs2⟩ := x2
  refine ⟨_, mk ht1 ht2, fun B F own H σ ρ Q R I w k z => ?_⟩
  refine hs1 B F own H σ ρ _ _ I w (fun x F1 own1 H1 v r1 I1 x1 d1 => ?_) z
  refine hs2 B F1 own1 H1 σ ρ _ _ I1 (w.mono x1.ff) (fun y F2 own2 H2 u r2 I2 x2 d2 => ?_) r1
  refine hg F2 own2 H2 v u x y _ _ I2.fh (d1.keep x2) d2 (fun d F' H' w' r3 al dw => ?_) r2
  obtain ⟨b, rfl, r3⟩ := r3
  cases dw
  exact ⟨b, rfl, k b ρ F' own2 H' r3 (I2.al al) (by simpa using (x1.trans x2).trans (al.ext true))⟩
/-- a chain of two comparisons -/
def sChain (g g' : G2) (f1 f2 f3 : EF) : EF := fun ρ R => f1 ρ fun x ρ1 => f2 ρ1 fun y ρ2 => g x y fun z => ∃ b, z = .bool b ∧ (if b = true then f3 ρ2 fun w ρ3 => g' y w fun z2 => R z2 ρ3 else R (.bool false) ρ2)
theorem chain_core {p1 p2 p3 : Bool} {a b c : Expr} {r r' : R2} {f1 f2 f3 : EF} {g g' : G2} {t1 t2 t3 : TE} (hg : Op2 C r g) (hg' : Op2 C r' g')
    (hs1 : ∀ B F own H σ ρ Q R, SInv C.X.K B F own H σ ρ → WOk C B F → (∀ d ρ' F' own' H' v, R d ρ' → SInv C.X.K B F' own' H' σ ρ' → Ext p1 F own H F' own' H' → Rp C.X.K F' v d → Q v H') → f1 ρ R → t1 σ H Q)
    (hs2 : ∀ B F own H σ ρ Q R, SInv C.X.K B F own H σ ρ → WOk C B F → (∀ d ρ' F' own' H' v, R d ρ' → SInv C.X.K B F' own' H' σ ρ' → Ext p2 F own H F' own' H' → Rp C.X.K F' v d → Q v H') → f2 ρ R → t2 σ H Q)
    (hs3 : ∀ B F own H σ ρ Q R, SInv C.X.K B F own H σ ρ → WOk C B F → (∀ d ρ' F' own' H' v, R d ρ' → SInv C.X.K B F' own' H' σ ρ' → Ext p3 F own H F' own' H' → Rp C.X.K F' v d → Q v H') → f3 ρ R → t3 σ H Q) :
    ∀ B F own H σ ρ Q R, SInv C.X.K B F own H σ ρ → WOk C B F → (∀ d ρ' F' own' H' v, R d ρ' → SInv C.X.K B F' own' H' σ ρ' → Ext (p1 && p2 && p3) F own H F' own' H' → Rp C.X.K F' v d → Q v H') → sChain g g' f1 f2 f3 ρ R → tChain r r' t1 t2 t3 σ H Q := by
  intro B F own H σ ρ Q R I w k z
  refine hs1 B F own H σ ρ _ _ I w (fun x ρ1 F1 own1 H1 v r1 I1 x1 d1 => ?_) z
  refine hs2 B F1 own1 H1 σ ρ1 _ _ I1 (w.mono x1.ff) (fun y ρ2 F2 own2 H2 u r2 I2 x2 d2 => ?_) r1
  refine hg F2 own2 H2 v u x y _ _ I2.fh (.inl (dp_mono x2.ff d1)) (.inl d2) (fun d F3 H3 w' r3 al dw => ?_) r2
  obtain ⟨b, rfl, r3⟩ := r3
  cases dw
  refine ⟨b, rfl, ?_⟩
  have I3 := I2.al al
  have ex : Ext (p1 && p2) F own H F3 own2 H3 := by simpa using (x1.trans x2).trans (al.ext true)
  cases b with
  | false =>
    have := k _ ρ2 F3 own2 H3 (.bl false) r3 I3 ⟨ex.ff, fun a o h c => ex.hh a o h (by
      rcases c with c | c
      · left; revert c; cases p1 <;> cases p2 <;> cases p3 <;> simp
      · exact .inr c), ex.oo, ex.on, ex.hl, ex.fo⟩ (.bl _)
    simpa using this
  | true =>
    rw [if_pos rfl] at r3 ⊢
    refine hs3 B F3 own2 H3 σ ρ2 _ _ I3 (w.mono ex.ff) (fun y3 ρ3 F4 own4 H4 u4 r4 I4 x4 d4 => ?_) r3
    refine hg' F4 own4 H4 u u4 y y3 _ _ I4.fh (.inl (dp_mono (al.ff.trans x4.ff) d2)) (.inl d4) (fun d F' H' w' r5 al' dw => ?_) r4
    exact k d ρ3 F' own4 H' w' r5 (I4.al al') (by simpa using (ex.trans x4).trans (al'.ext true)) dw
theorem he_chain {p1 p2 p3 : Bool} {a b c : Expr} {o1 o2 : CmpOp} {pos : Pos} {r r' : R2} {f1 f2 f3 : EF} {g g' : G2} (ho : OpR C.X (compareOp o1) r) (ho' : OpR C.X (compareOp o2) r') (hg : Op2 C r g) (hg' : Op2 C r' g') (x1 : HE C p1 a f1) (x2 : HE C p2 b f2) (x3 : HE C p3 c f3)
    (hm : lastMarks [o1, o2] [b, c] = false := by with_unfolding_all rfl) : HE C (p1 && p2 && p3) (.Compare a [o1, o2] [b, c] pos) (sChain g g' f1 f2 f3) := by
  obtain ⟨t1, ht1, hs1⟩ := x1
  obtain ⟨t2, ht2, hs2⟩ := x2
  obtain ⟨t3, ht3, hs3⟩ := x3
  exact ⟨_, pe_chain ho ho' ht1 ht2 ht3 hm, chain_core (a := a) (b := b) (c := c) hg hg' hs1 hs2 hs3⟩
theorem ht_chain {p1 p2 p3 : Bool} {a b c : Expr} {o1 o2 : CmpOp} {pos : Pos} {r r' : R2} {f1 f2 f3 : EF} {g g' : G2} (ho : OpR C.X (compareOp o1) r) (ho' : OpR C.X (compareOp o2) r') (hg : Op2 C r g) (hg' : Op2 C r' g') (x1 : HE C p1 a f1) (x2 : HE C p2 b f2) (x3 : HE C p3 c f3)
    (hm : lastMarks [o1, o2] [b, c] = false := by with_unfolding_all rfl) : HT C (p1 && p2 && p3) (.Compare a [o1, o2] [b, c] pos) (tBool (sChain g g' f1 f2 f3)) := by
  obtain ⟨t1, ht1, hs1⟩ := x1
  obtain ⟨t2, ht2, hs2⟩ := x2
  obtain ⟨t3, ht3, hs3⟩ := x3
  refine ⟨_, pt_chain ho ho' ht1 ht2 ht3 hm, fun B F own H σ ρ Q R I w k z => ?_⟩
  refine chain_core (a := a) (b := b) (c := c) hg hg' hs1 hs2 hs3 B F own H σ ρ _ (fun d ρ1 => ∃ b, d = .bool b ∧ R b ρ1) I w (fun d ρ' F' own' H' v r J x dv => ?_) z
  obtain ⟨b, rfl, r⟩ := r
  cases dv
  exact ⟨b, rfl, k b ρ' F' own' H' r J x⟩
/-- and, or, not -/
def HW (C : Ct) (p : Bool) (e : Expr) (f : TF) : Prop := ∃ t, PW C.X e t ∧ ∀ B F own H σ ρ Q R, SInv C.X.K B F own H σ ρ → WOk C B F →
  (∀ b ρ' F' own' H', R b ρ' → SInv C.X.K B F' own' H' σ ρ' → Ext p F own H F' own' H' → Q b H') → f ρ R → t σ H Q
theorem HW.ht {p : Bool} {e : Expr} {f : TF} (h : HW C p e f) : HT C p e f := by
  obtain ⟨t, ht, hs⟩ := h
  exact ⟨t, ht.pt, hs⟩
def tAnd2 (f g : TF) : TF := fun ρ R => f ρ fun b ρ1 => if b = true then g ρ1 R else R false ρ1
def tOr2 (f g : TF) : TF := fun ρ R => f ρ fun b ρ1 => if b = true then R true ρ1 else g ρ1 R
def tNot1 (f : TF) : TF := fun ρ R => f ρ fun b ρ1 => R (!b) ρ1
theorem Ext.andl {p q : Bool} {F own H F' own' H'} (ex : Ext p F own H F' own' H') : Ext (p && q) F own H F' own' H' :=
  ⟨ex.ff, fun a o h c => ex.hh a o h (by
    rcases c with c | c
    · left; revert c; cases p <;> cases q <;> simp
    · exact .inr c), ex.oo, ex.on, ex.hl, ex.fo⟩
theorem hw_and1 {p : Bool} {a : Expr} {pos : Pos} {f : TF} (h : HT C p a f) : HW C p (.BoolOp .And [a] pos) f := by
  obtain ⟨t, ht, hs⟩ := h
  exact ⟨t, pw_and1 ht, hs⟩
theorem hw_or1 {p : Bool} {a : Expr} {pos : Pos} {f : TF} (h : HT C p a f) : HW C p (.BoolOp .Or [a] pos) f := by
  obtain ⟨t, ht, hs⟩ := h
  exact ⟨t, pw_or1 ht, hs⟩
theorem hw_and {p q : Bool} {a b : Expr} {rest : List Expr} {pos : Pos} {f g : TF} (h1 : HT C p a f) (h2 : HW C q (.BoolOp .And (b :: rest) pos) g) : HW C (p && q) (.BoolOp .And (a :: b :: rest) pos) (tAnd2 f g) := by
  obtain ⟨t1, ht1, hs1⟩ := h1
  obtain ⟨t2, ht2, hs2⟩ := h2
  refine ⟨_, pw_and ht1 ht2, fun B F own H σ ρ Q R I w k z => ?_⟩
  refine hs1 B F own H σ ρ _ _ I w (fun b ρ1 F1 own1 H1 r1 I1 x1 => ?_) z
  cases b with
  | true =>
    rw [if_pos rfl] at r1 ⊢
    exact hs2 B F1 own1 H1 σ ρ1 _ _ I1 (w.mono x1.ff) (fun b ρ2 F2 own2 H2 r2 I2 x2 => k b ρ2 F2 own2 H2 r2 I2 (x1.trans x2)) r1
  | false => simpa using k false ρ1 F1 own1 H1 (by simpa using r1) I1 x1.andl
theorem hw_or {p q : Bool} {a b : Expr} {rest : List Expr} {pos : Pos} {f g : TF} (h1 : HT C p a f) (h2 : HW C q (.BoolOp .Or (b :: rest) pos) g) : HW C (p && q) (.BoolOp .Or (a :: b :: rest) pos) (tOr2 f g) := by
  obtain ⟨t1, ht1, hs1⟩ := h1
  obtain ⟨t2, ht2, hs2⟩ := h2
  refine ⟨_, pw_or ht1 ht2, fun B F own H σ ρ Q R I w k z => ?_⟩
  refine hs1 B F own H σ ρ _ _ I w (fun b ρ1 F1 own1 H1 r1 I1 x1 => ?_) z
  cases b with
  | false =>
    simp only [Bool.false_eq_true, if_false] at r1 ⊢
    exact hs2 B F1 own1 H1 σ ρ1 _ _ I1 (w.mono x1.ff) (fun b ρ2 F2 own2 H2 r2 I2 x2 => k b ρ2 F2 own2 H2 r2 I2 (x1.trans x2)) r1
  | true => simpa using k true ρ1 F1 own1 H1 (by simpa using r1) I1 x1.andl
theorem ht_not {p : Bool} {a : Expr} {pos : Pos} {f : TF} (h1 : HT C p a f) : HT C p (.UnaryOp .Not a pos) (tNot1 f) := by
  obtain ⟨t1, ht1, hs1⟩ := h1
  refine ⟨_, pt_not ht1, fun B F own H σ ρ Q R I w k z => ?_⟩
  exact hs1 B F own H σ ρ _ _ I w (fun b ρ1 F1 own1 H1 r1 I1 x1 => k _ ρ1 F1 own1 H1 r1 I1 x1) z
/-- the same as values, all bools -/
def sAnd2 (f g : EF) : EF := fun ρ R => f ρ fun d ρ1 => ∃ b, d = .bool b ∧ (if b = true then g ρ1 R else R (.bool false) ρ1)
def sOr2 (f g : EF) : EF := fun ρ R => f ρ fun d ρ1 => ∃ b, d = .bool b ∧ (if b = true then R (.bool true) ρ1 else g ρ1 R)
def sNot1 (f : EF) : EF := fun ρ R => f ρ fun d ρ1 => ∃ b, d = .bool b ∧ R (.bool (!b)) ρ1
theorem he_b1 {p : Bool} {op : BoolOp} {a : Expr} {pos : Pos} {f : EF} (h : HE C p a f) : HE C p (.BoolOp op [a] pos) f := by
  obtain ⟨t, ht, hs⟩ := h
  exact ⟨t, pe_one ht, hs⟩
theorem he_and {p q : Bool} {a b : Expr} {rest : List Expr} {pos : Pos} {f g : EF} (h1 : HE C p a f) (h2 : HE C q (.BoolOp .And (b :: rest) pos) g) : HE C (p && q) (.BoolOp .And (a :: b :: rest) pos) (sAnd2 f g) := by
  obtain ⟨t1, ht1, hs1⟩ := h1
  obtain ⟨t2, ht2, hs2⟩ := h2
  refine ⟨_, pe_and ht1 ht2, fun B F own H σ ρ Q R I w k z => ?_⟩
  refine hs1 B F own H σ ρ _ _ I w (fun d ρ1 F1 own1 H1 v r1 I1 x1 d1 => ?_) z
  obtain ⟨b, rfl, r1⟩ := r1
  cases d1
  refine ⟨b, rfl, ?_⟩
  cases b with
  | true =>
    rw [if_pos rfl] at r1 ⊢
    exact hs2 B F1 own1 H1 σ ρ1 _ _ I1 (w.mono x1.ff) (fun b ρ2 F2 own2 H2 v r2 I2 x2 d2 => k b ρ2 F2 own2 H2 v r2 I2 (x1.trans x2) d2) r1
  | false => simpa using k _ ρ1 F1 own1 H1 _ (by simpa using r1) I1 x1.andl (.bl _)
theorem he_or {p q : Bool} {a b : Expr} {rest : List Expr} {pos : Pos} {f g : EF} (h1 : HE C p a f) (h2 : HE C q (.BoolOp .Or (b :: rest) pos) g) : HE C (p && q) (.BoolOp .Or (a :: b :: rest) pos) (sOr2 f g) := by
  obtain ⟨t1, ht1, hs1⟩ := h1
  obtain ⟨t2, ht2, hs2⟩ := h2
  refine ⟨_, pe_or ht1 ht2, fun B F own H σ ρ Q R I w k z => ?_⟩
  refine hs1 B F own H σ ρ _ _ I w (fun d ρ1 F1 own1 H1 v r1 I1 x1 d1 => ?_) z
  obtain ⟨b, rfl, r1⟩ := r1
  cases d1
  refine ⟨b, rfl, ?_⟩
  cases b with
  | false =>
    simp only [Bool.false_eq_true, if_false] at r1 ⊢
    exact hs2 B F1 own1 H1 σ ρ1 _ _ I1 (w.mono x1.ff) (fun b ρ2 F2 own2 H2 v r2 I2 x2 d2 => k b ρ2 F2 own2 H2 v r2 I2 (x1.trans x2) d2) r1
  | true => simpa using k _ ρ1 F1 own1 H1 _ (by simpa using r1) I1 x1.andl (.bl _)
theorem he_not {p : Bool} {a : Expr} {pos : Pos} {f : EF} (h1 : HE C p a f) : HE C p (.UnaryOp .Not a pos) (sNot1 f) := by
  obtain ⟨t1, ht1, hs1⟩ := h1
  refine ⟨_, pe_not ht1, fun B F own H σ ρ Q R I w k z => ?_⟩
  refine hs1 B F own H σ ρ _ _ I w (fun d ρ1 F1 own1 H1 v r1 I1 x1 d1 => ?_) z
  obtain ⟨b, rfl, r1⟩ := r1
  cases d1
  exact ⟨b, rfl, k _ ρ1 F1 own1 H1 _ r1 I1 x1 (.bl _)⟩
def gNeg : G1 := fun x R => ∃ i, x = .int i ∧ R (.int (-i))
theorem o_neg : Op1 C (rU fun i => .int (-i)) gNeg := by
  intro F own H v x Q R e dv k ⟨i, e1, q⟩
  subst e1
  exact ⟨i, dv.int, k _ F H _ q (.refl e) (.int _)⟩
def sIf (c : TF) (f g : EF) : EF := fun ρ R => c ρ fun b ρ1 => if b = true then f ρ1 R else g ρ1 R
theorem he_if {p q r : Bool} {c a b : Expr} {pos : Pos} {h : TF} {f g : EF} (h0 : HT C p c h) (h1 : HE C q a f) (h2 : HE C r b g) : HE C (p && (q && r)) (.IfExp c a b pos) (sIf h f g) := by
  obtain ⟨t0, ht0, hs0⟩ := h0
  obtain ⟨t1, ht1, hs1⟩ := h1
  obtain ⟨t2, ht2, hs2⟩ := h2
  refine ⟨_, pe_ifExp ht0 ht1 ht2, fun B F own H σ ρ Q R I w k z => ?_⟩
  refine hs0 B F own H σ ρ _ _ I w (fun b ρ1 F1 own1 H1 r1 I1 x1 => ?_) z
  cases b with
  | true =>
    rw [if_pos rfl] at r1 ⊢
    exact hs1 B F1 own1 H1 σ ρ1 _ _ I1 (w.mono x1.ff) (fun b ρ2 F2 own2 H2 v r2 I2 x2 d2 => k b ρ2 F2 own2 H2 v r2 I2 (x1.trans x2.andl) d2) r1
  | false =>
    simp only [Bool.false_eq_true, if_false] at r1 ⊢
    refine hs2 B F1 own1 H1 σ ρ1 _ _ I1 (w.mono x1.ff) (fun b ρ2 F2 own2 H2 v r2 I2 x2 d2 => k b ρ2 F2 own2 H2 v r2 I2 (x1.trans ?_) d2) r1
    rw [Bool.and_comm]
    exact x2.andl
/-- truth of a list, a number -/
def truD : D → Option Bool
  | .none => some false
  | .bool b => some b
  | .int i => some (i != 0)
  | .list ds => some (!ds.isEmpty)
  | .tuple ds => some (!ds.isEmpty)
  | _ => none
def tTru (f : RF) : TF := fun ρ R => f ρ fun d => ∃ b, truD d = some b ∧ R b ρ
theorem ht_tru {e : Expr} {f : RF} (h : HR C e f) (he : ∀ whole, isTrue e C.X.env whole = (do let v ← whole; standAt e.pos; holding [v] (truthy v)) := by intro _; rfl) : HT C true e (tTru f) := by
  obtain ⟨t1, ht1, hs1⟩ := h
  refine ⟨_, pt_truth ht1 he, fun B F own H σ ρ Q R I w k z => ?_⟩
  refine hs1 B F own H σ ρ _ _ I w (fun x F1 own1 H1 v r1 I1 x1 d1 => ?_) z
  obtain ⟨b, e, r⟩ := r1
  refine ⟨b, ?_, k b ρ F1 own1 H1 r I1 x1⟩
  cases x with
  | none => cases e; obtain rfl := d1.none; exact rfl
  | bool c => cases e; obtain rfl := d1.bool; exact rfl
  | int i => cases e; obtain rfl := d1.int; exact rfl
  | list ds =>
    cases e
    obtain ⟨a, vs, rfl, hs, r⟩ := d1.list I1.fh
    refine .inl ⟨vs, .of hs, ?_⟩
    cases r <;> rfl
  | tuple ds =>
    cases e
    obtain ⟨a, vs, rfl, hs, r⟩ := d1.tuple
    refine .inr (.inl ⟨vs, sq_mono I1.fh hs, ?_⟩)
    cases r <;> rfl
  | str z => cases e
  | dict z => cases e

/-! ### statements -/
def fNext : SF := fun ρ E => E.nx ρ
def fSeq (f g : SF) : SF := fun ρ E => f ρ { E with nx := fun ρ' => g ρ' E }
theorem hss_nil : HSs C [] fNext := ⟨_, pss_nil, fun B F own H σ ρ E G I w k z => k.nx F own H σ ρ I (Same.refl _) z⟩
theorem hss_one {st : Stmt} {f : SF} (h : HS C st f) : HSs C [st] f := by
  obtain ⟨t, ht, hs⟩ := h
  exact ⟨t, pss_one ht, hs⟩
theorem hss_cons {st : Stmt} {rest : List Stmt} {f g : SF} (h : HS C st f) (h2 : HSs C rest g) : HSs C (st :: rest) (fSeq f g) := by
  obtain ⟨t, ht, hs⟩ := h
  obtain ⟨t2, ht2, hs2⟩ := h2
  refine ⟨_, pss_cons ht ht2, fun B F own H σ ρ E G I w k z => ?_⟩
  refine hs B F own H σ ρ { E with nx := fun ρ' => g ρ' E } _ I w ⟨fun F' own' H' σ' ρ' I' s r => ?_, k.rt, k.bk, k.ct⟩ z
  exact hs2 B F' own' H' σ' ρ' E G I' (w.mono s) (k.mono s) r
theorem hs_pass {pos : Pos} : HS C (.Pass pos) fNext := ⟨_, ps_pass, fun B F own H σ ρ E G I w k z => k.nx F own H σ ρ I (Same.refl _) z⟩
def fBreak : SF := fun ρ E => E.bk ρ
def fCont : SF := fun ρ E => E.ct ρ
theorem hs_break {pos : Pos} : HS C (.Break pos) fBreak := ⟨_, ps_break, fun B F own H σ ρ E G I w k z => k.bk F own H σ ρ I (Same.refl _) z⟩
theorem hs_cont {pos : Pos} : HS C (.Continue pos) fCont := ⟨_, ps_continue, fun B F own H σ ρ E G I w k z => k.ct F own H σ ρ I (Same.refl _) z⟩
def fIf (c : TF) (f g : SF) : SF := fun ρ E => c ρ fun b ρ1 => if b = true then f ρ1 E else g ρ1 E
theorem hs_if {p : Bool} {c : Expr} {a b : List Stmt} {pos : Pos} {h : TF} {f g : SF} (h0 : HT C p c h) (h1 : HSs C a f) (h2 : HSs C b g) : HS C (.If c a b pos) (fIf h f g) := by
  obtain ⟨t0, ht0, hs0⟩ := h0
  obtain ⟨t1, ht1, hs1⟩ := h1
  obtain ⟨t2, ht2, hs2⟩ := h2
  refine ⟨_, ps_if ht0 ht1 ht2, fun B F own H σ ρ E G I w k z => ?_⟩
  refine hs0 B F own H σ ρ _ _ I w (fun b ρ1 F1 own1 H1 r1 I1 x1 => ?_) z
  cases b with
  | true =>
    rw [if_pos rfl] at r1 ⊢
    exact hs1 B F1 own1 H1 σ ρ1 E G I1 (w.mono x1.ff) (k.mono x1.ff) r1
  | false =>
    simp only [Bool.false_eq_true, if_false] at r1 ⊢
    exact hs2 B F1 own1 H1 σ ρ1 E G I1 (w.mono x1.ff) (k.mono x1.ff) r1
def fRet (f : EF) : SF := fun ρ E => f ρ E.rt
theorem hs_ret {p : Bool} {e : Expr} {pos : Pos} {f : EF} (h : HE C p e f) : HS C (.Return (some e) pos) (fRet f) := by
  obtain ⟨t, ht, hs⟩ := h
  refine ⟨_, ps_ret ht, fun B F own H σ ρ E G I w k z => ?_⟩
  exact hs B F own H σ ρ _ _ I w (fun d ρ1 F1 own1 H1 v r1 I1 x1 d1 => k.rt F1 own1 H1 σ ρ1 v d I1 x1.ff d1 r1) z
def fRetN : SF := fun ρ E => E.rt .none ρ
theorem hs_retN {pos : Pos} : HS C (.Return none pos) fRetN := ⟨_, ps_retN, fun B F own H σ ρ E G I w k z => k.rt F own H σ ρ _ _ I (Same.refl _) .non z⟩

/-! ### stores -/
theorem SlOk.own_mono {K : PySem.W.Frag} {F H : Hp} {own own' : Own} {i : Nat} {s : Sl} {v : Option V} (oo : ∀ a, own a = some i → own' a = some i) (h : SlOk K F H own i s v) : SlOk K F H own' i s v := h.keep (Same.refl _) (fun _ _ _ h => h) oo
theorem set_get {α : Type} {l : List α} {i j : Nat} {x y : α} (h : (l.set i x)[j]? = some y) : (j = i ∧ y = x) ∨ (j ≠ i ∧ l[j]? = some y) := by
  rw [List.getElem?_set] at h
  by_cases e : i = j
  · subst e
    rw [if_pos rfl] at h
    split at h
    · exact .inl ⟨rfl, (Option.some.inj h).symm⟩
    · cases h
  · rw [if_neg e] at h
    exact .inr ⟨fun z => e z.symm, h⟩
theorem SInv.store {K : PySem.W.Frag} {B F H : Hp} {own : Own} {σ : L2.St} {ρ : Rho} {v : V} {d : D} (I : SInv K B F own H σ ρ) (i : Nat) (h : Rp K F v d) : SInv K B F own H (σ.set i (some v)) (ρ.set i (.fz d)) where
  fh := I.fh
  bh := I.bh
  bf := I.bf
  ow := I.ow
  len := by rw [List.length_set, List.length_set]; exact I.len
  sl := fun j s u e e2 => by
    rcases set_get e with ⟨rfl, rfl⟩ | ⟨n, e⟩
    · rcases set_get e2 with ⟨_, rfl⟩ | ⟨n, _⟩
      · exact ⟨v, rfl, h⟩
      · exact absurd rfl n
    · rcases set_get e2 with ⟨rfl, _⟩ | ⟨_, e2⟩
      · exact absurd rfl n
      · exact I.sl j s u e e2
/-- an address is given to slot i -/
def giveTo (own : Own) (a : Addr) (i : Nat) : Own := fun b => if b = a then some i else own b
/-- a new list is given to slot i -/
theorem SInv.storeN {K : PySem.W.Frag} {B F H : Hp} {own : Own} {σ : L2.St} {ρ : Rho} {a : Addr} {vs : List V} {ds : List D} (I : SInv K B F own H σ ρ) (i : Nat) (h : H a = some (.lst vs)) (hF : F a = none) (ho : own a = none) (hB : B a = none) (r : RpAll K F vs ds) :
    SInv K B F (giveTo own a i) H (σ.set i (some (.ref a))) (ρ.set i (.ow ds)) where
  fh := I.fh
  bh := I.bh
  bf := fun b o e => by
    have hb : b ≠ a := fun z => by subst z; rw [hB] at e; cases e
    refine ⟨(I.bf b o e).1, ?_⟩
    unfold giveTo
    rw [if_neg hb]
    exact (I.bf b o e).2
  ow := fun b j e => by
    unfold giveTo at e
    by_cases hb : b = a
    · subst hb; exact ⟨hF, _, h⟩
    · rw [if_neg hb] at e
      exact I.ow b j e
  len := by rw [List.length_set, List.length_set]; exact I.len
  sl := fun j s u e e2 => by
    rcases set_get e with ⟨rfl, rfl⟩ | ⟨n, e⟩
    · rcases set_get e2 with ⟨_, rfl⟩ | ⟨n, _⟩
      · exact ⟨a, vs, rfl, if_pos rfl, h, r⟩
      · exact absurd rfl n
    · rcases set_get e2 with ⟨rfl, _⟩ | ⟨_, e2⟩
      · exact absurd rfl n
      · refine (I.sl j s u e e2).own_mono fun b o => ?_
        have hb : b ≠ a := fun z => by subst z; rw [ho] at o; cases o
        unfold giveTo
        rw [if_neg hb]
        exact o
def fSet (i : Nat) (f : EF) : SF := fun ρ E => f ρ fun d ρ1 => E.nx (ρ1.set i (.fz d))
def fSetN (i : Nat) (f : NF) : SF := fun ρ E => f ρ fun ds ρ1 => E.nx (ρ1.set i (.ow ds))
theorem hs_set_of {p : Bool} {i : Nat} {st : Stmt} {e : Expr} {f : EF} (mk : ∀ {te : TE}, PE C.X e te → PS C.X st (tAsg te (gName i))) (h : HE C p e f) : HS C st (fSet i f) := by
  obtain ⟨t, ht, hs⟩ := h
  refine ⟨_, mk ht, fun B F own H σ ρ E G I w k z => ?_⟩
  refine hs B F own H σ ρ _ _ I w (fun d ρ1 F1 own1 H1 v r1 I1 x1 d1 => ?_) z
  exact k.nx F1 _ H1 _ _ (I1.store i d1) x1.ff r1
theorem hs_setN_of {p : Bool} {i : Nat} {st : Stmt} {e : Expr} {f : NF} (mk : ∀ {te : TE}, PE C.X e te → PS C.X st (tAsg te (gName i))) (h : HN C p e f) : HS C st (fSetN i f) := by
  obtain ⟨t, ht, hs⟩ := h
  refine ⟨_, mk ht, fun B F own H σ ρ E G I w k z => ?_⟩
  refine hs B F own H σ ρ _ _ I w (fun ds ρ1 F1 own1 H1 a vs r1 I1 x1 n h1 hF ho d1 => ?_) z
  have hB : B a = none := by
    cases e : B a with
    | none => rfl
    | some u => rw [I.bh a u e] at n; cases n
  exact k.nx F1 _ H1 _ _ (I1.storeN i h1 hF ho hB d1) x1.ff r1
/-- an owned list stays as it is from here on -/
def takeOff (own : Own) (a : Addr) : Own := fun b => if b = a then none else own b
theorem SInv.frz {K : PySem.W.Frag} {B F H : Hp} {own : Own} {σ : L2.St} {ρ : Rho} {i : Nat} {ds : List D} (I : SInv K B F own H σ ρ) (h : ρ[i]? = some (.ow ds)) : ∃ F' own', Same F F' ∧ SInv K B F' own' H σ (ρ.set i (.fz (.list ds))) := by
  have hi : i < σ.length := by rw [← I.len]; exact (List.getElem?_eq_some_iff.mp h).1
  obtain ⟨a, vs, hv, o, hp, dv⟩ := I.sl i _ _ h (List.getElem?_eq_getElem hi)
  have hF := (I.ow a i o).1
  have hB : B a = none := by
    cases e : B a with
    | none => rfl
    | some u => rw [(I.bf a u e).2] at o; cases o
  have I0 : SInv K B F (takeOff own a) H (σ.set i (some (.ref a))) (ρ.set i .un) := by
    refine ⟨I.fh, I.bh, fun b u e => ⟨(I.bf b u e).1, ?_⟩, fun b j e => ?_, by rw [List.length_set, List.length_set]; exact I.len, fun j s u e e2 => ?_⟩
    · unfold takeOff; split
      · rfl
      · exact (I.bf b u e).2
    · unfold takeOff at e
      split at e
      · cases e
      · exact I.ow b j e
    · rcases set_get e with ⟨rfl, rfl⟩ | ⟨n, e⟩
      · trivial
      · rcases set_get e2 with ⟨rfl, _⟩ | ⟨_, e2⟩
        · exact absurd rfl n
        · refine (I.sl j s u e e2).own_mono fun b o2 => ?_
          unfold takeOff
          rw [if_neg (fun z => by subst z; rw [o] at o2; cases o2; exact n rfl)]
          exact o2
  have ho : takeOff own a a = none := by unfold takeOff; rw [if_pos rfl]
  have I1 := (I0.freeze hp hF ho hB).store i (v := .ref a) (d := .list ds) (.lst upd_same (dpa_mono (same_upd hF) dv))
  refine ⟨upd F a (.lst vs), takeOff own a, same_upd hF, ?_⟩
  have e1 : (σ.set i (some (.ref a))).set i (some (.ref a)) = σ := by
    rw [List.set_set]
    apply List.ext_getElem?
    intro j
    rw [List.getElem?_set]
    by_cases e : i = j
    · subst e; rw [if_pos rfl, if_pos hi, List.getElem?_eq_getElem hi, hv]
    · rw [if_neg e]
  rw [e1, List.set_set] at I1
  exact I1
def fFrz (i : Nat) (f : SF) : SF := fun ρ E => ∃ ds, ρ[i]? = some (.ow ds) ∧ f (ρ.set i (.fz (.list ds))) E
theorem hss_frz {i : Nat} {st : List Stmt} {f : SF} (h : HSs C st f) : HSs C st (fFrz i f) := by
  obtain ⟨t, ht, hs⟩ := h
  refine ⟨t, ht, fun B F own H σ ρ E G I w k z => ?_⟩
  obtain ⟨ds, e, q⟩ := z
  obtain ⟨F', own', s, I'⟩ := I.frz e
  exact hs B F' own' H σ _ E G I' (w.mono s) (k.mono s) q
theorem hs_frz {i : Nat} {st : Stmt} {f : SF} (h : HS C st f) : HS C st (fFrz i f) := by
  obtain ⟨t, ht, hs⟩ := h
  refine ⟨t, ht, fun B F own H σ ρ E G I w k z => ?_⟩
  obtain ⟨ds, e, q⟩ := z
  obtain ⟨F', own', s, I'⟩ := I.frz e
  exact hs B F' own' H σ _ E G I' (w.mono s) (k.mono s) q
end TL
set_option Elab.async false
set_option linter.all false
set_option maxRecDepth 100000
namespace TL
open PySem PySem.Spec PyProof.Rows L2
variable {C : Ct}

/-! ### what is walked -/
def ItOk (K : PySem.W.Frag) (q : Bool) (F : Hp) (own : Own) (H : Hp) (J : It) (ds : List D) : Prop := ∀ (F2 : Hp) (own2 : Own) (H2 : Hp), Same F F2 → Same F2 H2 → (q = true ∨ ∀ a i o, own a = some i → H a = some o → own2 a = some i ∧ H2 a = some o) →
  (∀ i, i < ds.length → J.go i H2) ∧ (∀ i, ds.length ≤ i → J.stop i H2) ∧ ∀ i x H3, i < ds.length → J.yld i H2 x H3 → ∃ F3 d, ds[i]? = some d ∧ Al F2 H2 F3 H3 ∧ Rp K F3 x d
def HI (C : Ct) (p q : Bool) (tg iter : Expr) (f : NF) : Prop := ∃ wi, PI C.X tg iter wi ∧ ∀ B F own H σ ρ Q R, SInv C.X.K B F own H σ ρ → WOk C B F →
  (∀ ds ρ' F' own' H' J, R ds ρ' → SInv C.X.K B F' own' H' σ ρ' → Ext p F own H F' own' H' → ItOk C.X.K q F' own' H' J ds → Q J H') → f ρ R → wi σ H Q
theorem pi_seq {X : Cx} {tg l : Expr} {tl : TE} (hl : PE X l tl) : PI X tg l (fun σ H R => tl σ H fun x H1 => ∃ a, x = .ref a ∧ (((∃ xs, SqL X.K H1 a xs) ∧ R (Itl X.K a) H1) ∨ ((∃ xs, SqT X.K H1 a xs) ∧ R (Itt X.K a) H1))) := by
  refine ⟨fun pins s σ H R I h => ?_⟩
  refine thn (hl.run pins s σ H _ I h) fun v s1 ⟨x, H1, I1, r1, q1⟩ => ?_
  obtain ⟨a, e, ⟨⟨xs, hq⟩, q⟩ | ⟨⟨xs, hq⟩, q⟩⟩ := q1
  · subst e
    cases r1
    obtain ⟨its, rv, p, hz⟩ := I1.list hq
    refine wpAny_pyIter_list p.isList ?_
    refine ⟨s1.heap.objs.size, [s1.heap.objs.size], _, _, H1, rfl, I1.kept (t' := s1.toks) fun b o e => Heap.get?_push_of_some _ e, turn_list a _, ⟨_, Heap.get?_push_size _ rfl, rfl, rfl⟩, fun b hb => ?_, q⟩
    have e : b = s1.heap.objs.size := by simpa using hb
    subst e
    exact I1.fpOk (Nat.le_refl _) (I1.hok.fresh (Nat.le_refl _))
  · subst e
    cases r1
    obtain ⟨its, rv, p, hz⟩ := I1.tuple hq
    refine wpAny_pyIter_tuple (show s1.heap.IsTuple a its.toArray from p) ?_
    refine ⟨s1.heap.objs.size, [s1.heap.objs.size], _, _, H1, rfl, I1.kept (t' := s1.toks) fun b o e => Heap.get?_push_of_some _ e, turn_tuple a _, ⟨_, Heap.get?_push_size _ rfl, rfl, rfl⟩, fun b hb => ?_, q⟩
    have e : b = s1.heap.objs.size := by simpa using hb
    subst e
    exact I1.fpOk (Nat.le_refl _) (I1.hok.fresh (Nat.le_refl _))
theorem SqL.inj_of {K : PySem.W.Frag} {H : Hp} {a : Addr} {xs : List V} (h : H a = some (.lst xs)) : SqL K H a xs := .of h
def iSeq (f : EF) : NF := fun ρ R => f ρ fun d ρ1 => ∃ ds, seqD d = some ds ∧ R ds ρ1
def iSeqR (f : RF) : NF := fun ρ R => f ρ fun d => ∃ ds, seqD d = some ds ∧ R ds ρ
theorem it_list {K : PySem.W.Frag} {F : Hp} {own : Own} {H : Hp} {a : Addr} {vs : List V} {ds : List D} {q : Bool} (r : RpAll K F vs ds) (h : (q = true ∧ F a = some (.lst vs)) ∨ (q = false ∧ ∃ i, own a = some i ∧ H a = some (.lst vs))) : ItOk K q F own H (Itl K a) ds := by
  intro F2 own2 H2 s1 s2 k
  have hl := dpa_len r
  have ha : H2 a = some (.lst vs) := by
    rcases h with ⟨rfl, h⟩ | ⟨rfl, i, o, h⟩
    · exact s2 _ _ (s1 _ _ h)
    · rcases k with k | k
      · cases k
      · exact (k a i _ o h).2
  refine ⟨fun i hi => ?_, fun i hi => ⟨vs, .of ha, by omega⟩, fun i x H3 hi hy => ?_⟩
  · exact ⟨vs, vs[i]'(by omega), .of ha, List.getElem?_eq_getElem _⟩
  · obtain ⟨rfl, hy⟩ := hy
    obtain ⟨d, e, dv⟩ := dpa_get r (hy vs (.of ha))
    exact ⟨F2, d, e, .refl s2, dp_mono s1 dv⟩
theorem it_tup {K : PySem.W.Frag} {F : Hp} {own : Own} {H : Hp} {a : Addr} {vs : List V} {ds : List D} {q : Bool} (r : RpAll K F vs ds) (h : SqT K F a vs) : ItOk K q F own H (Itt K a) ds := by
  intro F2 own2 H2 s1 s2 k
  have hl := dpa_len r
  have ha : SqT K H2 a vs := sq_mono s2 (sq_mono s1 h)
  refine ⟨fun i hi => ?_, fun i hi => ⟨vs, ha, by omega⟩, fun i x H3 hi hy => ?_⟩
  · exact ⟨vs, vs[i]'(by omega), ha, List.getElem?_eq_getElem _⟩
  · obtain ⟨rfl, hy⟩ := hy
    obtain ⟨d, e, dv⟩ := dpa_get r (hy vs ha)
    exact ⟨F2, d, e, .refl s2, dp_mono s1 dv⟩
theorem hi_seq {p : Bool} {tg e : Expr} {f : EF} (h : HE C p e f) : HI C p true tg e (iSeq f) := by
  obtain ⟨t, ht, hs⟩ := h
  refine ⟨_, pi_seq ht, fun B F own H σ ρ Q R I w k z => ?_⟩
  refine hs B F own H σ ρ _ _ I w (fun d ρ1 F1 own1 H1 v r1 I1 x1 d1 => ?_) z
  obtain ⟨ds, e, r⟩ := r1
  cases d1 <;> simp [seqD] at e
  · rename_i a xs ds' h1 h2
    subst e
    exact ⟨a, rfl, .inl ⟨⟨xs, .of (I1.fh _ _ h1)⟩, k _ ρ1 F1 own1 H1 _ r I1 x1 (it_list h2 (.inl ⟨rfl, h1⟩))⟩⟩
  · rename_i a xs ds' h1 h2
    subst e
    exact ⟨a, rfl, .inr ⟨⟨xs, sq_mono I1.fh h1⟩, k _ ρ1 F1 own1 H1 _ r I1 x1 (it_tup h2 h1)⟩⟩
theorem hi_seqR {tg e : Expr} {f : RF} (h : HR C e f) : HI C true false tg e (iSeqR f) := by
  obtain ⟨t, ht, hs⟩ := h
  refine ⟨_, pi_seq ht, fun B F own H σ ρ Q R I w k z => ?_⟩
  refine hs B F own H σ ρ _ _ I w (fun d F1 own1 H1 v r1 I1 x1 d1 => ?_) z
  obtain ⟨ds, e, r⟩ := r1
  cases d <;> simp [seqD] at e
  · subst e
    rcases d1 with d1 | ⟨a, vs, ds', i, rfl, e2, o, q, rr⟩
    · cases d1 with
      | lst h1 h2 =>
        refine ⟨_, rfl, .inl ⟨⟨_, .of (I1.fh _ _ h1)⟩, k _ ρ F1 own1 H1 _ r I1 x1 fun F2 own2 H2 s1 s2 _ => ?_⟩⟩
        exact it_list (own := own1) (H := H1) h2 (.inl ⟨rfl, h1⟩) F2 own2 H2 s1 s2 (.inl rfl)
    · cases e2
      exact ⟨a, rfl, .inl ⟨⟨vs, .of q⟩, k _ ρ F1 own1 H1 _ r I1 x1 (it_list rr (.inr ⟨rfl, i, o, q⟩))⟩⟩
  · subst e
    obtain ⟨a, vs, rfl, hs, rr⟩ := d1.tuple
    exact ⟨a, rfl, .inr ⟨⟨vs, sq_mono I1.fh hs⟩, k _ ρ F1 own1 H1 _ r I1 x1 (it_tup rr hs)⟩⟩
theorem it_rng {K : PySem.W.Frag} {F : Hp} {own : Own} {H : Hp} {lo : Int} {n : Nat} {q : Bool} : ItOk K q F own H (Itr lo n) ((List.range n).map fun i => PyData.int (lo + (i : Nat))) := by
  intro F2 own2 H2 s1 s2 _
  refine ⟨fun i hi => ?_, fun i hi => ?_, fun i x H3 hi hy => ?_⟩
  · simpa [Itr] using hi
  · simpa [Itr] using hi
  · obtain ⟨rfl, rfl⟩ := hy
    simp at hi
    exact ⟨F2, .int (lo + (i : Nat)), by simp [hi], .refl s2, .int _⟩
/-- the ints of a range -/
def rngD (lo hi : Int) : List D := (List.range (hi - lo).toNat).map fun i => PyData.int (lo + (i : Nat))
def iRngA (f : NF) : NF := fun ρ R => f ρ fun ds ρ1 => (∃ j : Int, ds = [.int j] ∧ (-(2 ^ 62) ≤ j ∧ j < 2 ^ 62) ∧ R (rngD 0 j) ρ1)
def iRngB (f : NF) : NF := fun ρ R => f ρ fun ds ρ1 => (∃ i j : Int, ds = [.int i, .int j] ∧ (-(2 ^ 62) ≤ i ∧ i < 2 ^ 62 ∧ -(2 ^ 62) ≤ j ∧ j < 2 ^ 62) ∧ R (rngD i j) ρ1)
theorem hi_rng1 {p : Bool} {tg a : Expr} {pp pos : Pos} {f : NF} (hg : Gl C.X "range") (hm : C.X.mg "range" = none) (h : HA C p [a] f) (hs : starEach [a] C.X.env = [(false, eval a C.X.env)] := by rfl) : HI C p true tg (.Call (.Name "range" pp) [a] [] pos) (iRngA f) := by
  obtain ⟨t, ht, hs'⟩ := h
  refine ⟨_, pi_range1 hg hm ht hs, fun B F own H σ ρ Q R I w k z => ?_⟩
  refine hs' B F own H σ ρ _ _ I w (fun ds ρ1 F1 own1 H1 vs r1 I1 x1 d1 => ?_) z
  obtain ⟨j, rfl, hj, r⟩ := r1
  cases d1 with
  | cons a b =>
    cases a
    cases b
    refine ⟨j, rfl, hj.1, hj.2, k _ ρ1 F1 own1 H1 _ r I1 x1 ?_⟩
    unfold rngD
    rw [Int.sub_zero]
    exact it_rng
theorem hi_rng2 {p : Bool} {tg a b : Expr} {pp pos : Pos} {f : NF} (hg : Gl C.X "range") (hm : C.X.mg "range" = none) (h : HA C p [a, b] f) (hs : starEach [a, b] C.X.env = [(false, eval a C.X.env), (false, eval b C.X.env)] := by rfl) (hs2 : starEach [b] C.X.env = [(false, eval b C.X.env)] := by rfl) : HI C p true tg (.Call (.Name "range" pp) [a, b] [] pos) (iRngB f) := by
  obtain ⟨t, ht, hs'⟩ := h
  refine ⟨_, pi_range2 hg hm ht hs hs2, fun B F own H σ ρ Q R I w k z => ?_⟩
  refine hs' B F own H σ ρ _ _ I w (fun ds ρ1 F1 own1 H1 vs r1 I1 x1 d1 => ?_) z
  obtain ⟨i, j, rfl, hj, r⟩ := r1
  cases d1 with
  | cons a b =>
    cases a
    cases b with
    | cons a b =>
      cases a
      cases b
      exact ⟨i, j, rfl, hj, k _ ρ1 F1 own1 H1 _ r I1 x1 it_rng⟩
/-- the signs of a text -/
def iTxt (f : EF) : NF := fun ρ R => f ρ fun d ρ1 => ∃ z : Str, d = .str z ∧ R (z.cps.toList.map fun c => PyData.str ⟨#[c]⟩) ρ1
theorem hi_txt {p : Bool} {tg e : Expr} {f : EF} (h : HE C p e f) : HI C p true tg e (iTxt f) := by
  obtain ⟨t, ht, hs⟩ := h
  refine ⟨_, pi_str ht, fun B F own H σ ρ Q R I w k z => ?_⟩
  refine hs B F own H σ ρ _ _ I w (fun d ρ1 F1 own1 H1 v r1 I1 x1 d1 => ?_) z
  obtain ⟨x, rfl, r⟩ := r1
  cases d1
  refine ⟨x, rfl, k _ ρ1 F1 own1 H1 _ r I1 x1 fun F2 own2 H2 s1 s2 _ => ⟨fun i hi => ?_, fun i hi => ?_, fun i y H3 hi hy => ?_⟩⟩
  · simpa [Its] using hi
  · simpa [Its] using hi
  · obtain ⟨rfl, c, e, rfl⟩ := hy
    refine ⟨F2, .str ⟨#[c]⟩, ?_, .refl s2, .str _⟩
    rw [List.getElem?_map, Array.getElem?_toList, e]
    rfl

/-! ### targets -/
abbrev GF := D → Rho → (Rho → Prop) → Prop
abbrev GsF := List D → Rho → (Rho → Prop) → Prop
def HG (C : Ct) (tg : Expr) (vs : List Nat) (g : GF) : Prop := ∃ t, PG C.X tg t ∧ ∀ B F own H σ ρ v d Q R, SInv C.X.K B F own H σ ρ → Rp C.X.K F v d →
  (∀ ρ' σ', R ρ' → SInv C.X.K B F own H σ' ρ' → wipe σ' vs = wipe σ vs → Q σ' H) → g d ρ R → t v σ H Q
def HGs (C : Ct) (tgs : List Expr) (vs : List Nat) (g : GsF) : Prop := ∃ t, PGs C.X tgs t ∧ ∀ B F own H σ ρ us ds Q R, SInv C.X.K B F own H σ ρ → RpAll C.X.K F us ds →
  (∀ ρ' σ', R ρ' → SInv C.X.K B F own H σ' ρ' → wipe σ' vs = wipe σ vs → Q σ' H) → g ds ρ R → t us σ H Q
theorem wipe_get {σ : L2.St} {i : Nat} : ∀ {vs : List Nat}, (wipe σ vs)[i]? = if i ∈ vs then (σ[i]?).map (fun _ => none) else σ[i]?
  | [] => by simp [wipe]
  | v :: vs => by
    unfold wipe
    rw [List.getElem?_set]
    by_cases h : v = i
    · subst h
      rw [if_pos rfl, if_pos List.mem_cons_self, wipe_length]
      split
      · rename_i h; rw [List.getElem?_eq_getElem h]; rfl
      · rename_i h; rw [List.getElem?_eq_none (by omega)]; rfl
    · rw [if_neg h, wipe_get]
      by_cases h2 : i ∈ vs
      · rw [if_pos h2, if_pos (List.mem_cons_of_mem _ h2)]
      · rw [if_neg h2, if_neg (by simp only [List.mem_cons, not_or]; exact ⟨fun e => h e.symm, h2⟩)]
theorem wipe_set {σ : L2.St} {i : Nat} {x : Option V} {vs : List Nat} (h : i ∈ vs) : wipe (σ.set i x) vs = wipe σ vs := by
  apply List.ext_getElem?
  intro j
  rw [wipe_get, wipe_get]
  by_cases hj : j ∈ vs
  · rw [if_pos hj, if_pos hj, List.getElem?_set]
    by_cases e : i = j
    · subst e
      rw [if_pos rfl]
      by_cases hi : i < σ.length
      · rw [if_pos hi, List.getElem?_eq_getElem hi]; rfl
      · rw [if_neg hi, List.getElem?_eq_none (by omega)]
    · rw [if_neg e]
  · rw [if_neg hj, if_neg hj, List.getElem?_set, if_neg (fun e => by subst e; exact hj h)]
def gNm (i : Nat) : GF := fun d ρ R => R (ρ.set i (.fz d))
theorem hg_name {i : Nat} {x : Str} {pos : Pos} {vs : List Nat} (h : PG C.X (.Name x pos) (L2.gName i)) (hi : i ∈ vs) : HG C (.Name x pos) vs (gNm i) :=
  ⟨_, h, fun B F own H σ ρ v d Q R I dv k z => k _ _ z (I.store i dv) (wipe_set hi)⟩
def gsNil : GsF := fun ds ρ R => ds = [] ∧ R ρ
def gsCons (g : GF) (gs : GsF) : GsF := fun ds ρ R => ∃ d r, ds = d :: r ∧ g d ρ fun ρ1 => gs r ρ1 R
theorem hgs_nil {vs : List Nat} : HGs C [] vs gsNil := by
  refine ⟨_, pgs_nil, fun B F own H σ ρ us ds Q R I dv k z => ?_⟩
  obtain ⟨rfl, z⟩ := z
  cases dv
  exact ⟨rfl, k ρ σ z I rfl⟩
theorem hgs_cons {e : Expr} {es : List Expr} {vs : List Nat} {g : GF} {gs : GsF} (h : HG C e vs g) (h2 : HGs C es vs gs) (hs : (assignEach (e :: es) C.X.env).map (·.2) = assign e C.X.env :: (assignEach es C.X.env).map (·.2) := by rfl) : HGs C (e :: es) vs (gsCons g gs) := by
  obtain ⟨t1, ht1, hs1⟩ := h
  obtain ⟨t2, ht2, hs2⟩ := h2
  refine ⟨_, pgs_cons ht1 ht2 hs, fun B F own H σ ρ us ds Q R I dv k z => ?_⟩
  obtain ⟨d, r, rfl, z⟩ := z
  cases dv with
  | cons a b =>
    refine ⟨_, _, rfl, ?_⟩
    refine hs1 B F own H σ ρ _ d _ _ I a (fun ρ1 σ1 r1 I1 w1 => ?_) z
    exact hs2 B F own H σ1 ρ1 _ r _ _ I1 b (fun ρ2 σ2 r2 I2 w2 => k ρ2 σ2 r2 I2 (w2.trans w1)) r1
def gTp (n : Nat) (g : GsF) : GF := fun d ρ R => ∃ ds, d = .tuple ds ∧ ds.length = n ∧ g ds ρ R
theorem hg_tup {es : List Expr} {k n : Nat} {pos : Pos} {vs : List Nat} {g : GsF} (h : HGs C es vs g) (hn : (assignEach es C.X.env).length = n := by rfl) (hst : (assignEach es C.X.env).findIdx? (·.1) = none := by rfl) : HG C (.Tuple es k pos) vs (gTp n g) := by
  obtain ⟨t, ht, hs⟩ := h
  refine ⟨_, pg_tup (n := n) C.calm ht hn hst, fun B F own H σ ρ v d Q R I dv k z => ?_⟩
  obtain ⟨ds, rfl, hl, z⟩ := z
  cases dv with
  | tup h1 h2 =>
    exact ⟨_, _, rfl, sq_mono I.fh h1, by rw [dpa_len h2]; exact hl, hs B F own H σ ρ _ ds Q R I h2 k z⟩
/-- assignment to any such target -/
def fAsg (f : EF) (g : GF) : SF := fun ρ E => f ρ fun d ρ1 => g d ρ1 E.nx
theorem hs_asg_of {p : Bool} {st : Stmt} {e tg : Expr} {f : EF} {g : GF} {vs : List Nat} (mk : ∀ {te : TE} {tg' : TG}, PE C.X e te → PG C.X tg tg' → PS C.X st (tAsg te tg')) (h : HE C p e f) (hg : HG C tg vs g) : HS C st (fAsg f g) := by
  obtain ⟨t, ht, hs⟩ := h
  obtain ⟨t2, ht2, hs2⟩ := hg
  refine ⟨_, mk ht ht2, fun B F own H σ ρ E G I w k z => ?_⟩
  refine hs B F own H σ ρ _ _ I w (fun d ρ1 F1 own1 H1 v r1 I1 x1 d1 => ?_) z
  exact hs2 B F1 own1 H1 σ ρ1 v d _ _ I1 d1 (fun ρ2 σ2 r2 I2 w2 => k.nx F1 own1 H1 σ2 ρ2 I2 x1.ff r2) r1

/-! ### for -/
def forW (g : GF) (b : SF) : List D → SF
  | [], ρ, E => E.nx ρ
  | d :: ds, ρ, E => g d ρ fun ρ1 => b ρ1 { E with nx := fun ρ' => forW g b ds ρ' E, ct := fun ρ' => forW g b ds ρ' E, bk := E.nx }
def fFor (it : NF) (g : GF) (b : SF) : SF := fun ρ E => it ρ fun ds ρ1 => forW g b ds ρ1 E
theorem hs_for {p : Bool} {tg iter : Expr} {body : List Stmt} {pos : Pos} {it : NF} {vs : List Nat} {g : GF} {b : SF} (hi : HI C p true tg iter it) (hg : HG C tg vs g) (hb : HSs C body b)
    (hs : ∀ x, foldedSetIterable iter C.X.env x = pure x := by intro _; rfl) : HS C (.For tg iter body [] pos) (fFor it g b) := by
  obtain ⟨wi, hw, hi⟩ := hi
  obtain ⟨tgt, ht, hg⟩ := hg
  obtain ⟨tb, htb, hb⟩ := hb
  refine ⟨_, ps_for C.po C.calm hw ht htb hs, fun B F own H σ ρ E G I w k z => ?_⟩
  refine hi B F own H σ ρ _ _ I w (fun ds ρ1 F1 own1 H1 J r1 I1 x1 it1 => ?_) z
  refine ⟨fun i m σ2 H2 => m = ds.length - i ∧ i ≤ ds.length ∧ ∃ F2 own2 ρ2, SInv C.X.K B F2 own2 H2 σ2 ρ2 ∧ Same F1 F2 ∧ forW g b (ds.drop i) ρ2 E, ⟨ds.length, rfl, Nat.zero_le _, F1, own1, ρ1, I1, Same.refl _, r1⟩, ?_⟩
  rintro i m σ2 H2 ⟨rfl, hi, F2, own2, ρ2, I2, s2, q⟩
  obtain ⟨go, stop, yld⟩ := it1 F2 own2 H2 s2 I2.fh (.inl rfl)
  by_cases hlt : i < ds.length
  · refine .inr ⟨go i hlt, fun σ3 H3 => ∃ F3 own3 ρ3, SInv C.X.K B F3 own3 H3 σ3 ρ3 ∧ Same F1 F3 ∧ forW g b (ds.drop (i + 1)) ρ3 E, fun σ3 H3 n => ⟨ds.length - (i + 1), by omega, rfl, hlt, n⟩, fun x H3 hy => ?_⟩
    obtain ⟨F3, d, e, al, dx⟩ := yld i x H3 hlt hy
    have ed : ds.drop i = d :: ds.drop (i + 1) := by
      rw [List.drop_eq_getElem_cons hlt]
      congr 1
      rw [List.getElem?_eq_getElem hlt] at e
      exact Option.some.inj e
    rw [ed] at q
    have I3 := I2.al al
    have s3 : Same F1 F3 := s2.trans al.ff
    refine hg B F3 own2 H3 σ2 ρ2 x d _ _ I3 dx (fun ρ4 σ4 r4 I4 w4 => ?_) q
    refine hb B F3 own2 H3 σ4 ρ4 _ _ I4 (w.mono (x1.ff.trans s3)) ⟨?_, ?_, ?_, ?_⟩ r4
    · exact fun F5 own5 H5 σ5 ρ5 I5 s5 r5 => ⟨F5, own5, ρ5, I5, s3.trans s5, r5⟩
    · exact fun F5 own5 H5 σ5 ρ5 v d I5 s5 dv r5 => k.rt F5 own5 H5 σ5 ρ5 v d I5 ((x1.ff.trans s3).trans s5) dv r5
    · exact fun F5 own5 H5 σ5 ρ5 I5 s5 r5 => k.nx F5 own5 H5 σ5 ρ5 I5 ((x1.ff.trans s3).trans s5) r5
    · exact fun F5 own5 H5 σ5 ρ5 I5 s5 r5 => ⟨F5, own5, ρ5, I5, s3.trans s5, r5⟩
  · have e : i = ds.length := by omega
    subst e
    refine .inl ⟨stop _ (Nat.le_refl _), ?_⟩
    rw [List.drop_length] at q
    exact k.nx F2 own2 H2 σ2 ρ2 I2 (x1.ff.trans s2) q
/-! ### while -/
def whW (c : TF) (b : SF) : Nat → SF
  | 0, _, _ => False
  | n + 1, ρ, E => c ρ fun v ρ1 => if v = true then b ρ1 { E with nx := fun ρ' => whW c b n ρ' E, ct := fun ρ' => whW c b n ρ' E, bk := E.nx } else E.nx ρ1
def fWhile (c : TF) (b : SF) : SF := fun ρ E => ∃ n, whW c b n ρ E
theorem hs_while {p : Bool} {c : Expr} {body : List Stmt} {pos : Pos} {f : TF} {b : SF} (hc : HT C p c f) (hb : HSs C body b) : HS C (.While c body [] pos) (fWhile f b) := by
  obtain ⟨tc, htc, hc⟩ := hc
  obtain ⟨tb, htb, hb⟩ := hb
  refine ⟨_, ps_while C.po htc htb, fun B F own H σ ρ E G I w k z => ?_⟩
  obtain ⟨n0, z⟩ := z
  refine ⟨fun m σ2 H2 => ∃ F2 own2 ρ2, SInv C.X.K B F2 own2 H2 σ2 ρ2 ∧ Same F F2 ∧ whW f b m ρ2 E, ⟨n0, F, own, ρ, I, Same.refl _, z⟩, ?_⟩
  rintro m σ2 H2 ⟨F2, own2, ρ2, I2, s2, q⟩
  cases m with
  | zero => exact q.elim
  | succ m =>
    refine hc B F2 own2 H2 σ2 ρ2 _ _ I2 (w.mono s2) (fun v ρ3 F3 own3 H3 r3 I3 x3 => ?_) q
    cases v with
    | true =>
      rw [if_pos rfl] at r3 ⊢
      have s3 : Same F F3 := s2.trans x3.ff
      refine ⟨fun σ4 H4 => ∃ F4 own4 ρ4, SInv C.X.K B F4 own4 H4 σ4 ρ4 ∧ Same F F4 ∧ whW f b m ρ4 E, fun σ4 H4 n => ⟨m, Nat.lt_succ_self _, n⟩, ?_⟩
      refine hb B F3 own3 H3 σ2 ρ3 _ _ I3 (w.mono s3) ⟨?_, ?_, ?_, ?_⟩ r3
      · exact fun F5 own5 H5 σ5 ρ5 I5 s5 r5 => ⟨F5, own5, ρ5, I5, s3.trans s5, r5⟩
      · exact fun F5 own5 H5 σ5 ρ5 v d I5 s5 dv r5 => k.rt F5 own5 H5 σ5 ρ5 v d I5 (s3.trans s5) dv r5
      · exact fun F5 own5 H5 σ5 ρ5 I5 s5 r5 => k.nx F5 own5 H5 σ5 ρ5 I5 (s3.trans s5) r5
      · exact fun F5 own5 H5 σ5 ρ5 I5 s5 r5 => ⟨F5, own5, ρ5, I5, s3.trans s5, r5⟩
    | false =>
      simp only [Bool.false_eq_true, if_false] at r3 ⊢
      exact k.nx F3 own3 H3 σ2 ρ3 I3 (s2.trans x3.ff) r3

/-! ### comprehensions -/
def hideR : List Nat → Rho → Rho
  | [], ρ => ρ
  | v :: vs, ρ => (hideR vs ρ).set v .un
def resF : Option Sl → Sl
  | some (.fz d) => .fz d
  | _ => .un
def backR (ρ0 : Rho) : List Nat → Rho → Rho
  | [], ρ => ρ
  | v :: vs, ρ => (backR ρ0 vs ρ).set v (resF (ρ0[v]?))
theorem SInv.hide {K : PySem.W.Frag} {B F H : Hp} {own : Own} {σ : L2.St} {ρ : Rho} (I : SInv K B F own H σ ρ) : ∀ vs : List Nat, SInv K B F own H (wipe σ vs) (hideR vs ρ)
  | [] => I
  | v :: vs => by
    have J := I.hide vs
    refine ⟨J.fh, J.bh, J.bf, J.ow, by show ((hideR vs ρ).set v .un).length = ((wipe σ vs).set v none).length; rw [List.length_set, List.length_set]; exact J.len, fun i s u e e2 => ?_⟩
    have e : ((hideR vs ρ).set v .un)[i]? = some s := e
    have e2 : ((wipe σ vs).set v none)[i]? = some u := e2
    rcases set_get e with ⟨rfl, rfl⟩ | ⟨n, e⟩
    · trivial
    · rcases set_get e2 with ⟨rfl, _⟩ | ⟨_, e2⟩
      · exact absurd rfl n
      · exact J.sl i s u e e2
theorem back_len {ρ0 ρ : Rho} : ∀ vs : List Nat, (backR ρ0 vs ρ).length = ρ.length
  | [] => rfl
  | v :: vs => by
    show ((backR ρ0 vs ρ).set v _).length = _
    rw [List.length_set, back_len vs]
theorem back_get {ρ0 ρ : Rho} {i : Nat} {s : Sl} : ∀ {vs : List Nat}, (backR ρ0 vs ρ)[i]? = some s → (i ∈ vs ∧ s = resF (ρ0[i]?)) ∨ (i ∉ vs ∧ ρ[i]? = some s)
  | [], h => .inr ⟨by simp, h⟩
  | v :: vs, h => by
    have h : ((backR ρ0 vs ρ).set v (resF (ρ0[v]?)))[i]? = some s := h
    rcases set_get h with ⟨rfl, rfl⟩ | ⟨n, h⟩
    · exact .inl ⟨List.mem_cons_self, rfl⟩
    · rcases back_get h with ⟨a, b⟩ | ⟨a, b⟩
      · exact .inl ⟨List.mem_cons_of_mem _ a, b⟩
      · exact .inr ⟨by simp only [List.mem_cons, not_or]; exact ⟨n, a⟩, b⟩
/-- behind a comprehension's turn -/
theorem SInv.back {K : PySem.W.Frag} {B F F' H H' : Hp} {own own' : Own} {σ σ' : L2.St} {ρ ρ' : Rho} {vs : List Nat} (I : SInv K B F own H σ ρ) (J : SInv K B F' own' H' σ' ρ') (s : Same F F') (hw : wipe σ' vs = wipe σ vs) : SInv K B F' own' H' σ (backR ρ vs ρ') := by
  have hl : σ'.length = σ.length := by
    have := congrArg List.length hw
    rwa [wipe_length, wipe_length] at this
  refine ⟨J.fh, J.bh, J.bf, J.ow, by rw [back_len, J.len, hl], fun i sl u e e2 => ?_⟩
  rcases back_get e with ⟨a, rfl⟩ | ⟨a, e⟩
  · cases h : ρ[i]? with
    | none => trivial
    | some x =>
      cases x with
      | fz d =>
        obtain ⟨v, e3, dv⟩ := I.sl i _ _ h e2
        exact ⟨v, e3, dp_mono s dv⟩
      | _ => trivial
  · refine J.sl i sl u e ?_
    have h1 : (wipe σ' vs)[i]? = (wipe σ vs)[i]? := by rw [hw]
    rw [wipe_get, wipe_get, if_neg a, if_neg a] at h1
    rw [h1]; exact e2
def compW (vs : List Nat) (g : GF) (tt : TF) (te : EF) : List D → List D → NF
  | [], acc, ρ, R => R acc ρ
  | d :: ds, acc, ρ, R => g d (hideR vs ρ) fun ρ1 => tt ρ1 fun b ρ2 => if b = true then te ρ2 fun y ρ3 => acc.length < sizeLine ∧ compW vs g tt te ds (acc ++ [y]) (backR ρ vs ρ3) R else compW vs g tt te ds acc (backR ρ vs ρ2) R
def nComp (vs : List Nat) (it : NF) (g : GF) (tt : TF) (te : EF) : NF := fun ρ R => it ρ fun ds ρ1 => compW vs g tt te ds [] ρ1 R
def tYs : TF := fun ρ R => R true ρ
/-- the blocks' contexts -/
def Ct.blk (C : Ct) (s : Shared) (H : Hp) (scope : Scope) (cenv : PySem.Env) (fp : List Addr) : Ct where
  X := C.X.blk s H scope cenv fp
  wx := fun _ _ _ _ => False
  W := fun _ _ _ => False
  xc := fun _ => none
  calm := C.calm
  po := PassesOwn.never
  nd := C.nd
  lv := C.lv
  room := C.room
theorem blk_w {C : Ct} {s : Shared} {H : Hp} {scope : Scope} {cenv : PySem.Env} {fp : List Addr} {B F : Hp} : WOk (C.blk s H scope cenv fp) B F := ⟨fun _ _ _ _ _ _ _ _ _ _ _ _ h => h.elim⟩
/-- the canonical readings -/
def tOfE (K : PySem.W.Frag) (p : Bool) (f : EF) : TE := fun σ H Q => ∃ B F own ρ R, SInv K B F own H σ ρ ∧ (∀ d ρ' F' own' H' v, R d ρ' → SInv K B F' own' H' σ ρ' → Ext p F own H F' own' H' → Rp K F' v d → Q v H') ∧ f ρ R
def tOfT (K : PySem.W.Frag) (p : Bool) (f : TF) : TT := fun σ H Q => ∃ B F own ρ R, SInv K B F own H σ ρ ∧ (∀ b ρ' F' own' H', R b ρ' → SInv K B F' own' H' σ ρ' → Ext p F own H F' own' H' → Q b H') ∧ f ρ R
def tOfG (K : PySem.W.Frag) (vs : List Nat) (g : GF) : TG := fun v σ H Q => ∃ B F own ρ d R, SInv K B F own H σ ρ ∧ Rp K F v d ∧ (∀ ρ' σ', R ρ' → SInv K B F own H σ' ρ' → wipe σ' vs = wipe σ vs → Q σ' H) ∧ g d ρ R
theorem HE.can {C : Ct} {p : Bool} {e : Expr} {f : EF} (hW : ∀ B F, WOk C B F) (h : HE C p e f) : PE C.X e (tOfE C.X.K p f) := by
  obtain ⟨t, ht, hs⟩ := h
  refine ⟨fun pins s σ H Q I z => ht.run pins s σ H Q I ?_⟩
  obtain ⟨B, F, own, ρ, R, J, k, z⟩ := z
  exact hs B F own H σ ρ Q R J (hW B F) k z
/-- tests of a comprehension -/
def HTs (C : Ct) (p : Bool) (es : List Expr) (f : TF) : Prop := ∃ t, PTs C.X es t ∧ ∀ B F own H σ ρ Q R, SInv C.X.K B F own H σ ρ → WOk C B F →
  (∀ b ρ' F' own' H', R b ρ' → SInv C.X.K B F' own' H' σ ρ' → Ext p F own H F' own' H' → Q b H') → f ρ R → t σ H Q
theorem hts_nil : HTs C true [] tYs := ⟨_, pts_nil, fun B F own H σ ρ Q R I w k z => k true ρ F own H z I .refl⟩
theorem hts_one {p : Bool} {e : Expr} {f : TF} (h : HT C p e f) : HTs C p [e] f := by
  obtain ⟨t, ht, hs⟩ := h
  exact ⟨t, pts_one ht, hs⟩
theorem HTs.can {C : Ct} {p : Bool} {e : List Expr} {f : TF} (hW : ∀ B F, WOk C B F) (h : HTs C p e f) : PTs C.X e (tOfT C.X.K p f) := by
  obtain ⟨t, ht, hs⟩ := h
  refine ⟨fun pins s σ H Q I z => ht.run pins s σ H Q I ?_⟩
  obtain ⟨B, F, own, ρ, R, J, k, z⟩ := z
  exact hs B F own H σ ρ Q R J (hW B F) k z
theorem HG.can {C : Ct} {e : Expr} {vs : List Nat} {g : GF} (h : HG C e vs g) : PG C.X e (tOfG C.X.K vs g) := by
  obtain ⟨t, ht, hs⟩ := h
  refine ⟨fun pins s σ H v u Q I r z => ht.run pins s σ H v u Q I r ?_⟩
  obtain ⟨B, F, own, ρ, d, R, J, dv, k, z⟩ := z
  exact hs B F own H σ ρ v d Q R J dv k z
/-- as Ext, but for what stands at A, which is new -/
structure ExtA (A : Addr) (p : Bool) (F : Hp) (own : Own) (H F' : Hp) (own' : Own) (H' : Hp) : Prop where
  ff : Same F F'
  hh : ∀ a o, H a = some o → (p = true ∨ own a = none) → H' a = some o
  oo : ∀ a i, own a = some i → own' a = some i
  on : ∀ a i o, H a = some o → own' a = some i → own a = some i
  hl : ∀ a o, H a = some o → ∃ o', H' a = some o'
  fo : ∀ a o, H a = some o → F' a = F a
theorem Ext.toA {A : Addr} {p q : Bool} {F own H F' own' H'} (x : Ext q F own H F' own' H') (n : H A = none) (hp : q = true := by rfl) : ExtA A p F own H F' own' H' :=
  ⟨x.ff, fun a o h _ => x.hh a o h (.inl hp), x.oo, x.on, x.hl, x.fo⟩
theorem ExtA.trans {A : Addr} {p : Bool} {F own H F1 own1 H1 F2 own2 H2} {o : HO} (x : ExtA A p F own H F1 own1 H1) (n : H A = none) (h : H1 A = some o) (y : Ext p F1 own1 H1 F2 own2 H2) : ExtA A p F own H F2 own2 H2 where
  ff := x.ff.trans y.ff
  hh := fun a o h c => by
    refine y.hh a o (x.hh a o h c) ?_
    rcases c with c | c
    · exact .inl c
    · refine .inr ?_
      cases e : own1 a with
      | none => rfl
      | some i => rw [x.on a i o h e] at c; cases c
  oo := fun a i h => y.oo a i (x.oo a i h)
  on := fun a i o h e => by
    obtain ⟨o1, h1⟩ := x.hl a o h
    exact x.on a i o h (y.on a i o1 h1 e)
  hl := fun a o h => by
    obtain ⟨o1, h1⟩ := x.hl a o h
    exact y.hl a o1 h1
  fo := fun a o h => by
    obtain ⟨o1, h1⟩ := x.hl a o h
    exact (y.fo a o1 h1).trans (x.fo a o h)
theorem ExtA.put {A : Addr} {p : Bool} {F own H F' own' H'} {o : HO} (x : ExtA A p F own H F' own' H') (n : H A = none := by assumption) : ExtA A p F own H F' own' (upd H' A o) :=
  ⟨x.ff, fun a u h c => by rw [upd_ne (ne_of_none h n)]; exact x.hh a u h c, x.oo, x.on, fun a u h => by rw [upd_ne (ne_of_none h n)]; exact x.hl a u h, x.fo⟩
theorem Ext.transA {A : Addr} {p q : Bool} {F own H F1 own1 H1 F2 own2 H2} (x : Ext p F own H F1 own1 H1) (y : ExtA A q F1 own1 H1 F2 own2 H2) (n : H A = none) (n1 : H1 A = none) : Ext (p && q) F own H F2 own2 H2 :=
  x.trans ⟨y.ff, y.hh, y.oo, y.on, y.hl, y.fo⟩
/-- what nobody knows of is changed -/
theorem SInv.put {K : PySem.W.Frag} {B F H : Hp} {own : Own} {σ : L2.St} {ρ : Rho} {a : Addr} {o : HO} (I : SInv K B F own H σ ρ) (h : H a = some o) (hF : F a = none) (ho : own a = none) (o' : HO) (hB : B a = none := by assumption) : SInv K B F own (upd H a o') σ ρ where
  fh := fun b u e => by
    rw [upd_ne (fun z => by subst z; rw [hF] at e; cases e)]
    exact I.fh b u e
  bh := fun b u e => by
    rw [upd_ne (fun z => by subst z; rw [hB] at e; cases e)]
    exact I.bh b u e
  bf := I.bf
  ow := fun b i e => by
    have hb : b ≠ a := fun z => by subst z; rw [ho] at e; cases e
    rw [upd_ne hb]
    exact I.ow b i e
  len := I.len
  sl := fun i s v e e2 => (I.sl i s v e e2).keep (Same.refl _) (fun b u hb h => by
    rw [upd_ne (fun z => by subst z; rw [ho] at hb; cases hb)]
    exact h) fun _ h => h
/-- the reading of a comprehension -/
theorem lc_sound {B : Hp} {p q p2 p3 : Bool} {wi : TI} {vs : List Nat} {it : NF} {g : GF} {tt : TF} {te : EF} (hq : q = true ∨ (p2 && p3) = true)
    (hi : ∀ B F own H σ ρ Q R, SInv C.X.K B F own H σ ρ → WOk C B F → (∀ ds ρ' F' own' H' J, R ds ρ' → SInv C.X.K B F' own' H' σ ρ' → Ext p F own H F' own' H' → ItOk C.X.K q F' own' H' J ds → Q J H') → it ρ R → wi σ H Q) :
    ∀ F own H σ ρ Q R, SInv C.X.K B F own H σ ρ → WOk C B F →
      (∀ ds ρ' F' own' H' a us, R ds ρ' → SInv C.X.K B F' own' H' σ ρ' → Ext (p && (p2 && p3)) F own H F' own' H' → H a = none → H' a = some (.lst us) → F' a = none → own' a = none → RpAll C.X.K F' us ds → Q (.ref a) H') →
      nComp vs it g tt te ρ R → tLc wi (tOfG C.X.K vs g) (tOfT C.X.K p2 tt) (tOfE C.X.K p3 te) vs σ H Q := by
  intro F own H σ ρ Q R I w k z
  refine hi B F own H σ ρ _ _ I w (fun ds ρ1 F1 own1 H1 J r1 I1 x1 it1 => ?_) z
  intro A nA
  have hB : B A = none := by
    cases e : B A with
    | none => rfl
    | some u => rw [I1.bh A u e] at nA; cases nA
  have al := Al.new (F := F1) (o := .lst []) I1.fh nA
  have I1' := I1.al al
  have x1' : Ext p F own H F1 own1 (upd H1 A (.lst [])) := by simpa using x1.trans (al.ext true)
  have hA0 : H A = none := by
    cases e : H A with
    | none => rfl
    | some o => obtain ⟨o', q⟩ := x1.hl A o e; rw [q] at nA; cases nA
  -- what a turn leaves, but for the new list
  refine ⟨fun i m H2 => m = ds.length - i ∧ i ≤ ds.length ∧ ∃ F2 own2 ρ2 acc us, SInv C.X.K B F2 own2 H2 σ ρ2 ∧ ExtA A (p2 && p3) F1 own1 H1 F2 own2 H2 ∧ H2 A = some (.lst us) ∧ F2 A = none ∧ own2 A = none ∧ RpAll C.X.K F2 us acc ∧ compW vs g tt te (ds.drop i) acc ρ2 R,
    ⟨ds.length, rfl, Nat.zero_le _, F1, own1, ρ1, [], [], I1', (al.ext true).toA nA, upd_same, I1.no_F nA, I1.no_own nA, .nil, r1⟩, ?_⟩
  rintro i m H2 ⟨rfl, hle, F2, own2, ρ2, acc, us, I2, x2, hA, fA, oA, ra, q2⟩
  obtain ⟨go, stop, yld⟩ := it1 F2 own2 H2 x2.ff I2.fh (by
    rcases hq with hq | hq
    · exact .inl hq
    · exact .inr fun a i o e h => ⟨x2.oo a i e, x2.hh a o h (.inl hq)⟩)
  by_cases hlt : i < ds.length
  · refine .inr ⟨go i hlt, fun H3 => ∃ F3 own3 ρ3 acc3 us3, SInv C.X.K B F3 own3 H3 σ ρ3 ∧ ExtA A (p2 && p3) F1 own1 H1 F3 own3 H3 ∧ H3 A = some (.lst us3) ∧ F3 A = none ∧ own3 A = none ∧ RpAll C.X.K F3 us3 acc3 ∧ compW vs g tt te (ds.drop (i + 1)) acc3 ρ3 R,
      fun H3 n => ⟨ds.length - (i + 1), by omega, rfl, hlt, n⟩, fun x H3 hy => ?_⟩
    obtain ⟨F3, d, e, al3, dx⟩ := yld i x H3 hlt hy
    have ed : ds.drop i = d :: ds.drop (i + 1) := by
      rw [List.drop_eq_getElem_cons hlt]
      congr 1
      rw [List.getElem?_eq_getElem hlt] at e
      exact Option.some.inj e
    rw [ed] at q2
    have I3 := I2.al al3
    have x3 := x2.trans nA hA (al3.ext (p2 && p3))
    refine ⟨B, F3, own2, hideR vs ρ2, d, _, I3.hide vs, dx, fun ρ4 σ4 r4 I4 w4 => ⟨?_, ?_⟩, q2⟩
    · rw [w4]
      apply List.ext_getElem?
      intro j
      rw [wipe_get, wipe_get]
      by_cases hj : j ∈ vs
      · rw [if_pos hj, if_pos hj]; cases h : σ[j]? <;> simp [h]
      · rw [if_neg hj, if_neg hj]
    · have w4' : wipe σ4 vs = wipe σ vs := by
        rw [w4]
        apply List.ext_getElem?
        intro j
        rw [wipe_get, wipe_get]
        by_cases hj : j ∈ vs
        · rw [if_pos hj, if_pos hj]; cases h : σ[j]? <;> simp [h]
        · rw [if_neg hj]
      have hA3 : H3 A = some (.lst us) := al3.hh _ _ hA
      have fA3 : F3 A = none := (al3.fo A _ hA).trans fA
      refine ⟨B, F3, own2, ρ4, _, I4, fun b ρ5 F5 own5 H5 r5 I5 x5 => ?_, r4⟩
      have hA5 : H5 A = some (.lst us) := x5.hh _ _ hA3 (.inr oA)
      have fA5 : F5 A = none := (x5.fo A _ hA3).trans fA3
      have oA5 : own5 A = none := by
        cases h : own5 A with
        | none => rfl
        | some j => rw [x5.on A j _ hA3 h] at oA; cases oA
      cases b with
      | true =>
        dsimp only at r5 ⊢
        rw [if_pos rfl] at r5 ⊢
        refine ⟨B, F5, own5, ρ5, _, I5, fun y ρ6 F6 own6 H6 u r6 I6 x6 d6 => ?_, r5⟩
        have hA6 : H6 A = some (.lst us) := x6.hh _ _ hA5 (.inr oA5)
        have fA6 : F6 A = none := (x6.fo A _ hA5).trans fA5
        have oA6 : own6 A = none := by
          cases h : own6 A with
          | none => rfl
          | some j => rw [x6.on A j _ hA5 h] at oA5; cases oA5
        have s6 : Same F2 F6 := al3.ff.trans (x5.ff.trans x6.ff)
        have I7 := (I2.back I6 s6 w4').put hA6 fA6 oA6 (.lst (us ++ [u]))
        refine ⟨us, hA6, by rw [dpa_len ra]; exact r6.1, F6, own6, _, acc ++ [y], us ++ [u], I7, ?_, upd_same, fA6, oA6, dpa_app (dpa_mono s6 ra) (.cons d6 .nil), r6.2⟩
        have x56 : Ext (p2 && p3) F3 own2 H3 F6 own6 H6 := x5.trans x6
        exact (x3.trans nA hA3 x56).put
      | false =>
        simp only [Bool.false_eq_true, if_false] at r5 ⊢
        have s5 : Same F2 F5 := al3.ff.trans x5.ff
        refine ⟨F5, own5, _, acc, us, I2.back I5 s5 w4', x3.trans nA hA3 x5.andl, hA5, fA5, oA5, dpa_mono s5 ra, r5⟩
  · have e : i = ds.length := by omega
    subst e
    rw [List.drop_length] at q2
    refine .inl ⟨stop _ (Nat.le_refl _), ?_⟩
    exact k acc ρ2 F2 own2 H2 A us q2 I2 (x1.transA x2 hA0 nA) hA0 hA fA oA ra
end TL
set_option Elab.async false
set_option linter.all false
set_option maxRecDepth 100000
namespace TL
open PySem PySem.Spec PyProof.Rows L2
variable {C : Ct}

/-! ### comprehensions: the rules -/
section
variable {p q p2 p3 : Bool} {elt tg iter : Expr} {ifs : List Expr} {scope : Scope} {own : List (Str × Nat)} {pos : Pos} {it : NF} {g : GF} {tt : TF} {te : EF} {vs : List Nat}
theorem hn_comp (hi : HI C p q tg iter it) (ok : BlkOk C.X.N C.X.env.scope scope own) (hvs : own.map (·.2) = vs)
    (hg : ∀ (s : Shared) (H : Hp) (A : Addr) (cl : List (Str × Addr)) (fp : List Addr), HG (C.blk s H scope (compEnvC scope cl A C.X.env) fp) tg vs g)
    (ht : ∀ (s : Shared) (H : Hp) (A : Addr) (cl : List (Str × Addr)) (fp : List Addr), HTs (C.blk s H scope (compEnvC scope cl A C.X.env) fp) p2 ifs tt)
    (he : ∀ (s : Shared) (H : Hp) (A : Addr) (cl : List (Str × Addr)) (fp : List Addr), HE (C.blk s H scope (compEnvC scope cl A C.X.env) fp) p3 elt te)
    (hq : q = true ∨ (p2 && p3) = true := by first | exact .inl rfl | exact .inr rfl)
    (hs : ∀ x, foldedSetIterable iter C.X.env x = pure x := by intro _; rfl) : HN C (p && (p2 && p3)) (.ListComp elt [⟨tg, iter, ifs, 0⟩] scope pos) (nComp vs it g tt te) := by
  obtain ⟨wi, hw, hi⟩ := hi
  refine ⟨_, pe_lc (g := tOfG C.X.K vs g) (tt := tOfT C.X.K p2 tt) (te := tOfE C.X.K p3 te) C.calm C.nd hw ok (fun s H A cl fp => (hg s H A cl fp).can) (fun s H A cl fp => (ht s H A cl fp).can fun _ _ => blk_w) (fun s H A cl fp => (he s H A cl fp).can fun _ _ => blk_w) hs, fun B F o H σ ρ Q R I w k z => ?_⟩
  rw [hvs]
  exact lc_sound hq hi F o H σ ρ Q R I w k z
/-- name = [..] in one line, the name a plain local -/
theorem hs_setcomp_of {i : Nat} {st : Stmt} (mk : ∀ {wi : TI} {g : TG} {tt : TT} {te : TE}, PI C.X tg iter wi →
      (∀ (s : Shared) (H : Hp) (A : Addr) (cl : List (Str × Addr)) (fp : List Addr), PG (C.X.blk s H scope (compEnvC scope cl A C.X.env) fp) tg g) →
      (∀ (s : Shared) (H : Hp) (A : Addr) (cl : List (Str × Addr)) (fp : List Addr), PTs (C.X.blk s H scope (compEnvC scope cl A C.X.env) fp) ifs tt) →
      (∀ (s : Shared) (H : Hp) (A : Addr) (cl : List (Str × Addr)) (fp : List Addr), PE (C.X.blk s H scope (compEnvC scope cl A C.X.env) fp) elt te) → PS C.X st (tAsg (tLc wi g tt te (own.map (·.2))) (L2.gName i)))
    (hi : HI C p q tg iter it) (hvs : own.map (·.2) = vs)
    (hg : ∀ (s : Shared) (H : Hp) (A : Addr) (cl : List (Str × Addr)) (fp : List Addr), HG (C.blk s H scope (compEnvC scope cl A C.X.env) fp) tg vs g)
    (ht : ∀ (s : Shared) (H : Hp) (A : Addr) (cl : List (Str × Addr)) (fp : List Addr), HTs (C.blk s H scope (compEnvC scope cl A C.X.env) fp) p2 ifs tt)
    (he : ∀ (s : Shared) (H : Hp) (A : Addr) (cl : List (Str × Addr)) (fp : List Addr), HE (C.blk s H scope (compEnvC scope cl A C.X.env) fp) p3 elt te)
    (hq : q = true ∨ (p2 && p3) = true := by first | exact .inl rfl | exact .inr rfl) : HS C st (fSetN i (nComp vs it g tt te)) := by
  obtain ⟨wi, hw, hi⟩ := hi
  refine ⟨_, mk (g := tOfG C.X.K vs g) (tt := tOfT C.X.K p2 tt) (te := tOfE C.X.K p3 te) hw (fun s H A cl fp => (hg s H A cl fp).can) (fun s H A cl fp => (ht s H A cl fp).can fun _ _ => blk_w) (fun s H A cl fp => (he s H A cl fp).can fun _ _ => blk_w), fun B F o H σ ρ E G I w k z => ?_⟩
  rw [hvs]
  refine lc_sound hq hi F o H σ ρ _ _ I w (fun ds ρ1 F1 own1 H1 a us r1 I1 x1 n h1 hF ho d1 => ?_) z
  have hB : B a = none := by
    cases e : B a with
    | none => rfl
    | some u => rw [I.bh a u e] at n; cases n
  exact k.nx F1 _ H1 _ _ (I1.storeN i h1 hF ho hB d1) x1.ff r1
theorem hs_setcompF_of {i : Nat} {st : Stmt} (mk : ∀ {wi : TI} {g : TG} {tt : TT} {te : TE}, PI C.X tg iter wi →
      (∀ (s : Shared) (H : Hp) (A : Addr) (cl : List (Str × Addr)) (fp : List Addr), PG (C.X.blk s H scope (compEnvC scope cl A C.X.env) fp) tg g) →
      (∀ (s : Shared) (H : Hp) (A : Addr) (cl : List (Str × Addr)) (fp : List Addr), PTs (C.X.blk s H scope (compEnvC scope cl A C.X.env) fp) ifs tt) →
      (∀ (s : Shared) (H : Hp) (A : Addr) (cl : List (Str × Addr)) (fp : List Addr), PE (C.X.blk s H scope (compEnvC scope cl A C.X.env) fp) elt te) → PS C.X st (tAsg (tLc wi g tt te (own.map (·.2))) (L2.gName i)))
    (hi : HI C p q tg iter it) (hvs : own.map (·.2) = vs)
    (hg : ∀ (s : Shared) (H : Hp) (A : Addr) (cl : List (Str × Addr)) (fp : List Addr), HG (C.blk s H scope (compEnvC scope cl A C.X.env) fp) tg vs g)
    (ht : ∀ (s : Shared) (H : Hp) (A : Addr) (cl : List (Str × Addr)) (fp : List Addr), HTs (C.blk s H scope (compEnvC scope cl A C.X.env) fp) p2 ifs tt)
    (he : ∀ (s : Shared) (H : Hp) (A : Addr) (cl : List (Str × Addr)) (fp : List Addr), HE (C.blk s H scope (compEnvC scope cl A C.X.env) fp) p3 elt te)
    (hq : q = true ∨ (p2 && p3) = true := by first | exact .inl rfl | exact .inr rfl) : HS C st (fSet i (sN (nComp vs it g tt te))) := by
  obtain ⟨wi, hw, hi⟩ := hi
  refine ⟨_, mk (g := tOfG C.X.K vs g) (tt := tOfT C.X.K p2 tt) (te := tOfE C.X.K p3 te) hw (fun s H A cl fp => (hg s H A cl fp).can) (fun s H A cl fp => (ht s H A cl fp).can fun _ _ => blk_w) (fun s H A cl fp => (he s H A cl fp).can fun _ _ => blk_w), fun B F o H σ ρ E G I w k z => ?_⟩
  rw [hvs]
  refine lc_sound hq hi F o H σ ρ _ _ I w (fun ds ρ1 F1 own1 H1 a us r1 I1 x1 n h1 hF ho d1 => ?_) z
  have hB : B a = none := by
    cases e : B a with
    | none => rfl
    | some u => rw [I.bh a u e] at n; cases n
  have I2 := (I1.freeze h1 hF ho hB).store i (v := .ref a) (d := .list ds) (.lst upd_same (dpa_mono (same_upd hF) d1))
  exact k.nx _ _ H1 _ _ I2 (x1.ff.trans (same_upd hF)) r1
end
/-! ### defs -/
abbrev FF := List D → (D → Prop) → Prop
/-- a def's promise -/
def spF (K : PySem.W.Frag) (φ : FF) : Sp := fun vs H Q _ => ∃ F ds R, Same F H ∧ RpAll K F vs ds ∧ φ ds R ∧ ∀ d F' H' v, R d → Al F H F' H' → Rp K F' v d → Q v H'
def startR (ds : List D) (m : Nat) : Rho := ds.map Sl.fz ++ List.replicate m .un
/-- what a body makes of its arguments -/
def fBody (n m : Nat) (b : SF) : FF := fun ds R => ds.length = n ∧ b (startR ds m) { nx := fun _ => R .none, rt := fun d _ => R d }
def ctOf (P : Program) (w : World) (K : PySem.W.Frag) (mg : Str → Option Value) (base : Heap) (xc : Str → Option (Addr × List Str)) (N ps : List Str) (qual : Str) (st : Stmt) (f : Addr) (cdv : Value) (A : Around) (outer : List PySem.Env) (s : Shared) (H : Hp) (E : XK) (k : Nat)
    (S : FnScope N ps (defScope st)) (hr : Room k (A.deeper (envOfC qual (defScope st) s.heap.objs.size f cdv))) : Ct where
  X := (cxOf CX0 P w K mg base N qual (defScope st) f cdv A outer s H E).nox
  wx := fun _ _ _ _ => False
  W := fun _ _ _ => False
  xc := xc
  calm := rfl
  po := PassesOwn.never
  nd := S.nd
  lv := k
  room := hr
section
variable {P : Program} {w : World} {K : PySem.W.Frag} {mg : Str → Option Value} {base : Heap}
theorem fn_ok {xc : Str → Option (Addr × List Str)} {x qual : Str} {st : Stmt} {f : Addr} {fd : FuncData} {N ps : List Str} {k n m : Nat} {b : SF} (F : Fun K x qual st f fd) (S : FnScope N ps (defScope st)) (hn : ps.length = n) (hm : N.length = n + m)
    (hb : ∀ cdv A outer s H E (hr : Room k (A.deeper (envOfC qual (defScope st) s.heap.objs.size f cdv))), HSs (ctOf P w K mg base xc N ps qual st f cdv A outer s H E k S hr) (defBody st) b) :
    FnOk P w K mg base CX0 (k + 1) f fd ps (spF K (fBody n m b)) := by
  refine F.ok S (fun vs H Q E h => ?_) (fun cdv A outer s H vs Q E hr h => ?_)
  · obtain ⟨F, ds, R, e, r, ⟨hl, q⟩, kk⟩ := h
    rw [dpa_len r, hl, hn]
  · obtain ⟨F, ds, R, e, r, ⟨hl, q⟩, kk⟩ := h
    obtain ⟨t, ht, hs⟩ := hb cdv A outer s H E hr
    refine ⟨t, ht, ?_⟩
    -- what the caller knows of alone
    let B : Hp := fun a => if F a = none then H a else none
    have hB : ∀ a o, B a = some o → F a = none ∧ H a = some o := fun a o e => by
      show F a = none ∧ H a = some o
      have e : (if F a = none then H a else none) = some o := e
      split at e
      · exact ⟨by assumption, e⟩
      · cases e
    have I0 : SInv K B F (fun _ => none) H (L2.start N vs) (startR ds m) := by
      refine ⟨e, fun a o h => (hB a o h).2, fun a o h => ⟨(hB a o h).1, rfl⟩, fun a i h => (by cases h), ?_, fun i s u e1 e2 => ?_⟩
      · unfold startR L2.start
        rw [List.length_append, List.length_append, List.length_map, List.length_map, List.length_replicate, List.length_replicate, dpa_len r]
        omega
      · unfold startR at e1
        by_cases hi : i < ds.length
        · rw [List.getElem?_append_left (by simpa using hi), List.getElem?_map, List.getElem?_eq_getElem hi] at e1
          cases e1
          obtain ⟨v, hv, dv⟩ := dpa_get' r (List.getElem?_eq_getElem hi)
          refine ⟨v, ?_, dv⟩
          unfold L2.start at e2
          rw [List.getElem?_append_left (by simpa [dpa_len r] using hi), List.getElem?_map, hv] at e2
          exact (Option.some.inj e2).symm
        · rw [List.getElem?_append_right (by simpa using hi)] at e1
          have : s = .un := by
            obtain ⟨hlt, e3⟩ := List.getElem?_eq_some_iff.mp e1
            simpa using e3.symm
          subst this
          trivial
    have fin : ∀ F' own' H' σ' ρ' v d, SInv K B F' own' H' σ' ρ' → Same F F' → Rp K F' v d → R d → Q v H' := fun F' own' H' σ' ρ' v d I s dv q => by
      refine kk d F' H' v q ⟨s, fun a o h => ?_, I.fh, fun a o h => ?_⟩ dv
      · cases hf : F a with
        | none => exact I.bh a o (by show (if F a = none then H a else none) = some o; rw [if_pos hf]; exact h)
        | some u =>
          have := e a u hf
          rw [h] at this
          cases this
          exact I.fh a o (s a o hf)
      · cases hf : F a with
        | none => exact (I.bf a o (by show (if F a = none then H a else none) = some o; rw [if_pos hf]; exact h)).1
        | some u => exact s a u hf
    refine hs B F (fun _ => none) H _ _ _ _ I0 ⟨fun _ _ _ _ _ _ _ _ _ _ _ _ h => h.elim⟩ ⟨?_, ?_, ?_, ?_⟩ q
    · exact fun F' own' H' σ' ρ' I s r => fin F' own' H' σ' ρ' .non .none I s .non r
    · exact fun F' own' H' σ' ρ' v d I s dv r => fin F' own' H' σ' ρ' v d I s dv r
    · exact fun F' own' H' σ' ρ' I s r => r.elim
    · exact fun F' own' H' σ' ρ' I s r => r.elim
theorem FnOk.spec {f : Addr} {fd : FuncData} {ps : List Str} {k : Nat} {φ ψ : FF} (h : FnOk P w K mg base CX0 k f fd ps (spF K φ)) (hi : ∀ ds (R : D → Prop), ψ ds R → φ ds R) : FnOk P w K mg base CX0 k f fd ps (spF K ψ) :=
  h.imp fun vs H Q E ⟨F, ds, R, e, r, q, kk⟩ => ⟨F, ds, R, e, r, hi ds _ q, kk⟩
end
/-- a call of a def by its promise -/
def sCall (φ : FF) (a : NF) : EF := fun ρ R => a ρ fun ds ρ1 => φ ds fun d => R d ρ1
theorem he_call {p : Bool} {k : Nat} {f : Addr} {fd : FuncData} {ps : List Str} {φ : FF} {x : Str} {pp pos : Pos} {e : Expr} {es : List Expr} {a : NF} (G : FnOk C.X.prog C.X.w C.X.K C.X.mg C.X.base CX0 k f fd ps (spF C.X.K φ)) (hk : k ≤ C.lv) (hg : Gl C.X x) (hm : C.X.mg x = some (.ref f))
    (hkp : PySem.W.keepIn C.X.K (.ref f) = true) (hb : Binds C.X.K fd ps []) (ha : HA C p (e :: es) a) (hdb : (x == ("__debug__" : Str)) = false := by decide) (he : starEach (e :: es) C.X.env = (false, eval e C.X.env) :: starEach es C.X.env := by rfl) (hpl : (backTo pos (starEach es C.X.env)).any (·.1) = false := by rfl) :
    HE C p (.Call (.Name x pp) (e :: es) [] pos) (sCall φ a) := by
  obtain ⟨t, ht, hs⟩ := ha
  refine ⟨_, pe_call G (C.room.mono hk) hg hm hkp hb .nil pass0 ht hdb he hpl, fun B F own H σ ρ Q R I w k z => ?_⟩
  refine hs B F own H σ ρ _ _ I w (fun ds ρ1 F1 own1 H1 vs r1 I1 x1 d1 => ?_) z
  refine ⟨F1, ds, _, I1.fh, by rw [List.append_nil]; exact d1, r1, fun d F' H' v r al dv => ?_⟩
  exact k d ρ1 F' own1 H' v r (I1.al al) (by simpa using x1.trans (al.ext true)) dv
end TL
set_option Elab.async false
set_option linter.all false
set_option maxRecDepth 100000
namespace TL
open PySem PySem.Spec PyProof.Rows L2
variable {C : Ct}

/-! ### calls of built-ins -/
section
variable {p : Bool} {x : Str} {id T : String} {e : Expr} {f : EF} {hf : RF} {pp pos : Pos} {r : List V → Hp → VK → Prop} {g : G1} {k : N1}
theorem he_callB (hc : CallR C.X (.builtin id) r) (hv : bootBuiltins x = some (.builtin id)) (hg : Op1 C (fun v => r [v]) g) (gl : Gl C.X x) (hm : C.X.mg x = none) (h : HE C p e f)
    (hn : x ≠ "__name__" := by decide) (hdb : (x == ("__debug__" : Str)) = false := by decide) (he : starEach [e] C.X.env = (false, eval e C.X.env) :: starEach [] C.X.env := by rfl) : HE C p (.Call (.Name x pp) [e] [] pos) (s1 g f) :=
  he_one (fun {ta} h => ⟨_, pe_callB hc gl hm hv (pa_cons h pa_nil he) hn hdb he rfl, fun _ _ _ z => z⟩) hg h
theorem he_callBR (hc : CallR C.X (.builtin id) r) (hv : bootBuiltins x = some (.builtin id)) (hg : Op1 C (fun v => r [v]) g) (gl : Gl C.X x) (hm : C.X.mg x = none) (h : HR C e hf)
    (hn : x ≠ "__name__" := by decide) (hdb : (x == ("__debug__" : Str)) = false := by decide) (he : starEach [e] C.X.env = (false, eval e C.X.env) :: starEach [] C.X.env := by rfl) : HE C true (.Call (.Name x pp) [e] [] pos) (s1r g hf) :=
  he_oneR (fun {ta} h => ⟨_, pe_callB hc gl hm hv (pa_cons h pa_nil he) hn hdb he rfl, fun _ _ _ z => z⟩) hg h
theorem hn_callB (hc : CallR C.X (.builtin id) r) (hv : bootBuiltins x = some (.builtin id)) (hg : Op1N C (fun v => r [v]) k) (gl : Gl C.X x) (hm : C.X.mg x = none) (h : HE C p e f)
    (hn : x ≠ "__name__" := by decide) (hdb : (x == ("__debug__" : Str)) = false := by decide) (he : starEach [e] C.X.env = (false, eval e C.X.env) :: starEach [] C.X.env := by rfl) : HN C p (.Call (.Name x pp) [e] [] pos) (n1 k f) :=
  hn_one (fun {ta} h => ⟨_, pe_callB hc gl hm hv (pa_cons h pa_nil he) hn hdb he rfl, fun _ _ _ z => z⟩) hg h
theorem hn_callBR (hc : CallR C.X (.builtin id) r) (hv : bootBuiltins x = some (.builtin id)) (hg : Op1N C (fun v => r [v]) k) (gl : Gl C.X x) (hm : C.X.mg x = none) (h : HR C e hf)
    (hn : x ≠ "__name__" := by decide) (hdb : (x == ("__debug__" : Str)) = false := by decide) (he : starEach [e] C.X.env = (false, eval e C.X.env) :: starEach [] C.X.env := by rfl) : HN C true (.Call (.Name x pp) [e] [] pos) (n1r k hf) :=
  hn_oneR (fun {ta} h => ⟨_, pe_callB hc gl hm hv (pa_cons h pa_nil he) hn hdb he rfl, fun _ _ _ z => z⟩) hg h
theorem he_callT (hc : CallR C.X (.type T) r) (hv : bootBuiltins x = some (.type T)) (hg : Op1 C (fun v => r [v]) g) (gl : Gl C.X x) (hm : C.X.mg x = none) (h : HE C p e f)
    (hn : x ≠ "__name__" := by decide) (hdb : (x == ("__debug__" : Str)) = false := by decide) (he : starEach [e] C.X.env = (false, eval e C.X.env) :: starEach [] C.X.env := by rfl) : HE C p (.Call (.Name x pp) [e] [] pos) (s1 g f) :=
  he_one (fun {ta} h => ⟨_, pe_callTy hc gl hm hv (pa_cons h pa_nil he) hn hdb he rfl, fun _ _ _ z => z⟩) hg h
theorem he_callTR (hc : CallR C.X (.type T) r) (hv : bootBuiltins x = some (.type T)) (hg : Op1 C (fun v => r [v]) g) (gl : Gl C.X x) (hm : C.X.mg x = none) (h : HR C e hf)
    (hn : x ≠ "__name__" := by decide) (hdb : (x == ("__debug__" : Str)) = false := by decide) (he : starEach [e] C.X.env = (false, eval e C.X.env) :: starEach [] C.X.env := by rfl) : HE C true (.Call (.Name x pp) [e] [] pos) (s1r g hf) :=
  he_oneR (fun {ta} h => ⟨_, pe_callTy hc gl hm hv (pa_cons h pa_nil he) hn hdb he rfl, fun _ _ _ z => z⟩) hg h
theorem hn_callT (hc : CallR C.X (.type T) r) (hv : bootBuiltins x = some (.type T)) (hg : Op1N C (fun v => r [v]) k) (gl : Gl C.X x) (hm : C.X.mg x = none) (h : HE C p e f)
    (hn : x ≠ "__name__" := by decide) (hdb : (x == ("__debug__" : Str)) = false := by decide) (he : starEach [e] C.X.env = (false, eval e C.X.env) :: starEach [] C.X.env := by rfl) : HN C p (.Call (.Name x pp) [e] [] pos) (n1 k f) :=
  hn_one (fun {ta} h => ⟨_, pe_callTy hc gl hm hv (pa_cons h pa_nil he) hn hdb he rfl, fun _ _ _ z => z⟩) hg h
theorem hn_callTR (hc : CallR C.X (.type T) r) (hv : bootBuiltins x = some (.type T)) (hg : Op1N C (fun v => r [v]) k) (gl : Gl C.X x) (hm : C.X.mg x = none) (h : HR C e hf)
    (hn : x ≠ "__name__" := by decide) (hdb : (x == ("__debug__" : Str)) = false := by decide) (he : starEach [e] C.X.env = (false, eval e C.X.env) :: starEach [] C.X.env := by rfl) : HN C true (.Call (.Name x pp) [e] [] pos) (n1r k hf) :=
  hn_oneR (fun {ta} h => ⟨_, pe_callTy hc gl hm hv (pa_cons h pa_nil he) hn hdb he rfl, fun _ _ _ z => z⟩) hg h
end
/-- arguments' rules -/
def OpL (C : Ct) (r : List V → Hp → VK → Prop) (g : List D → (D → Prop) → Prop) : Prop := ∀ F H vs ds (Q : VK) (R : D → Prop), Same F H → RpAll C.X.K F vs ds → (∀ d F' H' w, R d → Al F H F' H' → Rp C.X.K F' w d → Q w H') → g ds R → r vs H Q
def sL (g : List D → (D → Prop) → Prop) (a : NF) : EF := fun ρ R => a ρ fun ds ρ1 => g ds fun d => R d ρ1
theorem he_callBL {p : Bool} {x : Str} {id : String} {e : Expr} {es : List Expr} {a : NF} {pp pos : Pos} {r : List V → Hp → VK → Prop} {g : List D → (D → Prop) → Prop} (hc : CallR C.X (.builtin id) r) (hv : bootBuiltins x = some (.builtin id)) (hg : OpL C r g) (gl : Gl C.X x) (hm : C.X.mg x = none) (h : HA C p (e :: es) a)
    (hn : x ≠ "__name__" := by decide) (hdb : (x == ("__debug__" : Str)) = false := by decide) (he : starEach (e :: es) C.X.env = (false, eval e C.X.env) :: starEach es C.X.env := by rfl) (hpl : (backTo pos (starEach es C.X.env)).any (·.1) = false := by rfl) : HE C p (.Call (.Name x pp) (e :: es) [] pos) (sL g a) := by
  obtain ⟨t, ht, hs⟩ := h
  refine ⟨_, pe_callB hc gl hm hv ht hn hdb he hpl, fun B F own H σ ρ Q R I w k z => ?_⟩
  refine hs B F own H σ ρ _ _ I w (fun ds ρ1 F1 own1 H1 vs r1 I1 x1 d1 => ?_) z
  exact hg F1 H1 vs ds _ _ I1.fh d1 (fun d F' H' v r al dv => k d ρ1 F' own1 H' v r (I1.al al) (by simpa using x1.trans (al.ext true)) dv) r1

/-! ### the built-ins -/
def gLen : G1 := fun x R => (∃ ds, seqD x = some ds ∧ R (.int ds.length)) ∨ ∃ z : Str, x = .str z ∧ z.length ≤ sizeLine ∧ R (.int z.length)
theorem c_len : CallR C.X (.builtin "len") (fun xs H Q => (∃ p ys, xs = [.ref p] ∧ (SqL C.X.K H p ys ∨ SqT C.X.K H p ys) ∧ Q (.int ys.length) H) ∨ (∃ z, xs = [.str z] ∧ z.length ≤ sizeLine ∧ Q (.int z.length) H)) := call_len_seq.or call_len_str
theorem o_len : Op1 C (fun v => (fun xs H Q => (∃ p ys, xs = [.ref p] ∧ (SqL C.X.K H p ys ∨ SqT C.X.K H p ys) ∧ Q (.int ys.length) H) ∨ (∃ z, xs = [.str z] ∧ z.length ≤ sizeLine ∧ Q (.int z.length) H)) [v]) gLen := by
  intro F own H v x Q R e dv k q
  rcases q with ⟨ds, e1, q⟩ | ⟨z, e1, hz, q⟩
  · obtain ⟨a, vs, rfl, hs, r⟩ := seqR e dv e1
    refine .inl ⟨a, vs, rfl, hs, ?_⟩
    rw [dpa_len r]
    exact k _ F H _ q (.refl e) (.int _)
  · subst e1
    obtain rfl := dv.str
    exact .inr ⟨z, rfl, hz, k _ F H _ q (.refl e) (.int _)⟩
def gAbs : G1 := fun x R => ∃ i, x = .int i ∧ R (.int (if i < 0 then -i else i))
theorem o_abs : Op1 C (fun v => (fun xs H Q => ∃ i, xs = [V.int i] ∧ Q (.int (if i < 0 then -i else i)) H) [v]) gAbs := by
  intro F own H v x Q R e dv k ⟨i, e1, q⟩
  subst e1
  obtain rfl := dv.int
  exact ⟨i, rfl, k _ F H _ q (.refl e) (.int _)⟩
def gIntOf : G1 := fun x R => (∃ i, x = .int i ∧ R (.int i)) ∨ (∃ b, x = .bool b ∧ R (.int (if b then 1 else 0))) ∨ ∃ a n, x = .str a ∧ PySem.intText? a = some n ∧ a.length ≤ 640 ∧ R (.int n)
theorem c_int : CallR C.X (.type "int") (fun xs H Q => ((∃ i, xs = [.int i] ∧ Q (.int i) H) ∨ ∃ k, xs = [.bl k] ∧ Q (.int (if k then 1 else 0)) H) ∨ ∃ a n, xs = [.str a] ∧ PySem.intText? a = some n ∧ a.length ≤ 640 ∧ Q (.int n) H) := call_int1.or call_int_str
theorem o_int : Op1 C (fun v => (fun xs H Q => ((∃ i, xs = [V.int i] ∧ Q (.int i) H) ∨ ∃ k, xs = [V.bl k] ∧ Q (.int (if k then 1 else 0)) H) ∨ ∃ a n, xs = [V.str a] ∧ PySem.intText? a = some n ∧ a.length ≤ 640 ∧ Q (.int n) H) [v]) gIntOf := by
  intro F own H v x Q R e dv k q
  rcases q with ⟨i, e1, q⟩ | ⟨b, e1, q⟩ | ⟨a, n, e1, h1, h2, q⟩
  · subst e1
    obtain rfl := dv.int
    exact .inl (.inl ⟨i, rfl, k _ F H _ q (.refl e) (.int _)⟩)
  · subst e1
    obtain rfl := dv.bool
    exact .inl (.inr ⟨b, rfl, k _ F H _ q (.refl e) (.int _)⟩)
  · subst e1
    obtain rfl := dv.str
    exact .inr ⟨a, n, rfl, h1, h2, k _ F H _ q (.refl e) (.int _)⟩
def gStrOf : G1 := fun x R => ∃ i : Int, x = .int i ∧ i.natAbs.log2 < 1920 ∧ R (.str (toString i))
theorem o_str : Op1 C (fun v => (fun xs H Q => ∃ i, xs = [V.int i] ∧ i.natAbs.log2 < 1920 ∧ Q (.str (toString i)) H) [v]) gStrOf := by
  intro F own H v x Q R e dv k ⟨i, e1, h, q⟩
  subst e1
  obtain rfl := dv.int
  exact ⟨i, rfl, h, k _ F H _ q (.refl e) (.str _)⟩
def kList : N1 := fun x R => ∃ ds, seqD x = some ds ∧ R ds
theorem o_list : Op1N C (fun v => (fun xs H Q => ∃ p ys, xs = [V.ref p] ∧ (SqL C.X.K H p ys ∨ SqT C.X.K H p ys) ∧ ∀ l, H l = none → Q (.ref l) (upd H l (.lst ys))) [v]) kList := by
  intro F own H v x Q R e dv k ⟨ds, e1, q⟩
  obtain ⟨a, vs, rfl, hs, r⟩ := seqR e dv e1
  exact ⟨a, vs, rfl, hs, fun p np => k ds F H p vs q (.refl e) np r⟩
def gTupOf : G1 := fun x R => ∃ ds, seqD x = some ds ∧ R (.tuple ds)
theorem o_tuple : Op1 C (fun v => (fun xs H Q => ∃ p ys, xs = [V.ref p] ∧ ((SqL C.X.K H p ys ∧ ∀ l, H l = none → Q (.ref l) (upd H l (.tup ys))) ∨ (SqT C.X.K H p ys ∧ Q (.ref p) H))) [v]) gTupOf := by
  intro F own H v x Q R e dv k ⟨ds, e1, q⟩
  cases x <;> simp [seqD] at e1
  · subst e1
    obtain ⟨a, vs, rfl, hs, r⟩ := dv.list e
    refine ⟨a, vs, rfl, .inl ⟨.of hs, fun p np => ?_⟩⟩
    have al := Al.one (F := F) (o := .tup vs) e np
    exact k _ _ _ _ q al (.tup (.of upd_same) (dpa_mono al.ff r))
  · subst e1
    obtain ⟨a, vs, rfl, hs, r⟩ := dv.tuple
    exact ⟨a, vs, rfl, .inr ⟨sq_mono e hs, k _ F H _ q (.refl e) (.tup hs r)⟩⟩
/-- lists of bools, of intsD -/
def blsD : List D → Option (List Bool)
  | [] => some []
  | .bool b :: r => (blsD r).map (b :: ·)
  | _ => none
def intsD : List D → Option (List Int)
  | [] => some []
  | .int b :: r => (intsD r).map (b :: ·)
  | _ => none
theorem blsD_eq : ∀ {ds : List D} {bs : List Bool}, blsD ds = some bs → ds = bs.map PyData.bool
  | [], bs, h => by cases h; rfl
  | d :: r, bs, h => by
    cases d <;> simp [blsD] at h
    obtain ⟨cs, h1, rfl⟩ := h
    rw [blsD_eq h1]; rfl
theorem intsD_eq : ∀ {ds : List D} {bs : List Int}, intsD ds = some bs → ds = bs.map PyData.int
  | [], bs, h => by cases h; rfl
  | d :: r, bs, h => by
    cases d <;> simp [intsD] at h
    obtain ⟨cs, h1, rfl⟩ := h
    rw [intsD_eq h1]; rfl
theorem blsD_map : ∀ (bs : List Bool), blsD (bs.map PyData.bool) = some bs
  | [] => rfl
  | b :: r => by simp [blsD, blsD_map r]
theorem intsD_map : ∀ (bs : List Int), intsD (bs.map PyData.int) = some bs
  | [] => rfl
  | b :: r => by simp [intsD, intsD_map r]
def gAll : G1 := fun x R => ∃ ds bs, x = .list ds ∧ blsD ds = some bs ∧ R (.bool (bs.all id))
def gAny : G1 := fun x R => ∃ ds bs, x = .list ds ∧ blsD ds = some bs ∧ R (.bool (bs.any id))
theorem o_all : Op1 C (fun v => rAll C.X.K [v]) gAll := by
  intro F own H v x Q R e dv k ⟨ds, bs, e1, e2, q⟩
  subst e1
  obtain ⟨a, vs, rfl, hs, r⟩ := dv.list e
  rw [blsD_eq e2] at r
  rw [dp_bools r] at hs
  exact ⟨a, bs, rfl, .of hs, k _ F H _ q (.refl e) (.bl _)⟩
theorem o_any : Op1 C (fun v => rAny C.X.K [v]) gAny := by
  intro F own H v x Q R e dv k ⟨ds, bs, e1, e2, q⟩
  subst e1
  obtain ⟨a, vs, rfl, hs, r⟩ := dv.list e
  rw [blsD_eq e2] at r
  rw [dp_bools r] at hs
  exact ⟨a, bs, rfl, .of hs, k _ F H _ q (.refl e) (.bl _)⟩
def gSum : G1 := fun x R => ∃ ds ns, x = .list ds ∧ intsD ds = some ns ∧ R (.int ns.sum)
theorem o_sum : Op1 C (fun v => rSum C.X.K [v]) gSum := by
  intro F own H v x Q R e dv k ⟨ds, bs, e1, e2, q⟩
  subst e1
  obtain ⟨a, vs, rfl, hs, r⟩ := dv.list e
  rw [intsD_eq e2] at r
  rw [dp_ints r] at hs
  exact ⟨a, bs, rfl, .of hs, k _ F H _ q (.refl e) (.int _)⟩
def gMaxL : G1 := fun x R => ∃ ds ns, x = .list ds ∧ intsD ds = some ns ∧ 0 < ns.length ∧ ∀ m, m ∈ ns → (∀ y, y ∈ ns → y ≤ m) → R (.int m)
def gMinL : G1 := fun x R => ∃ ds ns, x = .list ds ∧ intsD ds = some ns ∧ 0 < ns.length ∧ ∀ m, m ∈ ns → (∀ y, y ∈ ns → m ≤ y) → R (.int m)
theorem o_maxL : Op1 C (fun v => rMax C.X.K [v]) gMaxL := by
  intro F own H v x Q R e dv k ⟨ds, bs, e1, e2, h0, q⟩
  subst e1
  obtain ⟨a, vs, rfl, hs, r⟩ := dv.list e
  rw [intsD_eq e2] at r
  rw [dp_ints r] at hs
  exact ⟨a, bs, rfl, .of hs, h0, fun m h1 h2 => k _ F H _ (q m h1 h2) (.refl e) (.int _)⟩
theorem o_minL : Op1 C (fun v => rMin C.X.K [v]) gMinL := by
  intro F own H v x Q R e dv k ⟨ds, bs, e1, e2, h0, q⟩
  subst e1
  obtain ⟨a, vs, rfl, hs, r⟩ := dv.list e
  rw [intsD_eq e2] at r
  rw [dp_ints r] at hs
  exact ⟨a, bs, rfl, .of hs, h0, fun m h1 h2 => k _ F H _ (q m h1 h2) (.refl e) (.int _)⟩
def lMax : List D → (D → Prop) → Prop := fun ds R => ∃ i j : Int, ds = [.int i, .int j] ∧ R (.int (if j > i then j else i))
def lMin : List D → (D → Prop) → Prop := fun ds R => ∃ i j : Int, ds = [.int i, .int j] ∧ R (.int (if j < i then j else i))
theorem rp_int2 {K : PySem.W.Frag} {F : Hp} {vs : List V} {i j : Int} (h : RpAll K F vs [.int i, .int j]) : vs = [.int i, .int j] := by
  cases h with
  | cons a b =>
    cases a
    cases b with
    | cons a b =>
      cases a
      cases b
      rfl
theorem o_max2 : OpL C (fun xs H Q => ∃ i j, xs = [V.int i, V.int j] ∧ Q (.int (if j > i then j else i)) H) lMax := by
  intro F H vs ds Q R e r k ⟨i, j, e1, q⟩
  subst e1
  exact ⟨i, j, rp_int2 r, k _ F H _ q (.refl e) (.int _)⟩
theorem o_min2 : OpL C (fun xs H Q => ∃ i j, xs = [V.int i, V.int j] ∧ Q (.int (if j < i then j else i)) H) lMin := by
  intro F H vs ds Q R e r k ⟨i, j, e1, q⟩
  subst e1
  exact ⟨i, j, rp_int2 r, k _ F H _ q (.refl e) (.int _)⟩
/-- sorted of intsD -/
def kSortI : N1 := fun x R => ∃ ds ns, x = .list ds ∧ intsD ds = some ns ∧ ∀ ns' : List Int, ns'.Perm ns → ns'.Pairwise (· ≤ ·) → R (ns'.map .int)
theorem o_sortI : Op1N C (fun v => rSortedI C.X.K [v]) kSortI := by
  intro F own H v x Q R e dv k ⟨ds, bs, e1, e2, q⟩
  subst e1
  obtain ⟨a, vs, rfl, hs, r⟩ := dv.list e
  rw [intsD_eq e2] at r
  rw [dp_ints r] at hs
  exact ⟨a, bs, rfl, .of hs, fun ns' p h1 h2 np => k _ F H p _ (q ns' h1 h2) (.refl e) np (dp_ints' _)⟩

/-! ### slices -/
abbrev OF := Rho → (Option Int → Rho → Prop) → Prop
def HOp (C : Ct) (p : Bool) (o : Option Expr) (f : OF) : Prop := ∃ t, PO C.X o t ∧ ∀ B F own H σ ρ Q R, SInv C.X.K B F own H σ ρ → WOk C B F →
  (∀ i ρ' F' own' H', R i ρ' → SInv C.X.K B F' own' H' σ ρ' → Ext p F own H F' own' H' → Q i H') → f ρ R → t σ H Q
def oNo : OF := fun ρ R => R none ρ
def oIs (f : EF) : OF := fun ρ R => f ρ fun d ρ1 => ∃ i, d = .int i ∧ R (some i) ρ1
theorem ho_none : HOp C true none oNo := ⟨_, po_none, fun B F own H σ ρ Q R I w k z => k none ρ F own H z I .refl⟩
theorem ho_some {p : Bool} {e : Expr} {f : EF} (h : HE C p e f) : HOp C p (some e) (oIs f) := by
  obtain ⟨t, ht, hs⟩ := h
  refine ⟨_, po_some ht, fun B F own H σ ρ Q R I w k z => ?_⟩
  refine hs B F own H σ ρ _ _ I w (fun d ρ1 F1 own1 H1 v r1 I1 x1 d1 => ?_) z
  obtain ⟨i, rfl, r⟩ := r1
  cases d1
  exact ⟨i, rfl, k _ ρ1 F1 own1 H1 r I1 x1⟩
def cutD (ds : List D) (lo hi : Option Int) : List D := (ds.drop (HT.sIx ds.length 0 lo)).take (HT.sIx ds.length ds.length hi - HT.sIx ds.length 0 lo)
theorem cut_rp {K : PySem.W.Frag} {F : Hp} {vs : List V} {ds : List D} (r : RpAll K F vs ds) (lo hi : Option Int) : RpAll K F (cutV vs lo hi) (cutD ds lo hi) := by
  unfold cutV cutD
  rw [dpa_len r]
  exact dpa_take _ (dpa_drop _ r)
def nSlL (f : EF) (a b : OF) : NF := fun ρ R => f ρ fun x ρ1 => a ρ1 fun lo ρ2 => b ρ2 fun hi ρ3 => ∃ ds, x = .list ds ∧ R (cutD ds lo hi) ρ3
def nSlLr (f : RF) (a b : OF) : NF := fun ρ R => f ρ fun x => a ρ fun lo ρ2 => b ρ2 fun hi ρ3 => ∃ ds, x = .list ds ∧ R (cutD ds lo hi) ρ3
theorem hn_slice {p q r : Bool} {e : Expr} {lo hi : Option Expr} {p2 pos : Pos} {f : EF} {a b : OF} (h : HE C p e f) (h1 : HOp C q lo a) (h2 : HOp C r hi b) : HN C (p && (q && r)) (.Subscript e (.Slice lo hi none p2) pos) (nSlL f a b) := by
  obtain ⟨t, ht, hs⟩ := h
  obtain ⟨t1, ht1, hs1⟩ := h1
  obtain ⟨t2, ht2, hs2⟩ := h2
  refine ⟨_, pe_slice sl_list ht ht1 ht2, fun B F own H σ ρ Q R I w k z => ?_⟩
  refine hs B F own H σ ρ _ _ I w (fun x ρ1 F1 own1 H1 v r1 I1 x1 d1 => ?_) z
  refine hs1 B F1 own1 H1 σ ρ1 _ _ I1 (w.mono x1.ff) (fun lo ρ2 F2 own2 H2 r2 I2 x2 => ?_) r1
  refine hs2 B F2 own2 H2 σ ρ2 _ _ I2 (w.mono (x1.ff.trans x2.ff)) (fun hi ρ3 F3 own3 H3 r3 I3 x3 => ?_) r2
  obtain ⟨ds, rfl, r3⟩ := r3
  obtain ⟨a, vs, rfl, hh, h2⟩ := DpR.list (own := own3) I3.fh (.inl (dp_mono (x2.ff.trans x3.ff) d1))
  refine ⟨a, vs, rfl, .of hh, fun p np => ?_⟩
  have al := Al.new (F := F3) (o := .lst (cutV vs lo hi)) I3.fh np
  have ex := x1.trans (x2.trans x3)
  refine k _ ρ3 F3 own3 _ p _ r3 (I3.al al) (by simpa using ex.trans (al.ext true)) ?_ upd_same (I3.no_F np) (I3.no_own np) (cut_rp h2 lo hi)
  cases e : H p with
  | none => rfl
  | some o => obtain ⟨o', q⟩ := ex.hl p o e; rw [q] at np; cases np
theorem hn_sliceR {e : Expr} {lo hi : Option Expr} {p2 pos : Pos} {f : RF} {a b : OF} (h : HR C e f) (h1 : HOp C true lo a) (h2 : HOp C true hi b) : HN C true (.Subscript e (.Slice lo hi none p2) pos) (nSlLr f a b) := by
  obtain ⟨t, ht, hs⟩ := h
  obtain ⟨t1, ht1, hs1⟩ := h1
  obtain ⟨t2, ht2, hs2⟩ := h2
  refine ⟨_, pe_slice sl_list ht ht1 ht2, fun B F own H σ ρ Q R I w k z => ?_⟩
  refine hs B F own H σ ρ _ _ I w (fun x F1 own1 H1 v r1 I1 x1 d1 => ?_) z
  refine hs1 B F1 own1 H1 σ ρ _ _ I1 (w.mono x1.ff) (fun lo ρ2 F2 own2 H2 r2 I2 x2 => ?_) r1
  refine hs2 B F2 own2 H2 σ ρ2 _ _ I2 (w.mono (x1.ff.trans x2.ff)) (fun hi ρ3 F3 own3 H3 r3 I3 x3 => ?_) r2
  obtain ⟨ds, rfl, r3⟩ := r3
  have d3 := d1.keep (x2.trans x3)
  obtain ⟨a, vs, rfl, hh, h2⟩ := d3.list I3.fh
  refine ⟨a, vs, rfl, .of hh, fun p np => ?_⟩
  have al := Al.new (F := F3) (o := .lst (cutV vs lo hi)) I3.fh np
  have ex := x1.trans (x2.trans x3)
  refine k _ ρ3 F3 own3 _ p _ r3 (I3.al al) (by simpa using ex.trans (al.ext true)) ?_ upd_same (I3.no_F np) (I3.no_own np) (cut_rp h2 lo hi)
  cases e : H p with
  | none => rfl
  | some o => obtain ⟨o', q⟩ := ex.hl p o e; rw [q] at np; cases np
/-- of a tuple, of a text -/
def rSlTS (K : PySem.W.Frag) : V → Option Int → Option Int → Hp → VK → Prop := fun x lo hi H Q => rSlA K x lo hi H Q ∨ rSlS x lo hi H Q
def sSl (f : EF) (a b : OF) : EF := fun ρ R => f ρ fun x ρ1 => a ρ1 fun lo ρ2 => b ρ2 fun hi ρ3 => (∃ ds, x = .tuple ds ∧ R (.tuple (cutD ds lo hi)) ρ3) ∨ ∃ z : Str, x = .str z ∧ z.length ≤ sizeLine ∧ R (.str (cutS z lo hi)) ρ3
theorem he_slice {p q r : Bool} {e : Expr} {lo hi : Option Expr} {p2 pos : Pos} {f : EF} {a b : OF} (h : HE C p e f) (h1 : HOp C q lo a) (h2 : HOp C r hi b) : HE C (p && (q && r)) (.Subscript e (.Slice lo hi none p2) pos) (sSl f a b) := by
  obtain ⟨t, ht, hs⟩ := h
  obtain ⟨t1, ht1, hs1⟩ := h1
  obtain ⟨t2, ht2, hs2⟩ := h2
  refine ⟨_, pe_slice (sl_tupA.or sl_str) ht ht1 ht2, fun B F own H σ ρ Q R I w k z => ?_⟩
  refine hs B F own H σ ρ _ _ I w (fun x ρ1 F1 own1 H1 v r1 I1 x1 d1 => ?_) z
  refine hs1 B F1 own1 H1 σ ρ1 _ _ I1 (w.mono x1.ff) (fun lo ρ2 F2 own2 H2 r2 I2 x2 => ?_) r1
  refine hs2 B F2 own2 H2 σ ρ2 _ _ I2 (w.mono (x1.ff.trans x2.ff)) (fun hi ρ3 F3 own3 H3 r3 I3 x3 => ?_) r2
  have ex := x1.trans (x2.trans x3)
  rcases r3 with ⟨ds, rfl, r3⟩ | ⟨z, rfl, hz, r3⟩
  · obtain ⟨a, vs, rfl, h1, h2⟩ := DpR.tuple (own := own1) (H := H1) (.inl d1)
    have hh := sq_mono (x2.ff.trans x3.ff) h1
    have hr := dpa_mono (x2.ff.trans x3.ff) h2
    · refine .inl ⟨a, vs, rfl, sq_mono I3.fh hh, fun z => ?_, fun z p np => ?_⟩
      · have e : cutD ds lo hi = ds := by
          unfold cutD
          rw [← dpa_len hr, z.1, z.2, List.drop_zero, dpa_len hr, Nat.sub_zero, List.take_length]
        rw [e] at r3
        exact k _ ρ3 F3 own3 _ _ r3 I3 ex (.tup hh hr)
      · have al := Al.one (F := F3) (o := .tup (cutV vs lo hi)) I3.fh np
        exact k _ ρ3 _ own3 _ _ r3 (I3.al al) (by simpa using ex.trans (al.ext true)) (.tup (.of upd_same) (dpa_mono al.ff (cut_rp hr lo hi)))
  · cases d1
    exact .inr ⟨z, rfl, hz, k _ ρ3 F3 own3 _ _ r3 I3 ex (.str _)⟩
def kRev : N1 := fun x R => ∃ ds, x = .list ds ∧ R ds.reverse
theorem dpa_rev {K : PySem.W.Frag} {F : Hp} : ∀ {vs : List V} {ds : List D}, RpAll K F vs ds → RpAll K F vs.reverse ds.reverse
  | _, _, .nil => .nil
  | _, _, .cons a t => by
    rw [List.reverse_cons, List.reverse_cons]
    exact dpa_app (dpa_rev t) (.cons a .nil)
theorem o_rev : Op1N C (fun x H1 Q => ∃ a xs, x = .ref a ∧ SqL C.X.K H1 a xs ∧ ∀ p, H1 p = none → Q (.ref p) (upd H1 p (.lst xs.reverse))) kRev := by
  intro F own H v x Q R e dv k ⟨ds, e1, q⟩
  subst e1
  obtain ⟨a, vs, rfl, hs, r⟩ := dv.list e
  exact ⟨a, vs, rfl, .of hs, fun p np => k _ F H p _ q (.refl e) np (dpa_rev r)⟩
theorem hn_revR {e : Expr} {k : Nat} {p1 p2 p3 pos : Pos} {f : RF} (h : HR C e f) : HN C true (.Subscript e (.Slice none none (some (.UnaryOp .USub (.Constant (.int 1) k p1) p2)) p3) pos) (n1r kRev f) :=
  hn_oneR (fun {ta} h => ⟨_, pe_revL h, fun _ _ _ z => z⟩) o_rev h
theorem hn_rev {p : Bool} {e : Expr} {k : Nat} {p1 p2 p3 pos : Pos} {f : EF} (h : HE C p e f) : HN C p (.Subscript e (.Slice none none (some (.UnaryOp .USub (.Constant (.int 1) k p1) p2)) p3) pos) (n1 kRev f) :=
  hn_one (fun {ta} h => ⟨_, pe_revL h, fun _ _ _ z => z⟩) o_rev h
/-- list(range(..)) -/
def nRg1 (f : EF) : NF := fun ρ R => f ρ fun d ρ1 => ∃ n : Int, d = .int n ∧ RgOk 0 n ∧ R (rngD 0 n) ρ1
theorem rg_rp {K : PySem.W.Frag} {F : Hp} (a b : Int) : RpAll K F (rgV a b) (rngD a b) := by
  have h : rngD a b = ((List.range (b - a).toNat).map fun i => a + ((i : Nat) : Int)).map PyData.int := by unfold rngD; rw [List.map_map]; rfl
  have h2 : rgV a b = ((List.range (b - a).toNat).map fun i => a + ((i : Nat) : Int)).map V.int := by unfold rgV; rw [List.map_map]; rfl
  rw [h, h2]
  exact dp_ints' _
theorem hn_listRg1 {p : Bool} {a : Expr} {pp pp2 pos pos2 : Pos} {f : EF} (gl : Gl C.X "list") (hm : C.X.mg "list" = none) (gl2 : Gl C.X "range") (hm2 : C.X.mg "range" = none) (h : HE C p a f)
    (na : starEach [a] C.X.env = (false, eval a C.X.env) :: starEach [] C.X.env := by rfl) (nb : starEach [.Call (.Name "range" pp2) [a] [] pos2] C.X.env = (false, eval (.Call (.Name "range" pp2) [a] [] pos2) C.X.env) :: starEach [] C.X.env := by rfl) :
    HN C p (.Call (.Name "list" pp) [.Call (.Name "range" pp2) [a] [] pos2] [] pos) (nRg1 f) := by
  obtain ⟨t, ht, hs⟩ := h
  refine ⟨_, pe_listRg C.calm gl hm (prg_1 gl2 hm2 ht na) nb, fun B F own H σ ρ Q R I w k z => ?_⟩
  refine hs B F own H σ ρ _ _ I w (fun x ρ1 F1 own1 H1 v r1 I1 x1 d1 => ?_) z
  obtain ⟨n, rfl, hr, r1⟩ := r1
  cases d1
  refine ⟨n, rfl, hr, fun p np => ?_⟩
  have al := Al.new (F := F1) (o := .lst (rgV 0 n)) I1.fh np
  refine k _ ρ1 F1 own1 _ p _ r1 (I1.al al) (by simpa using x1.trans (al.ext true)) ?_ upd_same (I1.no_F np) (I1.no_own np) (rg_rp 0 n)
  cases e : H p with
  | none => rfl
  | some o => obtain ⟨o', q⟩ := x1.hl p o e; rw [q] at np; cases np

/-! ### texts -/
def strsD : List D → Option (List Str)
  | [] => some []
  | .str b :: r => (strsD r).map (b :: ·)
  | _ => none
theorem strsD_eq : ∀ {ds : List D} {bs : List Str}, strsD ds = some bs → ds = bs.map PyData.str
  | [], bs, h => by cases h; rfl
  | d :: r, bs, h => by
    cases d <;> simp [strsD] at h
    obtain ⟨cs, h1, rfl⟩ := h
    rw [strsD_eq h1]; rfl
theorem strsD_map : ∀ (bs : List Str), strsD (bs.map PyData.str) = some bs
  | [] => rfl
  | b :: r => by simp [strsD, strsD_map r]
def gJoin : G2 := fun x y R => ∃ a ds ys, x = .str a ∧ seqD y = some ds ∧ strsD ds = some ys ∧ (ys.map (·.length)).sum + ys.length * a.length ≤ 16777216 ∧ R (.str (Txt.join a ys))
def sM1 (g : G2) (f : EF) (h : RF) : EF := fun ρ R => f ρ fun x ρ1 => (∃ a, x = .str a) ∧ h ρ1 fun y => g x y fun z => R z ρ1
theorem he_join {p : Bool} {o e : Expr} {apos pos : Pos} {f : EF} {h : RF} (ho : HE C p o f) (he : HR C e h) (hs : starEach [e] C.X.env = [(false, eval e C.X.env)] := by rfl) (hb : attributeBase o "join" C.X.env (eval o C.X.env) = eval o C.X.env := by rfl) (hl : (apos.endLine == pos.line) = true := by rfl) :
    HE C p (.Call (.Attribute o "join" apos) [e] [] pos) (sM1 gJoin f h) := by
  obtain ⟨t1, ht1, hs1⟩ := ho
  obtain ⟨t2, ht2, hs2⟩ := he
  refine ⟨_, pe_join ht1 ht2 hs hb hl, fun B F own H σ ρ Q R I w k z => ?_⟩
  refine hs1 B F own H σ ρ _ _ I w (fun x ρ1 F1 own1 H1 v r1 I1 x1 d1 => ?_) z
  obtain ⟨⟨a, rfl⟩, r1⟩ := r1
  cases d1
  refine ⟨⟨a, rfl⟩, hs2 B F1 own1 H1 σ ρ1 _ _ I1 (w.mono x1.ff) (fun y F2 own2 H2 u r2 I2 x2 d2 => ?_) r1⟩
  obtain ⟨a', ds, ys, e1, e2, e3, hz, r3⟩ := r2
  cases e1
  obtain ⟨b, us, rfl, hs, r⟩ := seqR I2.fh d2 e2
  rw [strsD_eq e3] at r
  rw [dp_strs r] at hs
  exact ⟨a, b, ys, rfl, rfl, hs, hz, k _ ρ1 F2 own2 H2 _ r3 I2 (by simpa using x1.trans x2) (.str _)⟩
def nSplit (f g : EF) : NF := fun ρ R => f ρ fun x ρ1 => (∃ a, x = .str a) ∧ g ρ1 fun y ρ2 => ∃ a b : Str, x = .str a ∧ y = .str b ∧ (b.length == 0) = false ∧ a.length + 2 ≤ sizeLine ∧ R ((Txt.split a b).map .str) ρ2
theorem hn_split {p q : Bool} {o e : Expr} {apos pos : Pos} {f g : EF} (ho : HE C p o f) (he : HE C q e g) (hs : starEach [e] C.X.env = [(false, eval e C.X.env)] := by rfl) (hb : attributeBase o "split" C.X.env (eval o C.X.env) = eval o C.X.env := by rfl) (hl : (apos.endLine == pos.line) = true := by rfl) :
    HN C (p && q) (.Call (.Attribute o "split" apos) [e] [] pos) (nSplit f g) := by
  obtain ⟨t1, ht1, hs1⟩ := ho
  obtain ⟨t2, ht2, hs2⟩ := he
  refine ⟨_, pe_split ht1 ht2 hs hb hl, fun B F own H σ ρ Q R I w k z => ?_⟩
  refine hs1 B F own H σ ρ _ _ I w (fun x ρ1 F1 own1 H1 v r1 I1 x1 d1 => ?_) z
  obtain ⟨⟨a, rfl⟩, r1⟩ := r1
  cases d1
  refine ⟨⟨a, rfl⟩, hs2 B F1 own1 H1 σ ρ1 _ _ I1 (w.mono x1.ff) (fun y ρ2 F2 own2 H2 u r2 I2 x2 d2 => ?_) r1⟩
  obtain ⟨a', b, e1, e2, h1, h2, r3⟩ := r2
  cases e1
  subst e2
  cases d2
  refine ⟨a, b, rfl, rfl, h1, h2, fun c nc => ?_⟩
  have al := Al.new (F := F2) (o := .lst ((Txt.split a b).map V.str)) I2.fh nc
  have ex := x1.trans x2
  refine k _ ρ2 F2 own2 _ c _ r3 (I2.al al) (by simpa using ex.trans (al.ext true)) ?_ upd_same (I2.no_F nc) (I2.no_own nc) (dp_strs' _)
  cases e : H c with
  | none => rfl
  | some o => obtain ⟨o', q⟩ := ex.hl c o e; rw [q] at nc; cases nc
end TL
set_option Elab.async false
set_option linter.all false
set_option maxRecDepth 100000
namespace TL
open PySem PySem.Spec PyProof.Rows L2
variable {C : Ct}

/-! ### owned lists that change -/
theorem SInv.at_ow {K : PySem.W.Frag} {B F H : Hp} {own : Own} {σ : L2.St} {ρ : Rho} {i : Nat} {ds : List D} (I : SInv K B F own H σ ρ) (h : ρ[i]? = some (.ow ds)) : ∃ p vs, σ[i]? = some (some (.ref p)) ∧ own p = some i ∧ H p = some (.lst vs) ∧ RpAll K F vs ds := by
  have hi : i < σ.length := by rw [← I.len]; exact (List.getElem?_eq_some_iff.mp h).1
  obtain ⟨p, vs, hv, o, hp, dv⟩ := I.sl i _ _ h (List.getElem?_eq_getElem hi)
  exact ⟨p, vs, by rw [List.getElem?_eq_getElem hi, hv], o, hp, dv⟩
theorem SInv.mod {K : PySem.W.Frag} {B F H : Hp} {own : Own} {σ : L2.St} {ρ : Rho} {i : Nat} {p : Addr} {vs us : List V} {es : List D} (I : SInv K B F own H σ ρ) (hσ : σ[i]? = some (some (.ref p))) (o : own p = some i) (hp : H p = some (.lst vs)) (r : RpAll K F us es) :
    SInv K B F own (upd H p (.lst us)) σ (ρ.set i (.ow es)) where
  fh := fun b u e => by
    rw [upd_ne (fun z => by subst z; rw [(I.ow b i o).1] at e; cases e)]
    exact I.fh b u e
  bh := fun b u e => by
    rw [upd_ne (fun z => by subst z; rw [(I.bf b u e).2] at o; cases o)]
    exact I.bh b u e
  bf := I.bf
  ow := fun b j e => by
    refine ⟨(I.ow b j e).1, ?_⟩
    by_cases hb : b = p
    · subst hb; exact ⟨_, upd_same⟩
    · rw [upd_ne hb]; exact (I.ow b j e).2
  len := by rw [List.length_set]; exact I.len
  sl := fun j s v e e2 => by
    rcases set_get e with ⟨rfl, rfl⟩ | ⟨n, e⟩
    · rw [hσ] at e2
      cases e2
      exact ⟨p, us, rfl, o, upd_same, r⟩
    · refine (I.sl j s v e e2).keep (Same.refl _) (fun b u hb h => ?_) fun _ h => h
      rw [upd_ne (fun z => by subst z; rw [o] at hb; cases hb; exact n rfl)]
      exact h
theorem Ext.mod {F H : Hp} {own : Own} {p : Addr} {i : Nat} {o : HO} (h : own p = some i) : Ext false F own H F own (upd H p o) where
  ff := Same.refl _
  hh := fun a u e c => by
    rcases c with c | c
    · cases c
    · rw [upd_ne (fun z => by subst z; rw [h] at c; cases c)]
      exact e
  oo := fun _ _ h => h
  on := fun _ _ _ _ h => h
  hl := fun a u e => by
    by_cases z : a = p
    · subst z; exact ⟨_, upd_same⟩
    · exact ⟨u, by rw [upd_ne z]; exact e⟩
  fo := fun _ _ _ => rfl
def fApp (i : Nat) (f : EF) : SF := fun ρ E => (∃ es, ρ[i]? = some (.ow es)) ∧ f ρ fun d ρ1 => ∃ ds, ρ1[i]? = some (.ow ds) ∧ ds.length < sizeLine ∧ E.nx (ρ1.set i (.ow (ds ++ [d])))
theorem hs_append {p : Bool} {i : Nat} {x : Str} {e : Expr} {px pa pc pos : Pos} {f : EF} (hx : PE C.X (.Name x px) (tVar i)) (h : HE C p e f)
    (hs : swapsWith (.Call (.Attribute (.Name x px) "append" pa) [e] [] pc) none pos.line C.X.env = pure false := by rfl) (hbase : attributeBase (.Name x px) "append" C.X.env (eval (.Name x px) C.X.env) = eval (.Name x px) C.X.env := by rfl)
    (hfew : ((backTo pc (starEach [e] C.X.env)).all (fun x => !x.1) && (backToKw pc (keywordEach [] C.X.env)).all (fun x => x.1.isSome) && decide ([e].length + ([] : List Keyword).length + (if ([] : List Keyword).isEmpty then 0 else 1) < 30)) = true := by rfl)
    (hline : (pa.endLine == pc.line) = true := by rfl) (hst : starEach [e] C.X.env = (false, eval e C.X.env) :: starEach [] C.X.env := by rfl) :
    HS C (.Expr (.Call (.Attribute (.Name x px) "append" pa) [e] [] pc) pos) (fApp i f) := by
  obtain ⟨t, ht, hs'⟩ := h
  refine ⟨_, ps_expr (pe_bm PySem.F.plainAttrs_list PySem.F.slot_list_append PySem.F.type_list_append mt_append hx (pa_cons ht pa_nil hst) hbase hfew hline hst rfl) hs, fun B F own H σ ρ E G I w k z => ?_⟩
  obtain ⟨⟨es0, e0⟩, z⟩ := z
  obtain ⟨q, vs0, hσ, o0, h0, _⟩ := I.at_ow e0
  refine ⟨_, hσ, .inl ⟨rfl, _, .of h0⟩, ?_⟩
  refine hs' B F own H σ ρ _ _ I w (fun d ρ1 F1 own1 H1 v r1 I1 x1 d1 => ?_) z
  obtain ⟨ds, e1, hz, r1⟩ := r1
  obtain ⟨q', vs, hσ', o1, h1, dv⟩ := I1.at_ow e1
  rw [hσ] at hσ'
  cases hσ'
  refine ⟨q, vs, v, rfl, rfl, h1, by rw [dpa_len dv]; exact hz, ?_⟩
  exact k.nx F1 own1 _ σ _ (I1.mod hσ o1 h1 (dpa_app dv (.cons d1 .nil))) x1.ff r1
def fExt (i : Nat) (f : EF) : SF := fun ρ E => (∃ es, ρ[i]? = some (.ow es)) ∧ f ρ fun d ρ1 => ∃ ds es, ρ1[i]? = some (.ow ds) ∧ d = .list es ∧ ds.length + es.length ≤ sizeLine ∧ E.nx (ρ1.set i (.ow (ds ++ es)))
theorem hs_extend {p : Bool} {i : Nat} {x : Str} {e : Expr} {px pa pc pos : Pos} {f : EF} (hx : PE C.X (.Name x px) (tVar i)) (h : HE C p e f)
    (hs : swapsWith (.Call (.Attribute (.Name x px) "extend" pa) [e] [] pc) none pos.line C.X.env = pure false := by rfl) (hbase : attributeBase (.Name x px) "extend" C.X.env (eval (.Name x px) C.X.env) = eval (.Name x px) C.X.env := by rfl)
    (hfew : ((backTo pc (starEach [e] C.X.env)).all (fun x => !x.1) && (backToKw pc (keywordEach [] C.X.env)).all (fun x => x.1.isSome) && decide ([e].length + ([] : List Keyword).length + (if ([] : List Keyword).isEmpty then 0 else 1) < 30)) = true := by rfl)
    (hline : (pa.endLine == pc.line) = true := by rfl) (hst : starEach [e] C.X.env = (false, eval e C.X.env) :: starEach [] C.X.env := by rfl) :
    HS C (.Expr (.Call (.Attribute (.Name x px) "extend" pa) [e] [] pc) pos) (fExt i f) := by
  obtain ⟨t, ht, hs'⟩ := h
  refine ⟨_, ps_expr (pe_bm PySem.F.plainAttrs_list PySem.F.slot_list_extend PySem.F.type_list_extend mt_extend hx (pa_cons ht pa_nil hst) hbase hfew hline hst rfl) hs, fun B F own H σ ρ E G I w k z => ?_⟩
  obtain ⟨⟨es0, e0⟩, z⟩ := z
  obtain ⟨q, vs0, hσ, o0, h0, _⟩ := I.at_ow e0
  refine ⟨_, hσ, .inl ⟨rfl, _, .of h0⟩, ?_⟩
  refine hs' B F own H σ ρ _ _ I w (fun d ρ1 F1 own1 H1 v r1 I1 x1 d1 => ?_) z
  obtain ⟨ds, es, e1, rfl, hz, r1⟩ := r1
  obtain ⟨q', vs, hσ', o1, h1, dv⟩ := I1.at_ow e1
  rw [hσ] at hσ'
  cases hσ'
  obtain ⟨b, us, rfl, hb, rb⟩ := DpR.list (own := own1) I1.fh (.inl d1)
  refine ⟨q, b, vs, us, rfl, rfl, h1, hb, by rw [dpa_len dv, dpa_len rb]; exact hz, ?_⟩
  exact k.nx F1 own1 _ σ _ (I1.mod hσ o1 h1 (dpa_app dv rb)) x1.ff r1
def fIns (i : Nat) (a : NF) : SF := fun ρ E => (∃ es, ρ[i]? = some (.ow es)) ∧ a ρ fun as ρ1 => ∃ (ds : List D) (j : Int) (d : D), ρ1[i]? = some (.ow ds) ∧ as = [.int j, d] ∧ ds.length < sizeLine ∧ 0 ≤ j ∧ j < 2 ^ 63 ∧ E.nx (ρ1.set i (.ow (ds.take j.toNat ++ [d] ++ ds.drop j.toNat)))
theorem hs_insert {p : Bool} {i : Nat} {x : Str} {e e2 : Expr} {px pa pc pos : Pos} {a : NF} (hx : PE C.X (.Name x px) (tVar i)) (h : HA C p [e, e2] a)
    (hs : swapsWith (.Call (.Attribute (.Name x px) "insert" pa) [e, e2] [] pc) none pos.line C.X.env = pure false := by rfl) (hbase : attributeBase (.Name x px) "insert" C.X.env (eval (.Name x px) C.X.env) = eval (.Name x px) C.X.env := by rfl)
    (hfew : ((backTo pc (starEach [e, e2] C.X.env)).all (fun x => !x.1) && (backToKw pc (keywordEach [] C.X.env)).all (fun x => x.1.isSome) && decide ([e, e2].length + ([] : List Keyword).length + (if ([] : List Keyword).isEmpty then 0 else 1) < 30)) = true := by rfl)
    (hline : (pa.endLine == pc.line) = true := by rfl) (hst : starEach [e, e2] C.X.env = (false, eval e C.X.env) :: starEach [e2] C.X.env := by rfl) (hpl : (backTo pc (starEach [e2] C.X.env)).any (·.1) = false := by rfl) :
    HS C (.Expr (.Call (.Attribute (.Name x px) "insert" pa) [e, e2] [] pc) pos) (fIns i a) := by
  obtain ⟨t, ht, hs'⟩ := h
  refine ⟨_, ps_expr (pe_bm PySem.F.plainAttrs_list PySem.F.slot_list_insert PySem.F.type_list_insert mt_insert hx ht hbase hfew hline hst hpl) hs, fun B F own H σ ρ E G I w k z => ?_⟩
  obtain ⟨⟨es0, e0⟩, z⟩ := z
  obtain ⟨q, vs0, hσ, o0, h0, _⟩ := I.at_ow e0
  refine ⟨_, hσ, .inl ⟨rfl, _, .of h0⟩, ?_⟩
  refine hs' B F own H σ ρ _ _ I w (fun as ρ1 F1 own1 H1 us r1 I1 x1 d1 => ?_) z
  obtain ⟨ds, j, d, e1, rfl, hz, j0, j1, r1⟩ := r1
  obtain ⟨q', vs, hσ', o1, h1, dv⟩ := I1.at_ow e1
  rw [hσ] at hσ'
  cases hσ'
  cases d1 with
  | cons a1 b1 =>
    cases a1
    cases b1 with
    | cons a2 b2 =>
      cases b2
      refine ⟨q, vs, j, _, rfl, rfl, h1, by rw [dpa_len dv]; exact hz, j0, j1, ?_⟩
      exact k.nx F1 own1 _ σ _ (I1.mod hσ o1 h1 (dpa_app (dpa_app (dpa_take _ dv) (.cons a2 .nil)) (dpa_drop _ dv))) x1.ff r1
/-- x.pop() as a value -/
def sPop (i : Nat) : EF := fun ρ R => ∃ ds d, ρ[i]? = some (.ow ds) ∧ ds.getLast? = some d ∧ R d (ρ.set i (.ow ds.dropLast))
theorem he_pop {i : Nat} {x : Str} {px pa pc : Pos} (hx : PE C.X (.Name x px) (tVar i)) (hbase : attributeBase (.Name x px) "pop" C.X.env (eval (.Name x px) C.X.env) = eval (.Name x px) C.X.env := by rfl) (hline : (pa.endLine == pc.line) = true := by rfl) :
    HE C false (.Call (.Attribute (.Name x px) "pop" pa) [] [] pc) (sPop i) := by
  refine ⟨_, pe_bm0 PySem.F.plainAttrs_list PySem.F.slot_list_pop PySem.F.type_list_pop mt_pop hx hbase hline, fun B F own H σ ρ Q R I w k z => ?_⟩
  obtain ⟨ds, d, e0, e1, r⟩ := z
  obtain ⟨q, vs, hσ, o0, h0, dv⟩ := I.at_ow e0
  obtain ⟨v, hv, dd⟩ := dpa_get' dv (by rw [← List.getLast?_eq_getElem?]; exact e1)
  refine ⟨_, hσ, .inl ⟨rfl, _, .of h0⟩, q, vs, v, rfl, rfl, h0, by rw [dpa_len dv]; exact hv, ?_⟩
  exact k d _ F own _ v r (I.mod hσ o0 h0 (dpa_dropLast dv)) (Ext.mod o0) dd
/-- x.pop(k) as a value -/
def sPopAt (i : Nat) (f : EF) : EF := fun ρ R => (∃ es, ρ[i]? = some (.ow es)) ∧ f ρ fun x ρ1 => ∃ (ds : List D) (j : Int) (k : Nat) (d : D), ρ1[i]? = some (.ow ds) ∧ x = .int j ∧ -(2 ^ 63) ≤ j ∧ j < 2 ^ 63 ∧ seqIndex? j ds.length = some k ∧ ds[k]? = some d ∧ R d (ρ1.set i (.ow (ds.eraseIdx k)))
theorem he_popAt {p : Bool} {i : Nat} {x : Str} {e : Expr} {px pa pc : Pos} {f : EF} (hx : PE C.X (.Name x px) (tVar i)) (h : HE C p e f) (hbase : attributeBase (.Name x px) "pop" C.X.env (eval (.Name x px) C.X.env) = eval (.Name x px) C.X.env := by rfl)
    (hfew : ((backTo pc (starEach [e] C.X.env)).all (fun x => !x.1) && (backToKw pc (keywordEach [] C.X.env)).all (fun x => x.1.isSome) && decide ([e].length + ([] : List Keyword).length + (if ([] : List Keyword).isEmpty then 0 else 1) < 30)) = true := by rfl)
    (hline : (pa.endLine == pc.line) = true := by rfl) (hst : starEach [e] C.X.env = (false, eval e C.X.env) :: starEach [] C.X.env := by rfl) :
    HE C false (.Call (.Attribute (.Name x px) "pop" pa) [e] [] pc) (sPopAt i f) := by
  obtain ⟨t, ht, hs'⟩ := h
  refine ⟨_, pe_bm PySem.F.plainAttrs_list PySem.F.slot_list_pop PySem.F.type_list_pop mt_popAt hx (pa_cons ht pa_nil hst) hbase hfew hline hst rfl, fun B F own H σ ρ Q R I w k z => ?_⟩
  obtain ⟨⟨es0, e0⟩, z⟩ := z
  obtain ⟨q, vs0, hσ, o0, h0, _⟩ := I.at_ow e0
  refine ⟨_, hσ, .inl ⟨rfl, _, .of h0⟩, ?_⟩
  refine hs' B F own H σ ρ _ _ I w (fun d ρ1 F1 own1 H1 v r1 I1 x1 d1 => ?_) z
  obtain ⟨ds, j, kk, y, e1, rfl, j0, j1, hk, hy, r1⟩ := r1
  cases d1
  obtain ⟨q', vs, hσ', o1, h1, dv⟩ := I1.at_ow e1
  rw [hσ] at hσ'
  cases hσ'
  obtain ⟨v, hv, dd⟩ := dpa_get' dv hy
  refine ⟨q, vs, j, kk, v, rfl, rfl, h1, j0, j1, by rw [dpa_len dv]; exact hk, hv, ?_⟩
  exact k y _ F1 own1 _ v r1 (I1.mod hσ o1 h1 (dpa_eraseIdx _ dv)) (by have := x1.trans (Ext.mod (F := F1) (H := H1) (o := .lst (vs.eraseIdx kk)) o1); simpa using this) dd
/-- an expression for its effect -/
def fExpr (f : EF) : SF := fun ρ E => f ρ fun _ ρ1 => E.nx ρ1
theorem hs_expr {p : Bool} {e : Expr} {pos : Pos} {f : EF} (h : HE C p e f) (hs : swapsWith e none pos.line C.X.env = pure false := by rfl) : HS C (.Expr e pos) (fExpr f) := by
  obtain ⟨t, ht, hs'⟩ := h
  refine ⟨_, ps_expr ht hs, fun B F own H σ ρ E G I w k z => ?_⟩
  exact hs' B F own H σ ρ _ _ I w (fun d ρ1 F1 own1 H1 v r1 I1 x1 d1 => k.nx F1 own1 H1 σ ρ1 I1 x1.ff r1) z
/-- x[k] = e, x an owned list -/
def fSetIx (i : Nat) (f g : EF) : SF := fun ρ E => f ρ fun d ρ1 => (∃ es, ρ1[i]? = some (.ow es)) ∧ g ρ1 fun x ρ2 => ∃ (ds : List D) (j : Int) (k : Nat), ρ2[i]? = some (.ow ds) ∧ x = .int j ∧ ixN ds.length j = some k ∧ E.nx (ρ2.set i (.ow (ds.set k d)))
theorem hs_setix_of {p q : Bool} {st : Stmt} {i : Nat} {x : Str} {e ix : Expr} {px pt : Pos} {f g : EF} (mk : ∀ {te : TE} {tg : TG}, PE C.X e te → PG C.X (.Subscript (.Name x px) ix pt) tg → PS C.X st (tAsg te tg)) (hx : PE C.X (.Name x px) (tVar i)) (h : HE C p e f) (h2 : HE C q ix g)
    (ha : ∀ v, assign (.Subscript (.Name x px) ix pt) C.X.env v = (do
      let ov ← holding [v] (eval (.Name x px) C.X.env)
      let iv ← holding [v, ov] (eval ix C.X.env)
      standAt pt
      holding [v, ov, iv] (setItem ov iv v)
      release [v, ov, iv] []) := by intro _; rfl) : HS C st (fSetIx i f g) := by
  obtain ⟨t, ht, hs⟩ := h
  obtain ⟨t2, ht2, hs2⟩ := h2
  refine ⟨_, mk ht (pg_sub hx ht2 set_list ha), fun B F own H σ ρ E G I w k z => ?_⟩
  refine hs B F own H σ ρ _ _ I w (fun d ρ1 F1 own1 H1 v r1 I1 x1 d1 => ?_) z
  obtain ⟨⟨es0, e0⟩, r1⟩ := r1
  obtain ⟨q, vs0, hσ, o0, h0, _⟩ := I1.at_ow e0
  refine ⟨_, hσ, ?_⟩
  refine hs2 B F1 own1 H1 σ ρ1 _ _ I1 (w.mono x1.ff) (fun y ρ2 F2 own2 H2 u r2 I2 x2 d2 => ?_) r1
  obtain ⟨ds, j, kk, e1, rfl, hk, r2⟩ := r2
  cases d2
  obtain ⟨q', vs, hσ', o1, h1, dv⟩ := I2.at_ow e1
  rw [hσ] at hσ'
  cases hσ'
  refine ⟨q, vs, j, kk, rfl, rfl, h1, by rw [dpa_len dv]; exact hk, ?_⟩
  exact k.nx F2 own2 _ σ _ (I2.mod hσ o1 h1 (dpa_set (dp_mono x2.ff d1) _ dv)) (x1.ff.trans x2.ff) r2
/-- a, b = x, y -/
def fPar (i j : Nat) (a : NF) : SF := fun ρ E => a ρ fun ds ρ1 => ∃ d e, ds = [d, e] ∧ E.nx ((ρ1.set i (.fz d)).set j (.fz e))
theorem hs_par_of {p : Bool} {i j : Nat} {st : Stmt} {es : List Expr} {a : NF} (mk : ∀ {ta : TA}, PA C.X es ta → PS C.X st (tPar i j ta)) (h : HA C p es a) : HS C st (fPar i j a) := by
  obtain ⟨t, ht, hs⟩ := h
  refine ⟨_, mk ht, fun B F own H σ ρ E G I w k z => ?_⟩
  refine hs B F own H σ ρ _ _ I w (fun ds ρ1 F1 own1 H1 vs r1 I1 x1 d1 => ?_) z
  obtain ⟨d, e, rfl, r1⟩ := r1
  cases d1 with
  | cons a1 b1 =>
    cases b1 with
    | cons a2 b2 =>
      cases b2
      exact ⟨_, _, rfl, k.nx F1 own1 H1 _ _ ((I1.store i a1).store j a2) x1.ff r1⟩
/-- x += e -/
def fAug (i : Nat) (g : G2) (f : EF) : SF := fun ρ E => ∃ y, ρ[i]? = some (.fz y) ∧ f ρ fun d ρ1 => g y d fun z => E.nx (ρ1.set i (.fz z))
theorem hs_aug_of {p : Bool} {i : Nat} {st : Stmt} {e : Expr} {r : R2} {g : G2} {f : EF} (mk : ∀ {te : TE}, PE C.X e te → PS C.X st (tAug i te (fun x y H Q => r x y H Q))) (hg : Op2 C r g) (h : HE C p e f) : HS C st (fAug i g f) := by
  obtain ⟨t, ht, hs⟩ := h
  refine ⟨_, mk ht, fun B F own H σ ρ E G I w k z => ?_⟩
  obtain ⟨y, e0, z⟩ := z
  have hi : i < σ.length := by rw [← I.len]; exact (List.getElem?_eq_some_iff.mp e0).1
  obtain ⟨v, hv, dv⟩ := I.sl i _ _ e0 (List.getElem?_eq_getElem hi)
  refine ⟨v, by rw [List.getElem?_eq_getElem hi, hv], ?_⟩
  refine hs B F own H σ ρ _ _ I w (fun d ρ1 F1 own1 H1 u r1 I1 x1 d1 => ?_) z
  refine hg F1 own1 H1 v u y d _ _ I1.fh (.inl (dp_mono x1.ff dv)) (.inl d1) (fun d' F' H' w' r3 al dw => ?_) r1
  exact k.nx F' own1 H' _ _ ((I1.al al).store i dw) (x1.ff.trans al.ff) r3

/-! ### the law's state -/
def StAt (H : Hp) (p q : Addr) : Prop := p ≠ q ∧ ∃ (k : Int) (ns : List Int), H p = some (.lst [.int k, .ref q]) ∧ H q = some (.lst (ns.map V.int)) ∧ ns ≠ []
structure AlS (p q : Addr) (F H F' H' : Hp) : Prop where
  ff : Same F F'
  hh : ∀ a o, a ≠ p → a ≠ q → H a = some o → H' a = some o
  fh : Same F' H'
  fo : ∀ a o, H a = some o → F' a = F a
/-- a def that is handed the state first -/
def spS (K : PySem.W.Frag) (φ : FF) : Sp := fun vs H Q _ => ∃ F ds R p q us, vs = .ref p :: us ∧ Same F H ∧ F p = none ∧ F q = none ∧ StAt H p q ∧ RpAll K F us ds ∧ φ ds R ∧
  ∀ d F' H' v, R d → AlS p q F H F' H' → StAt H' p q → Rp K F' v d → Q v H'
def sCallS (i : Nat) (φ : FF) (a : NF) : EF := fun ρ R => ∃ p q, ρ[i]? = some (.st p q) ∧ a ρ fun ds ρ1 => ρ1[i]? = some (.st p q) ∧ φ ds fun d => R d ρ1
theorem SInv.alS {K : PySem.W.Frag} {B F F' H H' : Hp} {own : Own} {σ : L2.St} {ρ : Rho} {i : Nat} {p q : Addr} (I : SInv K B F own H σ ρ) (hσ : σ[i]? = some (some (.ref p))) (hρ : ρ[i]? = some (.st p q)) (op : own p = some i) (oq : own q = some i) (x : AlS p q F H F' H') (s : StAt H' p q) : SInv K B F' own H' σ ρ where
  fh := x.fh
  bh := fun a o h => x.hh a o (fun z => by subst z; rw [(I.bf a o h).2] at op; cases op) (fun z => by subst z; rw [(I.bf a o h).2] at oq; cases oq) (I.bh a o h)
  bf := fun a o h => ⟨(x.fo a o (I.bh a o h)).trans (I.bf a o h).1, (I.bf a o h).2⟩
  ow := fun a j h => by
    obtain ⟨f, o, e⟩ := I.ow a j h
    refine ⟨(x.fo a o e).trans f, ?_⟩
    obtain ⟨ne, k, ns, h1, h2, _⟩ := s
    by_cases z : a = p
    · subst z; exact ⟨_, h1⟩
    · by_cases z2 : a = q
      · subst z2; exact ⟨_, h2⟩
      · exact ⟨o, x.hh a o z z2 e⟩
  len := I.len
  sl := fun j sl v e e2 => by
    by_cases hj : j = i
    · subst hj
      rw [hρ] at e
      cases e
      rw [hσ] at e2
      cases e2
      obtain ⟨ne, k, ns, h1, h2, h3⟩ := s
      exact ⟨rfl, ne, op, oq, k, ns, h1, h2, h3⟩
    · refine (I.sl j sl v e e2).keep x.ff (fun a o ho h => ?_) fun _ h => h
      exact x.hh a o (fun z => by subst z; rw [op] at ho; cases ho; exact hj rfl) (fun z => by subst z; rw [oq] at ho; cases ho; exact hj rfl) h
theorem SInv.at_st {K : PySem.W.Frag} {B F H : Hp} {own : Own} {σ : L2.St} {ρ : Rho} {i : Nat} {p q : Addr} (I : SInv K B F own H σ ρ) (h : ρ[i]? = some (.st p q)) : σ[i]? = some (some (.ref p)) ∧ own p = some i ∧ own q = some i ∧ StAt H p q := by
  have hi : i < σ.length := by rw [← I.len]; exact (List.getElem?_eq_some_iff.mp h).1
  obtain ⟨hv, ne, o1, o2, k, ns, h1, h2, h3⟩ := I.sl i _ _ h (List.getElem?_eq_getElem hi)
  exact ⟨by rw [List.getElem?_eq_getElem hi, hv], o1, o2, ne, k, ns, h1, h2, h3⟩
theorem AlS.ext {p q : Addr} {F H F' H' : Hp} {own : Own} {i : Nat} (x : AlS p q F H F' H') (op : own p = some i) (oq : own q = some i) (s : StAt H' p q) : Ext false F own H F' own H' where
  ff := x.ff
  hh := fun a o h c => by
    rcases c with c | c
    · cases c
    · exact x.hh a o (fun z => by subst z; rw [op] at c; cases c) (fun z => by subst z; rw [oq] at c; cases c) h
  oo := fun _ _ h => h
  on := fun _ _ _ _ h => h
  hl := fun a o e => by
    obtain ⟨ne, k, ns, h1, h2, _⟩ := s
    by_cases z : a = p
    · subst z; exact ⟨_, h1⟩
    · by_cases z2 : a = q
      · subst z2; exact ⟨_, h2⟩
      · exact ⟨o, x.hh a o z z2 e⟩
  fo := x.fo
theorem he_callS {pr : Bool} {k i : Nat} {f : Addr} {fd : FuncData} {ps : List Str} {φ : FF} {x y : Str} {pp py pos : Pos} {es : List Expr} {a : NF} (G : FnOk C.X.prog C.X.w C.X.K C.X.mg C.X.base CX0 k f fd ps (spS C.X.K φ)) (hk : k ≤ C.lv) (hg : Gl C.X x) (hm : C.X.mg x = some (.ref f))
    (hkp : PySem.W.keepIn C.X.K (.ref f) = true) (hb : Binds C.X.K fd ps []) (hy : PE C.X (.Name y py) (tVar i)) (ha : HA C pr es a) (hdb : (x == ("__debug__" : Str)) = false := by decide)
    (he : starEach (.Name y py :: es) C.X.env = (false, eval (.Name y py) C.X.env) :: starEach es C.X.env := by rfl) (hpl : (backTo pos (starEach es C.X.env)).any (·.1) = false := by rfl) :
    HE C false (.Call (.Name x pp) (.Name y py :: es) [] pos) (sCallS i φ a) := by
  obtain ⟨t, ht, hs⟩ := ha
  refine ⟨_, pe_call G (C.room.mono hk) hg hm hkp hb .nil pass0 (pa_cons hy ht he) hdb he hpl, fun B F own H σ ρ Q R I w k z => ?_⟩
  obtain ⟨p, q, e0, z⟩ := z
  obtain ⟨hσ, op, oq, _⟩ := I.at_st e0
  refine ⟨_, hσ, ?_⟩
  refine hs B F own H σ ρ _ _ I w (fun ds ρ1 F1 own1 H1 vs r1 I1 x1 d1 => ?_) z
  obtain ⟨e1, r1⟩ := r1
  obtain ⟨hσ', op1, oq1, s1⟩ := I1.at_st e1
  refine ⟨F1, ds, _, p, q, vs, by rw [List.append_nil], I1.fh, (I1.ow p i op1).1, (I1.ow q i oq1).1, s1, d1, r1, fun d F' H' v r al s dv => ?_⟩
  exact k d ρ1 F' own1 H' v r (I1.alS hσ e1 op1 oq1 al s) (by have := x1.trans (al.ext op1 oq1 s); simpa using this) dv
end TL
set_option Elab.async false
set_option linter.all false
set_option maxRecDepth 100000
namespace TL
open PySem PySem.Spec PyProof.Rows L2
variable {C : Ct}

/-! ### what may be given to a slot -/
def Rows (K : PySem.W.Frag) (F : Hp) (H : Hp) : List Addr → List (List D) → Prop := Paired fun q row => ∃ vs, H q = some (.lst vs) ∧ RpAll K F vs row
/-- the value's own objects are as -/
def FitS (K : PySem.W.Frag) (F H : Hp) (v : V) (as : List Addr) : Sl → Prop
  | .fz d => Rp K F v d ∧ as = []
  | .ow ds => ∃ a vs, v = .ref a ∧ as = [a] ∧ H a = some (.lst vs) ∧ RpAll K F vs ds
  | .ow2 rows => ∃ (a : Addr) (qs : List Addr), v = .ref a ∧ as = a :: qs ∧ H a = some (.lst (qs.map V.ref)) ∧ Rows K F H qs rows
  | _ => False
structure Fit (K : PySem.W.Frag) (F : Hp) (own : Own) (H H0 : Hp) (v : V) (s : Sl) (as : List Addr) : Prop where
  sl : FitS K F H v as s
  nd : as.Nodup
  at_ : ∀ a ∈ as, own a = none ∧ F a = none ∧ H0 a = none ∧ ∃ o, H a = some o
abbrev KF := Rho → (Sl → Rho → Prop) → Prop
def HK (C : Ct) (p : Bool) (e : Expr) (f : KF) : Prop := ∃ t, PE C.X e t ∧ ∀ B F own H σ ρ Q R, SInv C.X.K B F own H σ ρ → WOk C B F →
  (∀ s as ρ' F' own' H' v, R s ρ' → SInv C.X.K B F' own' H' σ ρ' → Ext p F own H F' own' H' → Fit C.X.K F' own' H' H v s as → Q v H') → f ρ R → t σ H Q
def kE (f : EF) : KF := fun ρ R => f ρ fun d ρ1 => R (.fz d) ρ1
def kN (f : NF) : KF := fun ρ R => f ρ fun ds ρ1 => R (.ow ds) ρ1
theorem hk_e {p : Bool} {e : Expr} {f : EF} (h : HE C p e f) : HK C p e (kE f) := by
  obtain ⟨t, ht, hs⟩ := h
  exact ⟨t, ht, fun B F own H σ ρ Q R I w k z => hs B F own H σ ρ _ (fun d ρ1 => R (.fz d) ρ1) I w (fun d ρ' F' own' H' v r J x dv => k (.fz d) [] ρ' F' own' H' v r J x ⟨⟨dv, rfl⟩, List.nodup_nil, fun a h => by cases h⟩) z⟩
theorem hk_n {p : Bool} {e : Expr} {f : NF} (h : HN C p e f) : HK C p e (kN f) := by
  obtain ⟨t, ht, hs⟩ := h
  refine ⟨t, ht, fun B F own H σ ρ Q R I w k z => hs B F own H σ ρ _ (fun ds ρ1 => R (.ow ds) ρ1) I w (fun ds ρ' F' own' H' a vs r J x n h hF ho dv => ?_) z⟩
  refine k (.ow ds) [a] ρ' F' own' H' _ r J x ⟨⟨a, vs, rfl, rfl, h, dv⟩, by simp, fun b hb => ?_⟩
  rw [List.mem_singleton] at hb
  subst hb
  exact ⟨ho, hF, n, _, h⟩
def giveAll (own : Own) (as : List Addr) (i : Nat) : Own := fun b => if b ∈ as then some i else own b
theorem paired_impM {α β : Type} {R S : α → β → Prop} : ∀ {l : List α} {m : List β}, Paired R l m → (∀ a b, a ∈ l → R a b → S a b) → Paired S l m
  | _, _, .nil, _ => .nil
  | _, _, .cons h t, f => .cons (f _ _ List.mem_cons_self h) (paired_impM t fun a b m => f a b (List.mem_cons_of_mem _ m))
theorem SInv.storeK {K : PySem.W.Frag} {B F H H0 : Hp} {own : Own} {σ : L2.St} {ρ : Rho} {v : V} {s : Sl} {as : List Addr} (I : SInv K B F own H σ ρ) (i : Nat) (hB : ∀ a, H0 a = none → B a = none) (h : Fit K F own H H0 v s as) : SInv K B F (giveAll own as i) H (σ.set i (some v)) (ρ.set i s) := by
  have no : ∀ b, b ∉ as → giveAll own as i b = own b := fun b hb => if_neg hb
  refine ⟨I.fh, I.bh, fun b o e => ⟨(I.bf b o e).1, ?_⟩, fun b j e => ?_, by rw [List.length_set, List.length_set]; exact I.len, fun j u x e e2 => ?_⟩
  · rw [no b fun z => by rw [hB b (h.at_ b z).2.2.1] at e; cases e]
    exact (I.bf b o e).2
  · by_cases hb : b ∈ as
    · exact ⟨(h.at_ b hb).2.1, (h.at_ b hb).2.2.2⟩
    · rw [no b hb] at e; exact I.ow b j e
  · rcases set_get e with ⟨rfl, rfl⟩ | ⟨m, e⟩
    · rcases set_get e2 with ⟨_, rfl⟩ | ⟨m, _⟩
      · have hs := h.sl
        cases u with
        | un => exact hs.elim
        | st => exact hs.elim
        | raw => exact hs.elim
        | fz d => exact ⟨v, rfl, hs.1⟩
        | ow ds =>
          obtain ⟨a, vs, rfl, rfl, ha, r⟩ := hs
          exact ⟨a, vs, rfl, if_pos (by simp), ha, r⟩
        | ow2 rows =>
          obtain ⟨a, qs, rfl, rfl, ha, r⟩ := hs
          exact ⟨a, qs, rfl, if_pos (by simp), ha, h.nd, paired_impM r fun q row hq ⟨vs, hv, rv⟩ => ⟨if_pos (List.mem_cons_of_mem _ hq), vs, hv, rv⟩⟩
      · exact absurd rfl m
    · rcases set_get e2 with ⟨rfl, _⟩ | ⟨_, e2⟩
      · exact absurd rfl m
      · refine (I.sl j u x e e2).own_mono fun b o => ?_
        rw [no b fun z => by rw [(h.at_ b z).1] at o; cases o]
        exact o
def fSetK (i : Nat) (f : KF) : SF := fun ρ E => f ρ fun s ρ1 => E.nx (ρ1.set i s)
theorem SInv.new_B {K : PySem.W.Frag} {B F H : Hp} {own : Own} {σ : L2.St} {ρ : Rho} (I : SInv K B F own H σ ρ) : ∀ a, H a = none → B a = none := fun a n => by
  cases e : B a with
  | none => rfl
  | some u => rw [I.bh a u e] at n; cases n
theorem hs_setK_of {p : Bool} {i : Nat} {st : Stmt} {e : Expr} {f : KF} (mk : ∀ {te : TE}, PE C.X e te → PS C.X st (tAsg te (L2.gName i))) (h : HK C p e f) : HS C st (fSetK i f) := by
  obtain ⟨t, ht, hs⟩ := h
  refine ⟨_, mk ht, fun B F own H σ ρ E G I w k z => ?_⟩
  refine hs B F own H σ ρ _ _ I w (fun s as ρ1 F1 own1 H1 v r1 I1 x1 f1 => ?_) z
  exact k.nx F1 _ H1 _ _ (I1.storeK i I.new_B f1) x1.ff r1
theorem Ext.own_none {p : Bool} {F F' H H' : Hp} {own own' : Own} (x : Ext p F own H F' own' H') {a : Addr} {o : HO} (ha : H a = some o) (ho : own a = none) : own' a = none := by
  cases e : own' a with
  | none => rfl
  | some j => rw [x.on a j o ha e] at ho; cases ho
theorem Fit.keep {K : PySem.W.Frag} {p : Bool} {F F' H H' H0 : Hp} {own own' : Own} {v : V} {s : Sl} {as : List Addr} (h : Fit K F own H H0 v s as) (x : Ext p F own H F' own' H') : Fit K F' own' H' H0 v s as where
  sl := by
    have hs := h.sl
    cases s with
    | un => exact hs
    | st => exact hs
    | raw => exact hs
    | fz d => exact ⟨dp_mono x.ff hs.1, hs.2⟩
    | ow ds =>
      obtain ⟨a, vs, rfl, rfl, ha, r⟩ := hs
      exact ⟨a, vs, rfl, rfl, x.hh a _ ha (.inr (h.at_ a (by simp)).1), dpa_mono x.ff r⟩
    | ow2 rows =>
      obtain ⟨a, qs, rfl, rfl, ha, r⟩ := hs
      exact ⟨a, qs, rfl, rfl, x.hh a _ ha (.inr (h.at_ a (by simp)).1), paired_impM r fun q row hq ⟨vs, hv, rv⟩ => ⟨vs, x.hh q _ hv (.inr (h.at_ q (List.mem_cons_of_mem _ hq)).1), dpa_mono x.ff rv⟩⟩
  nd := h.nd
  at_ := fun a ha => by
    obtain ⟨o, f, n, u, hu⟩ := h.at_ a ha
    exact ⟨x.own_none hu o, (x.fo a _ hu).trans f, n, u, x.hh a _ hu (.inr o)⟩
/-- a, b = x, y -/
def fParK (i j : Nat) (f g : KF) : SF := fun ρ E => f ρ fun s ρ1 => g ρ1 fun u ρ2 => E.nx ((ρ2.set i s).set j u)
theorem hs_parK_of {p q : Bool} {i j : Nat} {st : Stmt} {e1 e2 : Expr} {f g : KF} (mk : ∀ {t1 t2 : TE}, PE C.X e1 t1 → PE C.X e2 t2 → PS C.X st (tPar i j (tCons t1 (tCons t2 tNil)))) (h1 : HK C p e1 f) (h2 : HK C q e2 g) : HS C st (fParK i j f g) := by
  obtain ⟨t1, ht1, hs1⟩ := h1
  obtain ⟨t2, ht2, hs2⟩ := h2
  refine ⟨_, mk ht1 ht2, fun B F own H σ ρ E G I w k z => ?_⟩
  refine hs1 B F own H σ ρ _ _ I w (fun s as ρ1 F1 own1 H1 v r1 I1 x1 f1 => ?_) z
  refine hs2 B F1 own1 H1 σ ρ1 _ _ I1 (w.mono x1.ff) (fun u bs ρ2 F2 own2 H2 v2 r2 I2 x2 f2 => ?_) r1
  refine ⟨v, v2, rfl, ?_⟩
  have f1' := f1.keep x2
  have I3 := I2.storeK i I.new_B f1'
  have f2' : Fit C.X.K F2 (giveAll own2 as i) H2 H1 v2 u bs := ⟨f2.sl, f2.nd, fun a ha => by
    obtain ⟨o, ff, n, hh⟩ := f2.at_ a ha
    refine ⟨?_, ff, n, hh⟩
    unfold giveAll
    rw [if_neg]
    · exact o
    · intro z
      obtain ⟨_, _, _, o', h'⟩ := f1.at_ a z
      rw [n] at h'
      cases h'⟩
  exact k.nx F2 _ H2 _ _ (I3.storeK j I1.new_B f2') (x1.ff.trans x2.ff) r2

/-! ### lists of new lists -/
abbrev N2F := Rho → (List (List D) → Rho → Prop) → Prop
def kN2 (f : N2F) : KF := fun ρ R => f ρ fun rows ρ1 => R (.ow2 rows) ρ1
def tOfN (K : PySem.W.Frag) (p : Bool) (f : NF) : TE := fun σ H Q => ∃ B F own ρ R, SInv K B F own H σ ρ ∧ (∀ ds ρ' F' own' H' a vs, R ds ρ' → SInv K B F' own' H' σ ρ' → Ext p F own H F' own' H' → H a = none → H' a = some (.lst vs) → F' a = none → own' a = none → RpAll K F' vs ds → Q (.ref a) H') ∧ f ρ R
theorem HN.can {C : Ct} {p : Bool} {e : Expr} {f : NF} (hW : ∀ B F, WOk C B F) (h : HN C p e f) : PE C.X e (tOfN C.X.K p f) := by
  obtain ⟨t, ht, hs⟩ := h
  refine ⟨fun pins s σ H Q I z => ht.run pins s σ H Q I ?_⟩
  obtain ⟨B, F, own, ρ, R, J, k, z⟩ := z
  exact hs B F own H σ ρ Q R J (hW B F) k z
def compW2 (vs : List Nat) (g : GF) (te : NF) : List D → List (List D) → N2F
  | [], acc, ρ, R => R acc ρ
  | d :: ds, acc, ρ, R => g d (hideR vs ρ) fun ρ1 => te ρ1 fun y ρ3 => acc.length < sizeLine ∧ compW2 vs g te ds (acc ++ [y]) (backR ρ vs ρ3) R
def nComp2 (vs : List Nat) (it : NF) (g : GF) (te : NF) : N2F := fun ρ R => it ρ fun ds ρ1 => compW2 vs g te ds [] ρ1 R
theorem rows_len {K : PySem.W.Frag} {F H : Hp} : ∀ {qs : List Addr} {rows : List (List D)}, Rows K F H qs rows → qs.length = rows.length
  | _, _, .nil => rfl
  | _, _, .cons _ t => congrArg (· + 1) (rows_len t)
theorem rows_keep {K : PySem.W.Frag} {F F' H H' : Hp} {qs : List Addr} {rows : List (List D)} (h : Rows K F H qs rows) (s : Same F F') (k : ∀ q ∈ qs, ∀ o, H q = some o → H' q = some o) : Rows K F' H' qs rows :=
  paired_impM h fun q row hq ⟨vs, hv, rv⟩ => ⟨vs, k q hq _ hv, dpa_mono s rv⟩
theorem rows_snoc {K : PySem.W.Frag} {F H : Hp} {q : Addr} {row : List D} (h2 : ∃ vs, H q = some (.lst vs) ∧ RpAll K F vs row) : ∀ {qs : List Addr} {rows : List (List D)}, Rows K F H qs rows → Rows K F H (qs ++ [q]) (rows ++ [row])
  | _, _, .nil => .cons h2 .nil
  | _, _, .cons a t => .cons a (rows_snoc h2 t)
theorem lc_sound2 {B : Hp} {p q p3 : Bool} {wi : TI} {vs : List Nat} {it : NF} {g : GF} {te : NF} (hq : q = true ∨ p3 = true)
    (hi : ∀ B F own H σ ρ Q R, SInv C.X.K B F own H σ ρ → WOk C B F → (∀ ds ρ' F' own' H' J, R ds ρ' → SInv C.X.K B F' own' H' σ ρ' → Ext p F own H F' own' H' → ItOk C.X.K q F' own' H' J ds → Q J H') → it ρ R → wi σ H Q) :
    ∀ F own H σ ρ Q R, SInv C.X.K B F own H σ ρ → WOk C B F →
      (∀ s as ρ' F' own' H' v, R s ρ' → SInv C.X.K B F' own' H' σ ρ' → Ext (p && p3) F own H F' own' H' → Fit C.X.K F' own' H' H v s as → Q v H') →
      kN2 (nComp2 vs it g te) ρ R → tLc wi (tOfG C.X.K vs g) tYes (tOfN C.X.K p3 te) vs σ H Q := by
  intro F own H σ ρ Q R I w k z
  refine hi B F own H σ ρ _ _ I w (fun ds ρ1 F1 own1 H1 J r1 I1 x1 it1 => ?_) z
  intro A nA
  have hB : B A = none := I1.new_B A nA
  have al := Al.new (F := F1) (o := .lst []) I1.fh nA
  have I1' := I1.al al
  have hA0 : H A = none := by
    cases e : H A with
    | none => rfl
    | some o => obtain ⟨o', q⟩ := x1.hl A o e; rw [q] at nA; cases nA
  refine ⟨fun i m H2 => m = ds.length - i ∧ i ≤ ds.length ∧ ∃ F2 own2 ρ2 acc qs, SInv C.X.K B F2 own2 H2 σ ρ2 ∧ ExtA A p3 F1 own1 H1 F2 own2 H2 ∧ H2 A = some (.lst (qs.map V.ref)) ∧ F2 A = none ∧ own2 A = none ∧ (A :: qs).Nodup ∧ (∀ b ∈ qs, own2 b = none ∧ F2 b = none ∧ H1 b = none) ∧ Rows C.X.K F2 H2 qs acc ∧ compW2 vs g te (ds.drop i) acc ρ2 (fun rows ρ1 => R (.ow2 rows) ρ1),
    ⟨ds.length, rfl, Nat.zero_le _, F1, own1, ρ1, [], [], I1', (al.ext true).toA nA, upd_same, I1.no_F nA, I1.no_own nA, by simp, fun b h => by simp at h, .nil, r1⟩, ?_⟩
  rintro i m H2 ⟨rfl, hle, F2, own2, ρ2, acc, qs, I2, x2, hA, fA, oA, nd, hqs, ra, q2⟩
  obtain ⟨go, stop, yld⟩ := it1 F2 own2 H2 x2.ff I2.fh (by
    rcases hq with hq | hq
    · exact .inl hq
    · exact .inr fun a i o e h => ⟨x2.oo a i e, x2.hh a o h (.inl hq)⟩)
  have qat : ∀ b ∈ qs, ∃ o, H2 b = some o := fun b hb => by
    have : ∀ {qs : List Addr} {rows : List (List D)}, Rows C.X.K F2 H2 qs rows → ∀ b ∈ qs, ∃ o, H2 b = some o := by
      intro qs rows r
      induction r with
      | nil => intro b hb; cases hb
      | cons h t ih =>
        intro b hb
        rcases List.mem_cons.mp hb with e | hb
        · subst e; obtain ⟨vs, hv, _⟩ := h; exact ⟨_, hv⟩
        · exact ih b hb
    exact this ra b hb
  by_cases hlt : i < ds.length
  · refine .inr ⟨go i hlt, fun H3 => ∃ F3 own3 ρ3 acc3 qs3, SInv C.X.K B F3 own3 H3 σ ρ3 ∧ ExtA A p3 F1 own1 H1 F3 own3 H3 ∧ H3 A = some (.lst (qs3.map V.ref)) ∧ F3 A = none ∧ own3 A = none ∧ (A :: qs3).Nodup ∧ (∀ b ∈ qs3, own3 b = none ∧ F3 b = none ∧ H1 b = none) ∧ Rows C.X.K F3 H3 qs3 acc3 ∧ compW2 vs g te (ds.drop (i + 1)) acc3 ρ3 (fun rows ρ1 => R (.ow2 rows) ρ1),
      fun H3 n => ⟨ds.length - (i + 1), by omega, rfl, hlt, n⟩, fun x H3 hy => ?_⟩
    obtain ⟨F3, d, e, al3, dx⟩ := yld i x H3 hlt hy
    have ed : ds.drop i = d :: ds.drop (i + 1) := by
      rw [List.drop_eq_getElem_cons hlt]
      congr 1
      rw [List.getElem?_eq_getElem hlt] at e
      exact Option.some.inj e
    rw [ed] at q2
    have I3 := I2.al al3
    have x3 := x2.trans nA hA (al3.ext p3)
    refine ⟨B, F3, own2, hideR vs ρ2, d, _, I3.hide vs, dx, fun ρ4 σ4 r4 I4 w4 => ⟨?_, ?_⟩, q2⟩
    · rw [w4]
      apply List.ext_getElem?
      intro j
      rw [wipe_get, wipe_get]
      by_cases hj : j ∈ vs
      · rw [if_pos hj, if_pos hj]; cases h : σ[j]? <;> simp [h]
      · rw [if_neg hj, if_neg hj]
    · have w4' : wipe σ4 vs = wipe σ vs := by
        rw [w4]
        apply List.ext_getElem?
        intro j
        rw [wipe_get, wipe_get]
        by_cases hj : j ∈ vs
        · rw [if_pos hj, if_pos hj]; cases h : σ[j]? <;> simp [h]
        · rw [if_neg hj]
      have hA3 : H3 A = some (.lst (qs.map V.ref)) := al3.hh _ _ hA
      have fA3 : F3 A = none := (al3.fo A _ hA).trans fA
      unfold L2.tYes
      dsimp only
      rw [if_pos rfl]
      refine ⟨B, F3, own2, ρ4, _, I4, fun y ρ6 F6 own6 H6 b us r6 I6 x6 nb hb fb ob d6 => ?_, r4⟩
      have hA6 : H6 A = some (.lst (qs.map V.ref)) := x6.hh _ _ hA3 (.inr oA)
      have fA6 : F6 A = none := (x6.fo A _ hA3).trans fA3
      have oA6 : own6 A = none := x6.own_none hA3 oA
      have s6 : Same F2 F6 := al3.ff.trans x6.ff
      have nbA : b ≠ A := fun z => by subst z; rw [hA3] at nb; cases nb
      have q3 : ∀ c ∈ qs, ∃ o, H3 c = some o := fun c hc => by
        obtain ⟨o, ho⟩ := qat c hc
        exact ⟨o, al3.hh _ _ ho⟩
      have I7 := (I2.back I6 s6 w4').put hA6 fA6 oA6 (.lst (qs.map V.ref ++ [V.ref b]))
      have nq : b ∉ qs := fun hc => by
        obtain ⟨o, ho⟩ := q3 b hc
        rw [ho] at nb; cases nb
      have ndq := List.nodup_cons.mp nd
      refine ⟨qs.map V.ref, hA6, by rw [List.length_map, rows_len ra]; exact r6.1, F6, own6, _, acc ++ [y], qs ++ [b], I7, ?_, by rw [upd_same, List.map_append]; rfl, fA6, oA6, ?_, ?_, ?_, r6.2⟩
      · exact (x3.trans nA hA3 x6).put
      · refine List.nodup_cons.mpr ⟨?_, ?_⟩
        · rw [List.mem_append, List.mem_singleton]
          rintro (z | z)
          · exact ndq.1 z
          · exact nbA z.symm
        · refine List.nodup_append.mpr ⟨ndq.2, by simp, fun c hc e he => ?_⟩
          rw [List.mem_singleton] at he
          subst he
          intro z
          subst z
          exact nq hc
      · intro c hc
        rcases List.mem_append.mp hc with hc | hc
        · obtain ⟨o, f, n⟩ := hqs c hc
          obtain ⟨u, hu⟩ := q3 c hc
          obtain ⟨u', hu'⟩ := qat c hc
          exact ⟨x6.own_none hu o, (x6.fo c _ hu).trans ((al3.fo c _ hu').trans f), n⟩
        · rw [List.mem_singleton] at hc
          subst hc
          refine ⟨ob, fb, ?_⟩
          cases e : H1 c with
          | none => rfl
          | some o => obtain ⟨o', h'⟩ := x3.hl c o e; rw [h'] at nb; cases nb
      · refine rows_snoc ⟨us, by rw [upd_ne nbA]; exact hb, d6⟩ (rows_keep ra s6 fun c hc o ho => ?_)
        rw [upd_ne (fun z => by subst z; exact ndq.1 hc)]
        exact x6.hh _ _ (al3.hh _ _ ho) (.inr (hqs c hc).1)
  · have e : i = ds.length := by omega
    subst e
    rw [List.drop_length] at q2
    refine .inl ⟨stop _ (Nat.le_refl _), ?_⟩
    refine k (.ow2 acc) (A :: qs) ρ2 F2 own2 H2 _ q2 I2 (x1.transA x2 hA0 nA) ⟨⟨A, qs, rfl, rfl, hA, ra⟩, nd, fun b hb => ?_⟩
    rcases List.mem_cons.mp hb with z | hb
    · subst z; exact ⟨oA, fA, hA0, _, hA⟩
    · obtain ⟨o, f, n⟩ := hqs b hb
      refine ⟨o, f, ?_, qat b hb⟩
      cases e : H b with
      | none => rfl
      | some o => obtain ⟨o', h'⟩ := x1.hl b o e; rw [h'] at n; cases n
section
variable {p q p3 : Bool} {elt tg iter : Expr} {scope : Scope} {own : List (Str × Nat)} {pos : Pos} {it : NF} {g : GF} {te : NF} {vs : List Nat}
theorem hk_comp2 (hi : HI C p q tg iter it) (ok : BlkOk C.X.N C.X.env.scope scope own) (hvs : own.map (·.2) = vs)
    (hg : ∀ (s : Shared) (H : Hp) (A : Addr) (cl : List (Str × Addr)) (fp : List Addr), HG (C.blk s H scope (compEnvC scope cl A C.X.env) fp) tg vs g)
    (he : ∀ (s : Shared) (H : Hp) (A : Addr) (cl : List (Str × Addr)) (fp : List Addr), HN (C.blk s H scope (compEnvC scope cl A C.X.env) fp) p3 elt te)
    (hq : q = true ∨ p3 = true := by first | exact .inl rfl | exact .inr rfl)
    (hs : ∀ x, foldedSetIterable iter C.X.env x = pure x := by intro _; rfl) : HK C (p && p3) (.ListComp elt [⟨tg, iter, [], 0⟩] scope pos) (kN2 (nComp2 vs it g te)) := by
  obtain ⟨wi, hw, hi⟩ := hi
  refine ⟨_, pe_lc (g := tOfG C.X.K vs g) (tt := tYes) (te := tOfN C.X.K p3 te) C.calm C.nd hw ok (fun s H A cl fp => (hg s H A cl fp).can) (fun s H A cl fp => pts_nil) (fun s H A cl fp => (he s H A cl fp).can fun _ _ => blk_w) hs, fun B F o H σ ρ Q R I w k z => ?_⟩
  rw [hvs]
  exact lc_sound2 hq hi F o H σ ρ Q R I w k z
theorem hs_setcomp2_of {i : Nat} {st : Stmt} (mk : ∀ {wi : TI} {g : TG} {tt : TT} {te : TE}, PI C.X tg iter wi →
      (∀ (s : Shared) (H : Hp) (A : Addr) (cl : List (Str × Addr)) (fp : List Addr), PG (C.X.blk s H scope (compEnvC scope cl A C.X.env) fp) tg g) →
      (∀ (s : Shared) (H : Hp) (A : Addr) (cl : List (Str × Addr)) (fp : List Addr), PTs (C.X.blk s H scope (compEnvC scope cl A C.X.env) fp) [] tt) →
      (∀ (s : Shared) (H : Hp) (A : Addr) (cl : List (Str × Addr)) (fp : List Addr), PE (C.X.blk s H scope (compEnvC scope cl A C.X.env) fp) elt te) → PS C.X st (tAsg (tLc wi g tt te (own.map (·.2))) (L2.gName i)))
    (hi : HI C p q tg iter it) (hvs : own.map (·.2) = vs)
    (hg : ∀ (s : Shared) (H : Hp) (A : Addr) (cl : List (Str × Addr)) (fp : List Addr), HG (C.blk s H scope (compEnvC scope cl A C.X.env) fp) tg vs g)
    (he : ∀ (s : Shared) (H : Hp) (A : Addr) (cl : List (Str × Addr)) (fp : List Addr), HN (C.blk s H scope (compEnvC scope cl A C.X.env) fp) p3 elt te)
    (hq : q = true ∨ p3 = true := by first | exact .inl rfl | exact .inr rfl) : HS C st (fSetK i (kN2 (nComp2 vs it g te))) := by
  obtain ⟨wi, hw, hi⟩ := hi
  refine ⟨_, mk (g := tOfG C.X.K vs g) (tt := tYes) (te := tOfN C.X.K p3 te) hw (fun s H A cl fp => (hg s H A cl fp).can) (fun s H A cl fp => pts_nil) (fun s H A cl fp => (he s H A cl fp).can fun _ _ => blk_w), fun B F o H σ ρ E G I w k z => ?_⟩
  rw [hvs]
  refine lc_sound2 hq hi F o H σ ρ _ _ I w (fun s as ρ1 F1 own1 H1 v r1 I1 x1 f1 => ?_) z
  exact k.nx F1 _ H1 _ _ (I1.storeK i I.new_B f1) x1.ff r1
end
end TL
set_option Elab.async false
set_option linter.all false
set_option maxRecDepth 100000
namespace TL
open PySem PySem.Spec PyProof.Rows L2
variable {C : Ct}

/-! ### lists of owned lists -/
theorem SInv.at_ow2 {K : PySem.W.Frag} {B F H : Hp} {own : Own} {σ : L2.St} {ρ : Rho} {i : Nat} {rows : List (List D)} (I : SInv K B F own H σ ρ) (h : ρ[i]? = some (.ow2 rows)) : ∃ (p : Addr) (qs : List Addr), σ[i]? = some (some (.ref p)) ∧ own p = some i ∧ H p = some (.lst (qs.map V.ref)) ∧ (p :: qs).Nodup ∧ RowsOk K F H own i qs rows := by
  have hi : i < σ.length := by rw [← I.len]; exact (List.getElem?_eq_some_iff.mp h).1
  obtain ⟨p, qs, hv, o, hp, nd, r⟩ := I.sl i _ _ h (List.getElem?_eq_getElem hi)
  exact ⟨p, qs, by rw [List.getElem?_eq_getElem hi, hv], o, hp, nd, r⟩
theorem paired_get {α β : Type} {R : α → β → Prop} : ∀ {l : List α} {m : List β} {i : Nat} {b : β}, Paired R l m → m[i]? = some b → ∃ a, l[i]? = some a ∧ R a b
  | _, _, i, b, .nil, h => by simp at h
  | _, _, 0, b, .cons r t, h => by simp at h; subst h; exact ⟨_, rfl, r⟩
  | _, _, i + 1, b, .cons r t, h => by
    obtain ⟨a, e, q⟩ := paired_get (i := i) (b := b) t (by simpa using h)
    exact ⟨a, by simpa using e, q⟩
theorem paired_len {α β : Type} {R : α → β → Prop} : ∀ {l : List α} {m : List β}, Paired R l m → l.length = m.length
  | _, _, .nil => rfl
  | _, _, .cons _ t => congrArg (· + 1) (paired_len t)
theorem paired_upd {α β : Type} {R S : α → β → Prop} {a : α} {b : β} : ∀ {l : List α} {m : List β} (i : Nat), Paired R l m → l.Nodup → l[i]? = some a → S a b → (∀ x y, x ≠ a → R x y → S x y) → Paired S l (m.set i b)
  | _, _, _, .nil, _, h, _, _ => by simp at h
  | x :: l, y :: m, 0, .cons r t, nd, h, s, f => by
    simp at h
    subst h
    exact .cons s (paired_impM t fun u v hu => f u v (fun z => by subst z; exact (List.nodup_cons.mp nd).1 hu))
  | x :: l, y :: m, i + 1, .cons r t, nd, h, s, f => by
    have h' : l[i]? = some a := by simpa using h
    refine .cons (f x y (fun z => by subst z; exact (List.nodup_cons.mp nd).1 (List.mem_of_getElem? h')) r) ?_
    exact paired_upd i t (List.nodup_cons.mp nd).2 h' s f
/-- row j of slot i becomes es -/
theorem SInv.mod2 {K : PySem.W.Frag} {B F H : Hp} {own : Own} {σ : L2.St} {ρ : Rho} {i j : Nat} {p q : Addr} {qs : List Addr} {rows : List (List D)} {us : List V} {es : List D} (I : SInv K B F own H σ ρ) (hσ : σ[i]? = some (some (.ref p))) (o : own p = some i) (hp : H p = some (.lst (qs.map V.ref))) (nd : (p :: qs).Nodup) (r : RowsOk K F H own i qs rows)
    (hq : qs[j]? = some q) (oq : own q = some i) (ru : RpAll K F us es) : SInv K B F own (upd H q (.lst us)) σ (ρ.set i (.ow2 (rows.set j es))) where
  fh := fun b u e => by
    rw [upd_ne (fun z => by subst z; rw [(I.ow b i oq).1] at e; cases e)]
    exact I.fh b u e
  bh := fun b u e => by
    rw [upd_ne (fun z => by subst z; rw [(I.bf b u e).2] at oq; cases oq)]
    exact I.bh b u e
  bf := I.bf
  ow := fun b k e => by
    refine ⟨(I.ow b k e).1, ?_⟩
    by_cases hb : b = q
    · subst hb; exact ⟨_, upd_same⟩
    · rw [upd_ne hb]; exact (I.ow b k e).2
  len := by rw [List.length_set]; exact I.len
  sl := fun k s v e e2 => by
    have nds := List.nodup_cons.mp nd
    rcases set_get e with ⟨rfl, rfl⟩ | ⟨n, e⟩
    · rw [hσ] at e2
      cases e2
      refine ⟨p, qs, rfl, o, ?_, nd, ?_⟩
      · rw [upd_ne (fun z => by subst z; exact nds.1 (List.mem_of_getElem? hq))]
        exact hp
      · refine paired_upd j r nds.2 hq ⟨oq, us, upd_same, ru⟩ fun x y hx ⟨ox, vs, hv, rv⟩ => ⟨ox, vs, ?_, rv⟩
        rw [upd_ne hx]; exact hv
    · refine (I.sl k s v e e2).keep (Same.refl _) (fun b u hb h => ?_) fun _ h => h
      rw [upd_ne (fun z => by subst z; rw [oq] at hb; cases hb; exact n rfl)]
      exact h
/-- the row x[j], read -/
def rRow (i : Nat) (f : EF) : RF := fun ρ R => (∃ rows, ρ[i]? = some (.ow2 rows)) ∧ f ρ fun x _ => ∃ (rows : List (List D)) (j : Int) (row : List D), ρ[i]? = some (.ow2 rows) ∧ x = .int j ∧ atI rows j = some row ∧ R (.list row)
theorem hr_row {i : Nat} {x : Str} {e : Expr} {px pos : Pos} {f : EF} (hx : PE C.X (.Name x px) (tVar i)) (h : HE C true e f) (hp : PlainIx e) : HR C (.Subscript (.Name x px) e pos) (rRow i f) := by
  obtain ⟨t, ht, hs⟩ := h
  refine ⟨_, pe_ix ix_list hx ht hp, fun B F own H σ ρ Q R I w k z => ?_⟩
  obtain ⟨⟨rows0, e0⟩, z⟩ := z
  obtain ⟨q0, qs0, hσ, _⟩ := I.at_ow2 e0
  refine ⟨_, hσ, ?_⟩
  refine hs B F own H σ ρ _ _ I w (fun y ρ1 F1 own1 H1 u r1 I1 x1 d1 => ?_) z
  obtain ⟨rows, j, row, e1, rfl, hj, r1⟩ := r1
  cases d1
  have I2 := I.keep I1 x1
  obtain ⟨p, qs, hσ', o1, h1, nd, rr⟩ := I2.at_ow2 e1
  rw [hσ] at hσ'
  cases hσ'
  unfold atI at hj
  obtain ⟨m, hm, hr⟩ : ∃ m, ixN rows.length j = some m ∧ rows[m]? = some row := by
    cases e : ixN rows.length j with
    | none => rw [e] at hj; cases hj
    | some m => rw [e] at hj; exact ⟨m, rfl, hj⟩
  obtain ⟨b, hb, ob, vs, hv, rv⟩ := paired_get rr hr
  refine ⟨_, qs.map V.ref, j, .ref b, rfl, rfl, .of h1, ?_, k _ F1 own1 H1 _ r1 I2 x1 (.inr ⟨b, vs, row, i, rfl, rfl, ob, hv, rv⟩)⟩
  unfold atI
  rw [List.length_map, paired_len rr, hm, Option.bind_some, List.getElem?_map, hb]
  rfl
/-- x[j].append(e) -/
def fApp2 (i : Nat) (g f : EF) : SF := fun ρ E => (∃ rows, ρ[i]? = some (.ow2 rows)) ∧ g ρ fun x ρ0 => (∃ (rows : List (List D)) (j : Int) (row : List D), ρ0[i]? = some (.ow2 rows) ∧ x = .int j ∧ atI rows j = some row) ∧ f ρ0 fun d ρ1 => ∃ (rows : List (List D)) (j : Int) (m : Nat) (row : List D), ρ1[i]? = some (.ow2 rows) ∧ x = .int j ∧ ixN rows.length j = some m ∧ rows[m]? = some row ∧ row.length < sizeLine ∧ E.nx (ρ1.set i (.ow2 (rows.set m (row ++ [d]))))
theorem hs_append2 {i : Nat} {x : Str} {e ix : Expr} {px ps pa pc pos : Pos} {f g : EF} (hx : PE C.X (.Name x px) (tVar i)) (h2 : HE C true ix g) (h : HE C true e f) (hp : PlainIx ix)
    (hs : swapsWith (.Call (.Attribute (.Subscript (.Name x px) ix ps) "append" pa) [e] [] pc) none pos.line C.X.env = pure false := by rfl) (hbase : attributeBase (.Subscript (.Name x px) ix ps) "append" C.X.env (eval (.Subscript (.Name x px) ix ps) C.X.env) = eval (.Subscript (.Name x px) ix ps) C.X.env := by rfl)
    (hfew : ((backTo pc (starEach [e] C.X.env)).all (fun x => !x.1) && (backToKw pc (keywordEach [] C.X.env)).all (fun x => x.1.isSome) && decide ([e].length + ([] : List Keyword).length + (if ([] : List Keyword).isEmpty then 0 else 1) < 30)) = true := by rfl)
    (hline : (pa.endLine == pc.line) = true := by rfl) (hst : starEach [e] C.X.env = (false, eval e C.X.env) :: starEach [] C.X.env := by rfl) :
    HS C (.Expr (.Call (.Attribute (.Subscript (.Name x px) ix ps) "append" pa) [e] [] pc) pos) (fApp2 i g f) := by
  obtain ⟨t, ht, hs'⟩ := h
  obtain ⟨t2, ht2, hs2⟩ := h2
  refine ⟨_, ps_expr (pe_bm PySem.F.plainAttrs_list PySem.F.slot_list_append PySem.F.type_list_append mt_append (pe_ix ix_list hx ht2 hp) (pa_cons ht pa_nil hst) hbase hfew hline hst rfl) hs, fun B F own H σ ρ E G I w k z => ?_⟩
  obtain ⟨⟨rows0, e0⟩, z⟩ := z
  obtain ⟨q0, qs0, hσ, _⟩ := I.at_ow2 e0
  refine ⟨_, hσ, ?_⟩
  refine hs2 B F own H σ ρ _ _ I w (fun y ρ0 F0 own0 H0 u r0 I0 x0 d0 => ?_) z
  obtain ⟨⟨rows, j, row, e1, rfl, hj⟩, r0⟩ := r0
  cases d0
  obtain ⟨p, qs, hσ', o1, h1, nd, rr⟩ := I0.at_ow2 e1
  rw [hσ] at hσ'
  cases hσ'
  unfold atI at hj
  obtain ⟨m, hm, hr⟩ : ∃ m, ixN rows.length j = some m ∧ rows[m]? = some row := by
    cases e : ixN rows.length j with
    | none => rw [e] at hj; cases hj
    | some m => rw [e] at hj; exact ⟨m, rfl, hj⟩
  obtain ⟨b, hb, ob, vs, hv, rv⟩ := paired_get rr hr
  refine ⟨_, qs.map V.ref, j, .ref b, rfl, rfl, .of h1, ?_, .inl ⟨rfl, _, .of hv⟩, ?_⟩
  · unfold atI
    rw [List.length_map, paired_len rr, hm, Option.bind_some, List.getElem?_map, hb]
    rfl
  refine hs' B F0 own0 H0 σ ρ0 _ _ I0 (w.mono x0.ff) (fun d ρ1 F1 own1 H1 v r1 I1 x1 d1 => ?_) r0
  obtain ⟨rows', j', m', row', e2, ej, hm', hr', hz, r1⟩ := r1
  cases ej
  -- nothing that stood is changed
  have I1' := I0.keep I1 x1
  obtain ⟨p2, qs2, hσ2, o2, h2, nd2, rr2⟩ := I1.at_ow2 e2
  rw [hσ] at hσ2
  cases hσ2
  have eqs : qs2 = qs := by
    have := x1.hh _ _ h1 (.inl rfl)
    rw [h2] at this
    have e3 := HO.lst.inj (Option.some.inj this)
    exact (List.map_inj_right (fun a b h => V.ref.inj h)).mp e3
  subst eqs
  have el : rows'.length = rows.length := (paired_len rr2).symm.trans (paired_len rr)
  rw [el, hm] at hm'
  cases hm'
  obtain ⟨b2, hb2, ob2, vs2, hv2, rv2⟩ := paired_get rr2 hr'
  rw [hb] at hb2
  cases hb2
  refine ⟨b, vs2, v, rfl, rfl, hv2, by rw [dpa_len rv2]; exact hz, ?_⟩
  exact k.nx F1 own1 _ σ _ (I1.mod2 hσ o2 h2 nd2 rr2 hb ob2 (dpa_app rv2 (.cons d1 .nil))) (x0.ff.trans x1.ff) r1
/-- x[j][l] = e -/
def fSetIx2 (i : Nat) (f g h : EF) : SF := fun ρ E => f ρ fun d ρ0 => (∃ rows, ρ0[i]? = some (.ow2 rows)) ∧ g ρ0 fun x ρ1 => (∃ (rows : List (List D)) (j : Int) (row : List D), ρ1[i]? = some (.ow2 rows) ∧ x = .int j ∧ atI rows j = some row) ∧ h ρ1 fun y ρ2 => ∃ (rows : List (List D)) (j l : Int) (m n : Nat) (row : List D), ρ2[i]? = some (.ow2 rows) ∧ x = .int j ∧ y = .int l ∧ ixN rows.length j = some m ∧ rows[m]? = some row ∧ ixN row.length l = some n ∧ E.nx (ρ2.set i (.ow2 (rows.set m (row.set n d))))
theorem hs_setix2_of {p : Bool} {st : Stmt} {i : Nat} {x : Str} {e ix iy : Expr} {px ps pt : Pos} {f g h : EF} (mk : ∀ {te : TE} {tg : TG}, PE C.X e te → PG C.X (.Subscript (.Subscript (.Name x px) ix ps) iy pt) tg → PS C.X st (tAsg te tg)) (hx : PE C.X (.Name x px) (tVar i)) (h1 : HE C p e f) (h2 : HE C true ix g) (h3 : HE C true iy h) (hp : PlainIx ix)
    (ha : ∀ v, assign (.Subscript (.Subscript (.Name x px) ix ps) iy pt) C.X.env v = (do
      let ov ← holding [v] (eval (.Subscript (.Name x px) ix ps) C.X.env)
      let iv ← holding [v, ov] (eval iy C.X.env)
      standAt pt
      holding [v, ov, iv] (setItem ov iv v)
      release [v, ov, iv] []) := by intro _; rfl) : HS C st (fSetIx2 i f g h) := by
  obtain ⟨t, ht, hs⟩ := h1
  obtain ⟨t2, ht2, hs2⟩ := h2
  obtain ⟨t3, ht3, hs3⟩ := h3
  refine ⟨_, mk ht (pg_sub (pe_ix ix_list hx ht2 hp) ht3 set_list ha), fun B F own H σ ρ E G I w k z => ?_⟩
  refine hs B F own H σ ρ _ _ I w (fun d ρ0 F0 own0 H0 v r0 I0 x0 d0 => ?_) z
  obtain ⟨⟨rows0, e0⟩, r0⟩ := r0
  obtain ⟨q0, qs0, hσ, _⟩ := I0.at_ow2 e0
  refine ⟨_, hσ, ?_⟩
  refine hs2 B F0 own0 H0 σ ρ0 _ _ I0 (w.mono x0.ff) (fun y ρ1 F1 own1 H1 u r1 I1 x1 d1 => ?_) r0
  obtain ⟨⟨rows, j, row, e1, rfl, hj⟩, r1⟩ := r1
  cases d1
  obtain ⟨p, qs, hσ', o1, h1, nd, rr⟩ := I1.at_ow2 e1
  rw [hσ] at hσ'
  cases hσ'
  unfold atI at hj
  obtain ⟨m, hm, hr⟩ : ∃ m, ixN rows.length j = some m ∧ rows[m]? = some row := by
    cases e : ixN rows.length j with
    | none => rw [e] at hj; cases hj
    | some m => rw [e] at hj; exact ⟨m, rfl, hj⟩
  obtain ⟨b, hb, ob, vs, hv, rv⟩ := paired_get rr hr
  refine ⟨_, qs.map V.ref, j, .ref b, rfl, rfl, .of h1, ?_, ?_⟩
  · unfold atI
    rw [List.length_map, paired_len rr, hm, Option.bind_some, List.getElem?_map, hb]
    rfl
  refine hs3 B F1 own1 H1 σ ρ1 _ _ I1 (w.mono (x0.ff.trans x1.ff)) (fun y ρ2 F2 own2 H2 u r2 I2 x2 d2 => ?_) r1
  obtain ⟨rows', j', l, m', n, row', e2, ej, rfl, hm', hr', hn, r2⟩ := r2
  cases ej
  cases d2
  obtain ⟨p2, qs2, hσ2, o2, h2, nd2, rr2⟩ := I2.at_ow2 e2
  rw [hσ] at hσ2
  cases hσ2
  have eqs : qs2 = qs := by
    have := x2.hh _ _ h1 (.inl rfl)
    rw [h2] at this
    have e3 := HO.lst.inj (Option.some.inj this)
    exact (List.map_inj_right (fun a b h => V.ref.inj h)).mp e3
  subst eqs
  have el : rows'.length = rows.length := (paired_len rr2).symm.trans (paired_len rr)
  rw [el, hm] at hm'
  cases hm'
  obtain ⟨b2, hb2, ob2, vs2, hv2, rv2⟩ := paired_get rr2 hr'
  rw [hb] at hb2
  cases hb2
  refine ⟨b, vs2, l, n, rfl, rfl, hv2, by rw [dpa_len rv2]; exact hn, ?_⟩
  exact k.nx F2 own2 _ σ _ (I2.mod2 hσ o2 h2 nd2 rr2 hb ob2 (dpa_set (dp_mono (x1.ff.trans x2.ff) d0) _ rv2)) (x0.ff.trans (x1.ff.trans x2.ff)) r2
/-- all of slot i stays as it is from here on -/
def takeAll (own : Own) (as : List Addr) : Own := fun b => if b ∈ as then none else own b
def layAll (F H : Hp) (as : List Addr) : Hp := fun b => if b ∈ as then H b else F b
theorem SInv.frz2 {K : PySem.W.Frag} {B F H : Hp} {own : Own} {σ : L2.St} {ρ : Rho} {i : Nat} {rows : List (List D)} (I : SInv K B F own H σ ρ) (h : ρ[i]? = some (.ow2 rows)) : ∃ F' own', Same F F' ∧ SInv K B F' own' H σ (ρ.set i (.fz (.list (rows.map .list)))) := by
  obtain ⟨p, qs, hσ, o, hp, nd, rr⟩ := I.at_ow2 h
  have oq : ∀ b ∈ p :: qs, own b = some i := fun b hb => by
    rcases List.mem_cons.mp hb with z | hb
    · subst z; exact o
    · have : ∀ {qs : List Addr} {rows : List (List D)}, RowsOk K F H own i qs rows → ∀ b ∈ qs, own b = some i := by
        intro qs rows r
        induction r with
        | nil => intro b hb; cases hb
        | cons h t ih =>
          intro b hb
          rcases List.mem_cons.mp hb with e | hb
          · subst e; exact h.1
          · exact ih b hb
      exact this rr b hb
  have sF : Same F (layAll F H (p :: qs)) := fun b u e => by
    unfold layAll
    split
    · exact I.fh b u e
    · exact e
  refine ⟨layAll F H (p :: qs), takeAll own (p :: qs), sF, ?_⟩
  have rp : Rp K (layAll F H (p :: qs)) (.ref p) (.list (rows.map .list)) := by
    refine .lst (xs := qs.map V.ref) (by unfold layAll; rw [if_pos List.mem_cons_self]; exact hp) ?_
    have : ∀ {l : List Addr} {rows : List (List D)}, (∀ b ∈ l, b ∈ p :: qs) → RowsOk K F H own i l rows → RpAll K (layAll F H (p :: qs)) (l.map V.ref) (rows.map .list) := by
      intro l rows hl r
      induction r with
      | nil => exact .nil
      | cons h t ih =>
        obtain ⟨_, vs, hv, rv⟩ := h
        exact .cons (.lst (by unfold layAll; rw [if_pos (hl _ List.mem_cons_self)]; exact hv) (dpa_mono sF rv)) (ih fun b hb => hl b (List.mem_cons_of_mem _ hb))
    exact this (fun b hb => List.mem_cons_of_mem _ hb) rr
  refine ⟨fun b u e => ?_, I.bh, fun b u e => ?_, fun b j e => ?_, by rw [List.length_set]; exact I.len, fun j s v e e2 => ?_⟩
  · unfold layAll at e
    split at e
    · exact e
    · exact I.fh b u e
  · have nb : b ∉ p :: qs := fun z => by have := oq b z; rw [(I.bf b u e).2] at this; cases this
    unfold layAll takeAll
    rw [if_neg nb, if_neg nb]
    exact I.bf b u e
  · unfold takeAll at e
    by_cases hb : b ∈ p :: qs
    · rw [if_pos hb] at e; cases e
    · rw [if_neg hb] at e
      unfold layAll
      rw [if_neg hb]
      exact I.ow b j e
  · rcases set_get e with ⟨rfl, rfl⟩ | ⟨n, e⟩
    · rw [hσ] at e2
      cases e2
      exact ⟨_, rfl, rp⟩
    · refine (I.sl j s v e e2).keep sF (fun _ _ _ h => h) fun b hb => ?_
      unfold takeAll
      rw [if_neg (fun z => by rw [oq b z] at hb; cases hb; exact n rfl)]
      exact hb
def fFrz2 (i : Nat) (f : SF) : SF := fun ρ E => ∃ rows, ρ[i]? = some (.ow2 rows) ∧ f (ρ.set i (.fz (.list (rows.map .list)))) E
theorem hss_frz2 {i : Nat} {st : List Stmt} {f : SF} (h : HSs C st f) : HSs C st (fFrz2 i f) := by
  obtain ⟨t, ht, hs⟩ := h
  refine ⟨t, ht, fun B F own H σ ρ E G I w k z => ?_⟩
  obtain ⟨ds, e, q⟩ := z
  obtain ⟨F', own', s, I'⟩ := I.frz2 e
  exact hs B F' own' H σ _ E G I' (w.mono s) (k.mono s) q
end TL
set_option Elab.async false
set_option linter.all false
set_option maxRecDepth 100000
namespace TL
open PySem PySem.Spec PyProof.Rows L2
variable {C : Ct}

/-! ### operators whatever the operands are -/
def uAdd : G2 := fun x y R => gAdd x y R ∨ gAddS x y R ∨ gCatT x y R ∨ kCat x y fun ds => R (.list ds)
def rAddU (K : PySem.W.Frag) : R2 := fun x y H Q => rI0 (fun i j => .int (i + j)) x y H Q ∨ (fun x y H Q => ∃ i j, x = V.str i ∧ y = V.str j ∧ i.length + j.length ≤ sizeLine ∧ Q (.str (i ++ j)) H) x y H Q ∨ rCatA K x y H Q ∨ rCat x y H Q
theorem op_addU : OpR C.X (binaryOp .Add) (rAddU C.X.K) := op_add.or (op_add_str.or (op_catA.or op_cat))
theorem o_addU : Op2 C (rAddU C.X.K) uAdd := by
  intro F own H v u x y Q R e dv du k q
  rcases q with q | q | q | q
  · exact .inl (o_add F own H v u x y Q R e dv du k q)
  · exact .inr (.inl (o_addS F own H v u x y Q R e dv du k q))
  · exact .inr (.inr (.inl (o_catT F own H v u x y Q R e dv du k q)))
  · refine .inr (.inr (.inr (o_cat F own H v u x y Q _ e dv du (fun ds F' H' a vs r al n dw => ?_) q)))
    have al2 := Al.one (F := F') (o := .lst vs) al.fh n
    exact k _ _ _ _ r (al.trans al2) (.lst upd_same (dpa_mono al2.ff dw))
def uMul : G2 := fun x y R => gMul x y R ∨ kRep x y fun ds => R (.list ds)
def rMulU : R2 := fun x y H Q => rI CMul (fun i j => .int (i * j)) x y H Q ∨ rRep x y H Q
theorem op_mulU : OpR C.X (binaryOp .Mult) rMulU := op_mul.or op_rep
theorem o_mulU : Op2 C rMulU uMul := by
  intro F own H v u x y Q R e dv du k q
  rcases q with q | q
  · exact .inl (o_mul F own H v u x y Q R e dv du k q)
  · refine .inr (o_rep F own H v u x y Q _ e dv du (fun ds F' H' a vs r al n dw => ?_) q)
    have al2 := Al.one (F := F') (o := .lst vs) al.fh n
    exact k _ _ _ _ r (al.trans al2) (.lst upd_same (dpa_mono al2.ff dw))
def uEq : G2 := fun x y R => gEqS x y R ∨ gEq x y R
def uNe : G2 := fun x y R => gNeS x y R ∨ gNe x y R
def rEqU (K : PySem.W.Frag) : R2 := fun x y H Q => rEq x y H Q ∨ rEqD K x y H Q
def rNeU (K : PySem.W.Frag) : R2 := fun x y H Q => rNe x y H Q ∨ rNeD K x y H Q
theorem op_eqU : OpR C.X (compareOp .Eq) (rEqU C.X.K) := op_eq.or (op_eqD (by have := C.hu; omega))
theorem op_neU : OpR C.X (compareOp .NotEq) (rNeU C.X.K) := op_ne.or (op_neD (by have := C.hu; omega))
theorem o_eqU : Op2 C (rEqU C.X.K) uEq := by
  intro F own H v u x y Q R e dv du k q
  rcases q with q | q
  · exact .inl (o_eqS F own H v u x y Q R e dv du k q)
  · exact .inr (o_eq F own H v u x y Q R e dv du k q)
theorem o_neU : Op2 C (rNeU C.X.K) uNe := by
  intro F own H v u x y Q R e dv du k q
  rcases q with q | q
  · exact .inl (o_neS F own H v u x y Q R e dv du k q)
  · exact .inr (o_ne F own H v u x y Q R e dv du k q)
/-- x in a tuple of data -/
def rInTD (K : PySem.W.Frag) (neg : Bool) : R2 := fun x y H Q => ∃ d ds, Dp K H x d ∧ Dp K H y (.tuple ds) ∧ SeqAt.shaped d = true ∧ SeqAt.shaped (.tuple ds) = true ∧ Q (.bl (if neg then !ds.any (fun z => PyData.eqv z d) else ds.any fun z => PyData.eqv z d)) H
theorem room_t {d : D} {ds : List D} {A : Around} (sd : SeqAt.shaped d = true) (hu : A.units + 200 < cLine) : A.units + 1 + min (PyData.depthAll ds) d.depth < cLine := by
  have h := SeqAt.depth_of_shaped sd
  have h2 : min (PyData.depthAll ds) d.depth ≤ d.depth := Nat.min_le_right _ _
  omega
theorem op_inT : OpR C.X (compareOp .In) (rInTD C.X.K false) := by
  intro pins s σ H x y v u Q I rx ry h
  obtain ⟨d, ds, hd, he, sd, se, q⟩ := h
  obtain ⟨as, r1⟩ := Dp.reads I d x v hd rx
  obtain ⟨bs, r2⟩ := Dp.reads I (.tuple ds) y u he ry
  exact SeqAt.in_tuple_reads r2 r1 (SeqAt.canLay_of_shaped se) (SeqAt.canLay_of_shaped sd) (room_t sd C.hu) ⟨.bl _, H, I, rfl, q⟩
theorem op_ninT : OpR C.X (compareOp .NotIn) (rInTD C.X.K true) := by
  intro pins s σ H x y v u Q I rx ry h
  obtain ⟨d, ds, hd, he, sd, se, q⟩ := h
  obtain ⟨as, r1⟩ := Dp.reads I d x v hd rx
  obtain ⟨bs, r2⟩ := Dp.reads I (.tuple ds) y u he ry
  exact SeqAt.notIn_tuple_reads r2 r1 (SeqAt.canLay_of_shaped se) (SeqAt.canLay_of_shaped sd) (room_t sd C.hu) ⟨.bl _, H, I, rfl, q⟩
def gInT (neg : Bool) : G2 := fun x y R => ∃ ds, y = .tuple ds ∧ SeqAt.shaped x = true ∧ SeqAt.shaped y = true ∧ R (.bool (if neg then !ds.any (fun z => PyData.eqv z x) else ds.any fun z => PyData.eqv z x))
theorem o_inT {neg : Bool} : Op2 C (rInTD C.X.K neg) (gInT neg) := by
  intro F own H v u x y Q R e dv du k ⟨ds, e1, h1, h2, q⟩
  subst e1
  exact ⟨x, ds, dv.dp e, du.dp e, h1, h2, k _ F H _ q (.refl e) (.bl _)⟩
def uIn (neg : Bool) : G2 := fun x y R => gInS neg x y R ∨ gInF neg x y R ∨ gIn neg x y R ∨ gInT neg x y R
def rInU (K : PySem.W.Frag) : R2 := fun x y H Q => (fun x y H Q => ∃ (c : Nat) (z : Str), x = V.str ⟨#[c]⟩ ∧ y = V.str z ∧ Q (.bl (decide (c ∈ z.cps.toList))) H) x y H Q ∨ rIn K false x y H Q ∨ rInD K x y H Q ∨ rInTD K false x y H Q
def rNinU (K : PySem.W.Frag) : R2 := fun x y H Q => (fun x y H Q => ∃ (c : Nat) (z : Str), x = V.str ⟨#[c]⟩ ∧ y = V.str z ∧ Q (.bl (!decide (c ∈ z.cps.toList))) H) x y H Q ∨ rIn K true x y H Q ∨ rNotInD K x y H Q ∨ rInTD K true x y H Q
theorem op_inU : OpR C.X (compareOp .In) (rInU C.X.K) := op_in_sign.or (op_in_seq.or ((op_inD (by have := C.hu; omega)).or op_inT))
theorem op_ninU : OpR C.X (compareOp .NotIn) (rNinU C.X.K) := op_notIn_sign.or (op_notIn_seq.or ((op_notInD (by have := C.hu; omega)).or op_ninT))
theorem o_inU : Op2 C (rInU C.X.K) (uIn false) := by
  intro F own H v u x y Q R e dv du k q
  rcases q with q | q | q | q
  · exact .inl (o_inS F own H v u x y Q R e dv du k q)
  · exact .inr (.inl (o_inF F own H v u x y Q R e dv du k q))
  · exact .inr (.inr (.inl (o_in F own H v u x y Q R e dv du k q)))
  · exact .inr (.inr (.inr (o_inT F own H v u x y Q R e dv du k q)))
theorem o_ninU : Op2 C (rNinU C.X.K) (uIn true) := by
  intro F own H v u x y Q R e dv du k q
  rcases q with q | q | q | q
  · exact .inl (o_notinS F own H v u x y Q R e dv du k q)
  · exact .inr (.inl (o_inF F own H v u x y Q R e dv du k q))
  · exact .inr (.inr (.inl (o_notin F own H v u x y Q R e dv du k q)))
  · exact .inr (.inr (.inr (o_inT F own H v u x y Q R e dv du k q)))
/-- <= of ints, of texts -/
def uLe : G2 := fun x y R => gLe x y R ∨ ∃ a b : Str, x = .str a ∧ y = .str b ∧ R (.bool (!decide (b.cps.toList < a.cps.toList)))
def rLeU : R2 := fun x y H Q => rI0 (fun i j => .bl (decide (i ≤ j))) x y H Q ∨ (fun x y H Q => ∃ i j, x = V.str i ∧ y = V.str j ∧ Q (.bl (!decide (j.cps.toList < i.cps.toList))) H) x y H Q
theorem op_leU : OpR C.X (compareOp .LtE) rLeU := op_le.or op_le_str
theorem o_leU : Op2 C rLeU uLe := by
  intro F own H v u x y Q R e dv du k q
  rcases q with q | ⟨a, b, e1, e2, q⟩
  · exact .inl (o_le F own H v u x y Q R e dv du k q)
  · subst e1; subst e2
    exact .inr ⟨a, b, dv.str, du.str, k _ F H _ q (.refl e) (.bl _)⟩

/-! ### isinstance -/
def tyD : D → Option String
  | .none => some "NoneType"
  | .bool _ => some "bool"
  | .int _ => some "int"
  | .str _ => some "str"
  | .list _ => some "list"
  | .tuple _ => some "tuple"
  | _ => none
def gIsi (T : String) : G1 := fun x R => ∃ t b, tyD x = some t ∧ kitB t T = some b ∧ R (.bool b)
theorem ty_of {K : PySem.W.Frag} {F : Hp} {v : V} {x : D} {t : String} (h : Rp K F v x) (ht : tyD x = some t) {H : Hp} (e : Same F H) : TyX K H v (.type t) := by
  cases h with
  | non => cases ht; exact .base .non
  | bl b => cases ht; exact .base (.bl b)
  | int i => cases ht; exact .base (.int i)
  | str z => cases ht; exact .base (.str z)
  | lst h1 h2 => cases ht; exact .base (.lst (e _ _ h1))
  | tup h1 h2 =>
    cases ht
    rcases sq_mono e h1 with (h | ⟨o, h⟩) | ⟨o, its, n, h, hc, _⟩
    · exact .base (.tup h)
    · exact .fTuple h
    · exact .kTuple h hc
def rIsi1 (K : PySem.W.Frag) (T : String) : V → Hp → VK → Prop := fun v H Q => rIsi K [v, .ty T] H Q
theorem o_isi {T : String} : Op1 C (rIsi1 C.X.K T) (gIsi T) := by
  intro F own H v x Q R e dv k ⟨t, b, e1, e2, q⟩
  have hx : TyX C.X.K H v (.type t) := by
    rcases dv with h | ⟨a, vs, ds, i, rfl, rfl, o, h, r⟩
    · exact ty_of h e1 e
    · cases e1; exact .base (.lst h)
  exact ⟨v, .ty T, .type t, .type T, b, rfl, .ty T, hx, kit_ty e2, k _ F H _ q (.refl e) (.bl _)⟩
theorem he_isi {p : Bool} {T : Str} {Ts : String} {e : Expr} {f : EF} {pp pt pos : Pos} (hv : bootBuiltins T = some (.type Ts)) (gl : Gl C.X "isinstance") (hm : C.X.mg "isinstance" = none) (gl2 : Gl C.X T) (hm2 : C.X.mg T = none) (h : HE C p e f)
    (hn2 : T ≠ "__name__" := by decide) (hdb2 : (T == ("__debug__" : Str)) = false := by decide) (he : starEach [e, .Name T pt] C.X.env = (false, eval e C.X.env) :: starEach [.Name T pt] C.X.env := by rfl) (he2 : starEach [.Name T pt] C.X.env = (false, eval (.Name T pt) C.X.env) :: starEach [] C.X.env := by rfl)
    (hpl : (backTo pos (starEach [.Name T pt] C.X.env)).any (·.1) = false := by rfl) : HE C p (.Call (.Name "isinstance" pp) [e, .Name T pt] [] pos) (s1 (gIsi Ts) f) :=
  he_one (fun {ta} h => ⟨_, pe_callB call_isi gl hm (by decide +kernel) (pa_cons h (pa_cons (pe_bltn (v := .ty Ts) gl2 hm2 hv rfl hn2 hdb2) pa_nil he2) he) (by decide) (by decide) he hpl, fun _ _ _ z => z⟩) o_isi h

/-! ### a, b = x, y where a name is captured -/
theorem hs_parT_of {p q : Bool} {i j : Nat} {st : Stmt} {e1 e2 : Expr} {f g : KF} (mk : ∀ {t1 t2 : TE}, PE C.X e1 t1 → PE C.X e2 t2 → PS C.X st (tAsg (tTup (tCons t1 (tCons t2 tNil))) (gTup C.X.K 2 (gCons (L2.gName i) (gCons (L2.gName j) gNil))))) (h1 : HK C p e1 f) (h2 : HK C q e2 g) : HS C st (fParK i j f g) := by
  obtain ⟨t1, ht1, hs1⟩ := h1
  obtain ⟨t2, ht2, hs2⟩ := h2
  refine ⟨_, mk ht1 ht2, fun B F own H σ ρ E G I w k z => ?_⟩
  refine hs1 B F own H σ ρ _ _ I w (fun s as ρ1 F1 own1 H1 v r1 I1 x1 f1 => ?_) z
  refine hs2 B F1 own1 H1 σ ρ1 _ _ I1 (w.mono x1.ff) (fun u bs ρ2 F2 own2 H2 v2 r2 I2 x2 f2 => ?_) r1
  refine ⟨by show 2 ≤ sizeLine; decide, fun T nT => ⟨T, [v, v2], rfl, .of upd_same, rfl, v, [v2], rfl, v2, [], rfl, rfl, ?_⟩⟩
  have al := Al.new (F := F2) (o := .tup [v, v2]) I2.fh nT
  have xT := al.ext (own := own2) true
  have I2' := I2.al al
  have f1' := (f1.keep x2).keep xT
  have I3 := I2'.storeK i I.new_B f1'
  have f2k := f2.keep xT
  have f2' : Fit C.X.K F2 (giveAll own2 as i) (upd H2 T (.tup [v, v2])) H1 v2 u bs := ⟨f2k.sl, f2k.nd, fun a ha => by
    obtain ⟨o, ff, n, hh⟩ := f2k.at_ a ha
    refine ⟨?_, ff, n, hh⟩
    unfold giveAll
    rw [if_neg]
    · exact o
    · intro z
      obtain ⟨_, _, _, o', h'⟩ := f1.at_ a z
      rw [n] at h'
      cases h'⟩
  exact k.nx F2 _ _ _ _ (I3.storeK j I1.new_B f2') (x1.ff.trans x2.ff) r2
end TL
set_option Elab.async false
set_option linter.all false
set_option maxRecDepth 100000
namespace TL
open PySem PySem.Spec PyProof.Rows L2
variable {C : Ct}
/-- the built-ins' names are nobody's -/
structure Bl (mg : Str → Option Value) : Prop where
  len : mg "len" = none
  range : mg "range" = none
  sorted : mg "sorted" = none
  list : mg "list" = none
  tuple : mg "tuple" = none
  set : mg "set" = none
  int : mg "int" = none
  str : mg "str" = none
  bool : mg "bool" = none
  abs : mg "abs" = none
  min : mg "min" = none
  max : mg "max" = none
  sum : mg "sum" = none
  all : mg "all" = none
  any : mg "any" = none
  isinstance : mg "isinstance" = none
  dict : mg "dict" = none
  enumerate : mg "enumerate" = none
  reversed : mg "reversed" = none
/-- a def that stands -/
structure Dn (P : Program) (w : World) (K : PySem.W.Frag) (mg : Str → Option Value) (base : Heap) (x : Str) (k : Nat) (ps : List Str) (sp : Sp) : Prop where
  ex : ∃ f fd, FnOk P w K mg base CX0 k f fd ps sp ∧ mg x = some (.ref f) ∧ PySem.W.keepIn K (.ref f) = true ∧ Binds K fd ps []
def MgInt (mg : Str → Option Value) (x : Str) (i : Int) : Prop := ∃ t, mg x = some (.int i t)
theorem pe_globI {X : Cx} {x : Str} {i : Int} {pos : Pos} (hg : Gl X x) (hm : MgInt X.mg x i) (hd : (x == ("__debug__" : Str)) = false := by decide) : PE X (.Name x pos) (tC (.int i)) := by
  obtain ⟨t, hm⟩ := hm
  exact pe_glob hg hm ⟨t, rfl⟩ hd
theorem he_callD {p : Bool} {k : Nat} {ps : List Str} {φ : FF} {x : Str} {pp pos : Pos} {e : Expr} {es : List Expr} {a : NF} (G : Dn C.X.prog C.X.w C.X.K C.X.mg C.X.base x k ps (spF C.X.K φ)) (hk : k ≤ C.lv) (hg : Gl C.X x)
    (ha : HA C p (e :: es) a) (hdb : (x == ("__debug__" : Str)) = false := by decide) (he : starEach (e :: es) C.X.env = (false, eval e C.X.env) :: starEach es C.X.env := by rfl) (hpl : (backTo pos (starEach es C.X.env)).any (·.1) = false := by rfl) :
    HE C p (.Call (.Name x pp) (e :: es) [] pos) (sCall φ a) := by
  obtain ⟨f, fd, G, hm, hkp, hb⟩ := G.ex
  exact he_call G hk hg hm hkp hb ha hdb he hpl
theorem he_callSD {pr : Bool} {k i : Nat} {ps : List Str} {φ : FF} {x y : Str} {pp py pos : Pos} {es : List Expr} {a : NF} (G : Dn C.X.prog C.X.w C.X.K C.X.mg C.X.base x k ps (spS C.X.K φ)) (hk : k ≤ C.lv) (hg : Gl C.X x)
    (hy : PE C.X (.Name y py) (tVar i)) (ha : HA C pr es a) (hdb : (x == ("__debug__" : Str)) = false := by decide)
    (he : starEach (.Name y py :: es) C.X.env = (false, eval (.Name y py) C.X.env) :: starEach es C.X.env := by rfl) (hpl : (backTo pos (starEach es C.X.env)).any (·.1) = false := by rfl) :
    HE C false (.Call (.Name x pp) (.Name y py :: es) [] pos) (sCallS i φ a) := by
  obtain ⟨f, fd, G, hm, hkp, hb⟩ := G.ex
  exact he_callS G hk hg hm hkp hb hy ha hdb he hpl
theorem boot_len : bootBuiltins "len" = some (.builtin "len") := by decide +kernel
theorem boot_abs : bootBuiltins "abs" = some (.builtin "abs") := by decide +kernel
theorem boot_sum : bootBuiltins "sum" = some (.builtin "sum") := by decide +kernel
theorem boot_all : bootBuiltins "all" = some (.builtin "all") := by decide +kernel
theorem boot_any : bootBuiltins "any" = some (.builtin "any") := by decide +kernel
theorem boot_max : bootBuiltins "max" = some (.builtin "max") := by decide +kernel
theorem boot_min : bootBuiltins "min" = some (.builtin "min") := by decide +kernel
theorem boot_sorted : bootBuiltins "sorted" = some (.builtin "sorted") := by decide +kernel
theorem boot_int : bootBuiltins "int" = some (.type "int") := by decide +kernel
theorem boot_str : bootBuiltins "str" = some (.type "str") := by decide +kernel
theorem boot_bool : bootBuiltins "bool" = some (.type "bool") := by decide +kernel
theorem boot_list : bootBuiltins "list" = some (.type "list") := by decide +kernel
theorem boot_tuple : bootBuiltins "tuple" = some (.type "tuple") := by decide +kernel
theorem boot_dict : bootBuiltins "dict" = some (.type "dict") := by decide +kernel
end TL
set_option Elab.async false
set_option linter.all false
set_option maxRecDepth 100000
set_option maxHeartbeats 4000000
/-! Sets of tuples of any kind of datum, up to some twelve hundred members. -/
namespace TL
open PySem PySem.Spec PyProof.Rows L2

/-! ### masks: one round of x -> 5 x + 1 meets all places -/
def Mk (m : Nat) : Prop := m = 7 ∨ m = 31 ∨ m = 127 ∨ m = 511 ∨ m = 2047
def metBits (m : Nat) : Nat → Nat → Nat → Nat
  | 0, _, acc => acc
  | f + 1, x, acc => metBits m f ((x * 5 + 1) % (m + 1)) (acc ||| (1 <<< x))
theorem lcg_front (m x : Nat) : ∀ k, lcgI m x (k + 1) = lcgI m ((x * 5 + 1) % (m + 1)) k
  | 0 => rfl
  | k + 1 => by
    show (lcgI m x (k + 1) * 5 + 1) % (m + 1) = (lcgI m ((x * 5 + 1) % (m + 1)) k * 5 + 1) % (m + 1)
    rw [lcg_front m x k]
theorem lcg_plus (m x a : Nat) : ∀ k, lcgI m (lcgI m x a) k = lcgI m x (a + k)
  | 0 => rfl
  | k + 1 => by
    show (lcgI m (lcgI m x a) k * 5 + 1) % (m + 1) = (lcgI m x (a + k) * 5 + 1) % (m + 1)
    rw [lcg_plus m x a k]
theorem metBits_at {m j : Nat} : ∀ (f x acc : Nat), (metBits m f x acc).testBit j = true → acc.testBit j = true ∨ ∃ b, b < f ∧ lcgI m x b = j
  | 0, _, _, h => .inl h
  | f + 1, x, acc, h => by
    rcases metBits_at f _ _ h with g | ⟨b, hb, e⟩
    · rw [Nat.testBit_or, Bool.or_eq_true] at g
      rcases g with g | g
      · exact .inl g
      · refine .inr ⟨0, Nat.succ_pos _, ?_⟩
        rw [Nat.one_shiftLeft, Nat.testBit_two_pow] at g
        exact of_decide_eq_true g
    · exact .inr ⟨b + 1, Nat.succ_lt_succ hb, by rw [lcg_front]; exact e⟩
theorem mk_lap {m : Nat} (hm : Mk m) : metBits m (m + 1) 0 0 = 2 ^ (m + 1) - 1 ∧ lcgI m 0 (m + 1) = 0 := by
  rcases hm with e | e | e | e | e <;> subst e <;> exact ⟨by decide +kernel, by decide +kernel⟩
theorem mk_all {m : Nat} (hm : Mk m) {j : Nat} (hj : j ≤ m) : ∃ b, b ≤ m ∧ lcgI m 0 b = j := by
  have h : (metBits m (m + 1) 0 0).testBit j = true := by
    rw [(mk_lap hm).1, Nat.testBit_two_pow_sub_one]
    exact decide_eq_true (Nat.lt_succ_of_le hj)
  rcases metBits_at _ _ _ h with g | ⟨b, hb, e⟩
  · rw [Nat.zero_testBit] at g; cases g
  · exact ⟨b, Nat.le_of_lt_succ hb, e⟩
theorem mk_from {m : Nat} (hm : Mk m) {i j : Nat} (hi : i ≤ m) (hj : j ≤ m) : ∃ k, k ≤ m ∧ lcgI m i k = j := by
  obtain ⟨a, ha, ea⟩ := mk_all hm hi
  obtain ⟨b, hb, eb⟩ := mk_all hm hj
  subst ea
  by_cases c : a ≤ b
  · exact ⟨b - a, by omega, by rw [lcg_plus, Nat.add_sub_cancel' c]; exact eb⟩
  · refine ⟨b + (m + 1) - a, by omega, ?_⟩
    rw [lcg_plus, show a + (b + (m + 1) - a) = (m + 1) + b by omega, ← lcg_plus, (mk_lap hm).2]
    exact eb
theorem mk_odd {m : Nat} (h : Mk m) : m % 2 = 1 := by
  rcases h with e | e | e | e | e <;> subst e <;> decide
theorem mk_le {m : Nat} (h : Mk m) : m ≤ 2047 := by
  rcases h with e | e | e | e | e <;> omega
theorem mk_run {m : Nat} (hm : Mk m) (h : Int) {j : Nat} (hj : j ≤ m) : ∃ n, n ≤ m + 12 ∧ runI m (SetTable.bits h) n = j := by
  have ⟨k, hk, e⟩ := mk_from hm (runI_le m (SetTable.bits h) 12) hj
  refine ⟨12 + k, by omega, ?_⟩
  rw [runI_tail (bits_lt h)]
  exact e
theorem mk_way {m : Nat} (hm : Mk m) (h : Int) {j : Nat} (hj : j ≤ m) : ∃ k, k < 10 * SetTable.turns m ∧ way m h k = j := by
  have ⟨n, hn, e⟩ := mk_run hm h hj
  have ⟨k, hk, e2⟩ := run_nth m (SetTable.bits h) n
  refine ⟨k, by unfold SetTable.turns; omega, ?_⟩
  show (nth m (runAt m (SetTable.bits h % (m + 1)) (SetTable.bits h)) k).j = j
  rw [e2]
  exact e
theorem way_in {m : Nat} {h : Int} (k : Nat) : way m h k ≤ m := by
  have hi : SetTable.bits h % (m + 1) ≤ m := Nat.le_of_lt_succ (Nat.mod_lt _ (Nat.succ_pos _))
  have r := runEnd_bd hi
  have q := nth_in (m := m) k (runAt m (SetTable.bits h % (m + 1)) (SetTable.bits h)) (by
    dsimp only [runAt]
    omega)
  exact Nat.le_trans (Nat.le_add_right _ _) q

/-! ### tables -/
/-- K is the first step of the way of h that meets a free place -/
structure Fst (t : SetTable) (h : Int) (K : Nat) : Prop where
  out : way t.mask h K ∉ t.place.toList
  ins : ∀ k, k < K → way t.mask h k ∈ t.place.toList
/-- every member is found again by its hash -/
structure Tb (t : SetTable) (hs : List Int) : Prop where
  asc : Ris t.place.toList
  nod : t.dummies = #[]
  len : t.place.size = hs.length
  msk : Mk t.mask
  top : ∀ x ∈ t.place.toList, x ≤ t.mask
  back : ∀ (i : Nat) (h : Int) (j : Nat), hs[i]? = some h → t.place.toList[i]? = some j → ∃ k, way t.mask h k = j ∧ ∀ k', k' < k → way t.mask h k' ∈ t.place.toList
variable {t : SetTable} {hs : List Int}
theorem Tb.len' (T : Tb t hs) : t.place.toList.length = hs.length := by
  rw [Array.length_toList]; exact T.len
theorem Tb.fst (T : Tb t hs) (hl : hs.length ≤ t.mask) (h : Int) : ∃ K, K < 10 * SetTable.turns t.mask ∧ Fst t h K := by
  obtain ⟨j, hj, hn⟩ := st_missing t.place.toList (t.mask + 1) (by rw [T.len']; omega)
  obtain ⟨k, hk, e⟩ := mk_way T.msk h (Nat.le_of_lt_succ hj)
  obtain ⟨K, h1, h2, h3⟩ := st_least (p := fun k => way t.mask h k ∉ t.place.toList) k (show way t.mask h k ∉ t.place.toList from e ▸ hn)
  exact ⟨K, by omega, ⟨h2, fun k' hk' => Classical.not_not.mp (h3 k' hk')⟩⟩
theorem Tb.ahead (T : Tb t hs) {h : Int} {K i j : Nat} (F : Fst t h K) (hi : hs[i]? = some h) (hj : t.place.toList[i]? = some j) : ∃ k, k < K ∧ way t.mask h k = j := by
  obtain ⟨k, e, hb⟩ := T.back i h j hi hj
  refine ⟨k, ?_, e⟩
  rcases Nat.lt_or_ge k K with c | c
  · exact c
  · exfalso
    refine F.out ?_
    rcases Nat.eq_or_lt_of_le c with d | d
    · rw [d, e]; exact List.mem_of_getElem? hj
    · exact hb K d
theorem Tb.put (T : Tb t hs) {h : Int} {K j p : Nat} (F : Fst t h K) (ej : way t.mask h K = j) (ep : SetTable.below t.place j = p) :
    p ≤ hs.length ∧ Tb (t.put j).1 (hs.take p ++ h :: hs.drop p) ∧ (t.put j).1.fill = hs.length + 1 := by
  have hjm : j ≤ t.mask := ej ▸ way_in K
  have hout : j ∉ t.place.toList := ej ▸ F.out
  obtain ⟨c1, _, _⟩ := below_cut T.asc j
  rw [ep] at c1
  have hpl : p ≤ t.place.toList.length := c1
  have hph : p ≤ hs.length := T.len' ▸ hpl
  have hnp : t.place[SetTable.below t.place j]? ≠ some j := fun e => hout (List.mem_of_getElem? (by rw [Array.getElem?_toList]; exact e))
  have hpp := put_place t j
  rw [ep] at hpp
  have hsize : (t.put j).1.place.size = hs.length + 1 := by
    rw [← Array.length_toList, hpp, len_ins _ hpl, T.len']
  have up : ∀ x, x ∈ t.place.toList → x ∈ (t.put j).1.place.toList := fun x hx => by
    rw [hpp]; exact mem_ins.2 (.inr hx)
  have keep : ∀ (h' : Int) (j' : Nat), (∃ k, way t.mask h' k = j' ∧ ∀ k', k' < k → way t.mask h' k' ∈ t.place.toList) → ∃ k, way t.mask h' k = j' ∧ ∀ k', k' < k → way t.mask h' k' ∈ (t.put j).1.place.toList :=
    fun h' j' ⟨k, e, z⟩ => ⟨k, e, fun k' hk' => up _ (z k' hk')⟩
  refine ⟨hph, ⟨ris_insert T.asc hnp, put_dm T.nod j, by rw [len_ins _ hph]; exact hsize, T.msk, fun x hx => ?_, fun i h' j' h1 h2 => ?_⟩, ?_⟩
  · rw [hpp] at hx
    rcases mem_ins.1 hx with z | z
    · subst z; exact hjm
    · exact T.top x z
  · rw [tins_get hs hph] at h1
    rw [hpp, tins_get _ hpl] at h2
    rcases Nat.lt_trichotomy i p with c | c | c
    · rw [if_pos c] at h1 h2
      exact keep _ _ (T.back i h' j' h1 h2)
    · have c0 : ¬ i < p := by omega
      rw [if_neg c0, if_pos c] at h1 h2
      cases h1; cases h2
      exact keep _ _ ⟨K, ej, F.ins⟩
    · have c0 : ¬ i < p := by omega
      have c1 : ¬ i = p := by omega
      rw [if_neg c0, if_neg c1] at h1 h2
      exact keep _ _ (T.back (i - 1) h' j' h1 h2)
  · unfold SetTable.fill
    rw [hsize, put_dm T.nod j] <;> rfl

/-! ### a table laid anew -/
theorem lay_find {m : Nat} (hm : Mk m) (owner : Array (Option Nat)) (h : Int) {j : Nat} (hj : j ≤ m) (hf : oAt owner j = none) :
    ∃ K, SetTable.layClean.free m owner (SetTable.turns m) (SetTable.bits h % (m + 1)) (SetTable.bits h) = some (way m h K) ∧ oAt owner (way m h K) = none ∧ ∀ k, k < K → oAt owner (way m h k) ≠ none := by
  obtain ⟨n, hn, e⟩ := mk_run hm h hj
  have hw : way m h (off m (SetTable.bits h % (m + 1)) (SetTable.bits h) n) = j := by
    show (nth m (runAt m (SetTable.bits h % (m + 1)) (SetTable.bits h)) _).j = j
    rw [nth_off, itL_run]
    exact e
  obtain ⟨K, k1, k2, k3⟩ := st_least (p := fun k => oAt owner (way m h k) = none) _ (show oAt owner (way m h _) = none from hw.symm ▸ hf)
  refine ⟨K, free_spec m owner (SetTable.turns m) n _ _ K (by unfold SetTable.turns; omega) k1 (fun k hk => ?_) ?_, k2, k3⟩
  · exact Option.isNone_eq_false_iff.mpr (Option.isSome_iff_ne_none.mpr (k3 k hk))
  · exact Option.isNone_iff_eq_none.mpr k2
theorem lay_step {m : Nat} (hm : Mk m) {done : List Int} {owner : Array (Option Nat)} (W : L2.Own m done owner) (hl : done.length ≤ m) (h : Int) :
    ∃ j, SetTable.layClean.free m owner (SetTable.turns m) (SetTable.bits h % (m + 1)) (SetTable.bits h) = some j ∧ L2.Own m (done ++ [h]) (owner.setIfInBounds j (some done.length)) := by
  obtain ⟨ps, hps, hin⟩ := W.ps
  obtain ⟨j0, h0, hn0⟩ := st_missing ps (m + 1) (by omega)
  have hj0 : oAt owner j0 = none := Classical.byContradiction fun z => hn0 (hin j0 (Nat.le_of_lt_succ h0) z)
  obtain ⟨K, e1, e2, e3⟩ := lay_find hm owner h (Nat.le_of_lt_succ h0) hj0
  have hjm : way m h K ≤ m := way_in K
  generalize hj : way m h K = j at e1 e2 hjm
  have hself := oAt_set_self (some done.length) (show j < owner.size by rw [W.sz]; omega)
  have mono : ∀ i, oAt owner i ≠ none → oAt (owner.setIfInBounds j (some done.length)) i ≠ none := fun i hi => by
    by_cases c : i = j
    · rw [c, hself]; exact fun e => nomatch e
    · rw [oAt_set_ne _ c]; exact hi
  refine ⟨j, e1, ⟨by rw [Array.size_setIfInBounds]; exact W.sz, fun i k hi e => ?_, fun k hk => ?_, ⟨j :: ps, by simp [hps], fun i hi e => ?_⟩⟩⟩
  · by_cases c : i = j
    · rw [c, hself] at e
      cases e
      exact ⟨h, K, by simp, by rw [c]; exact hj, fun k' hk' => mono _ (e3 k' hk')⟩
    · rw [oAt_set_ne _ c] at e
      obtain ⟨h', K', a1, a2, a3⟩ := W.at_ i k hi e
      exact ⟨h', K', by rw [List.getElem?_append_left (List.getElem?_eq_some_iff.mp a1).1]; exact a1, a2, fun k' hk' => mono _ (a3 k' hk')⟩
  · rw [List.length_append, List.length_singleton] at hk
    rcases Nat.lt_or_ge k done.length with c | c
    · obtain ⟨i, hi, e⟩ := W.all k c
      exact ⟨i, hi, by rw [oAt_set_ne _ (fun z => by rw [z, e2] at e; cases e)]; exact e⟩
    · have ek : k = done.length := by omega
      subst ek
      exact ⟨j, hjm, hself⟩
  · by_cases c : i = j
    · rw [c]; exact List.mem_cons_self
    · rw [oAt_set_ne _ c] at e
      exact List.mem_cons_of_mem _ (hin i hi e)
theorem lay_fold {m : Nat} (hm : Mk m) : ∀ (rest done : List Int) (owner : Array (Option Nat)), L2.Own m done owner → done.length + rest.length ≤ m →
    ∃ owner', rest.foldl (stepF m) (some (owner, done.length)) = some (owner', (done ++ rest).length) ∧ L2.Own m (done ++ rest) owner'
  | [], done, owner, W, _ => by
    rw [List.append_nil]
    exact ⟨owner, rfl, W⟩
  | h :: rest, done, owner, W, hl => by
    rw [List.length_cons] at hl
    obtain ⟨j, e, W'⟩ := lay_step hm W (by omega) h
    have hl' : (done ++ [h]).length = done.length + 1 := by simp
    have ⟨owner', f, W2⟩ := lay_fold hm rest (done ++ [h]) _ W' (by omega)
    rw [hl'] at f
    rw [List.append_assoc, List.singleton_append] at f W2
    exact ⟨owner', by rw [List.foldl_cons, stepF_some e]; exact f, W2⟩
theorem lay_ok {m : Nat} (hm : Mk m) {hs : Array Int} (hn : hs.size ≤ m) : ∃ owner, SetTable.layClean m hs = some owner ∧ L2.Own m hs.toList owner := by
  have ⟨owner, f, W⟩ := lay_fold hm hs.toList [] _ (L2.Own.init m) (by rw [Array.length_toList]; show 0 + hs.size ≤ m; omega)
  rw [List.nil_append] at W f
  refine ⟨owner, ?_, W⟩
  rw [layClean_eq]
  exact congrArg (Option.map (·.1)) f
theorem lay_new (t : SetTable) {hs : Array Int} {wanted M : Nat} (hw : SetTable.sizeAbove wanted - 1 = M) (hM : Mk M) (hn : hs.size ≤ M) :
    ∃ t' order, t.relaid hs wanted = some (t', order) ∧ order.toList.Perm (List.range hs.size) ∧ Tb t' (order.toList.map fun i => hs.getD i 0) ∧ t'.mask = M ∧ t'.led = t.led ∧ t'.plain = t.plain := by
  obtain ⟨owner, e, W⟩ := lay_ok hM hn
  have hr : t.relaid hs wanted = some (tabOf t M owner, ((liveOf M owner).map (·.2)).toArray) := by
    rw [relaid_eq, hw, e] <;> rfl
  have ris := ris_live (fun j => owner.getD j none) (List.range (M + 1)) (by
    unfold Ris
    first | exact List.pairwise_lt_range | exact List.pairwise_lt_range _)
  have r1 : Ris ((liveOf M owner).map (·.1)) := ris.1
  have nd : ((liveOf M owner).map (·.1)).Nodup := List.Pairwise.imp (fun h => Nat.ne_of_lt h) r1
  have allk : ∀ k, k < hs.size → k ∈ (liveOf M owner).map (·.2) := fun k hk => by
    obtain ⟨j, b1, b2⟩ := W.all k (by rw [Array.length_toList]; exact hk)
    exact List.mem_map.mpr ⟨(j, k), (mem_live W.sz).2 ⟨b1, b2⟩, rfl⟩
  have hlen : (liveOf M owner).length = hs.size := by
    obtain ⟨ps, p1, p2⟩ := W.ps
    have up := nat_nodup_len ((liveOf M owner).map (·.1)) ps nd fun x hx => by
      obtain ⟨⟨y, k⟩, hq, rfl⟩ := List.mem_map.mp hx
      obtain ⟨b1, b2⟩ := (mem_live W.sz).1 hq
      exact p2 _ b1 (by rw [b2]; exact fun z => nomatch z)
    have lo := nat_nodup_len (List.range hs.size) ((liveOf M owner).map (·.2)) List.nodup_range fun k hk => allk k (List.mem_range.mp hk)
    have z : hs.toList.length = hs.size := rfl
    rw [List.length_map, p1] at up
    rw [List.length_map, List.length_range] at lo
    omega
  refine ⟨tabOf t M owner, ((liveOf M owner).map (·.2)).toArray, hr, perm_range hs.size _ (by simpa using hlen) (fun k hk => by simpa using allk k hk), ⟨r1, rfl, by simp [tabOf], hM, fun x hx => ?_, fun i h j h1 h2 => ?_⟩, rfl, rfl, rfl⟩
  · exact Nat.le_of_lt_succ (List.mem_range.mp (ris.2 x hx))
  · have h1' : (((liveOf M owner).map (·.2)).map fun i => hs.getD i 0)[i]? = some h := h1
    have h2' : ((liveOf M owner).map (·.1))[i]? = some j := h2
    rw [List.getElem?_map, List.getElem?_map] at h1'
    rw [List.getElem?_map] at h2'
    rcases hq : (liveOf M owner)[i]? with _ | ⟨y, k⟩
    · rw [hq] at h2'; cases h2'
    · rw [hq] at h1' h2'
      cases h2'
      obtain ⟨b1, b2⟩ := (mem_live W.sz).1 (List.mem_of_getElem? hq)
      obtain ⟨h0, K, a1, a2, a3⟩ := W.at_ _ k b1 b2
      have e0 : hs.getD k 0 = h0 := by
        rw [Array.getD_eq_getD_getElem?, ← Array.getElem?_toList, a1] <;> rfl
      have eh : hs.getD k 0 = h := Option.some.inj h1'
      rw [e0] at eh
      subst eh
      refine ⟨K, a2, fun k' hk' => ?_⟩
      obtain ⟨k2, z⟩ := Option.ne_none_iff_exists'.mp (a3 k' hk')
      exact List.mem_map.mpr ⟨(way M h0 k', k2), (mem_live W.sz).2 ⟨way_in k', z⟩, rfl⟩
end TL
set_option Elab.async false
set_option linter.all false
set_option maxRecDepth 100000
set_option maxHeartbeats 4000000
namespace TL
open PySem PySem.Spec PyProof.Rows L2 PySem.SeqAt

/-! ### keys of any depth up to eight -/
abbrev NKey := NestedKey
def KeyAt (h : Heap) (k : NKey) (a : Addr) : Prop := NestedIs h k (.ref a) ∧ k.depth ≤ 8
theorem KeyAt.stay {h h' : Heap} {k : NKey} {a : Addr} (x : KeyAt h k a) (hk : ∀ b o vs n, h.get? b = some o → o.data = .seq vs n → h'.get? b = some o) : KeyAt h' k a :=
  ⟨NestedIs.at hk k _ x.1, x.2⟩
theorem KeyAt.ext {h h' : Heap} {k : NKey} {a : Addr} (x : KeyAt h k a) (hk : ∀ b o, h.get? b = some o → h'.get? b = some o) : KeyAt h' k a := x.stay fun b o _ _ e _ => hk b o e
theorem KeyAt.one {h : Heap} {k k' : NKey} {a : Addr} (x : KeyAt h k a) (y : KeyAt h k' a) : k = k' := NestedIs.inj _ _ _ x.1 y.1
section
variable {P : Program} {w : World} {A : Around} {E : Value → Shared → Prop} {s : Shared}
theorem key_eq {x y : NKey} {a b : Addr} {Q : Bool → Shared → Prop} (hu : A.units + 8 < cLine) (hx : KeyAt s.heap x a) (hy : KeyAt s.heap y b) (h : Q (decide (x = y)) s) : wpAny (model P w) A (eqBool (.ref a) (.ref b)) Q E s :=
  (nestedKind P w).eqBool (E := E) hu hx hy h
theorem key_hash {k : NKey} {a : Addr} {Q : Int → Shared → Prop} (hu : A.units + 8 < cLine) (hx : KeyAt s.heap k a) (h : ∀ tk, Q (k.hash w) { s with toks := s.toks + tk }) : wpAny (model P w) A (pyHash (.ref a)) Q E s :=
  (nestedKind P w).pyHash (E := E) hu hx (h _)
theorem key_quiet {k : NKey} {a : Addr} {Q : Bool → Shared → Prop} (hx : KeyAt s.heap k a) (h : Q true s) : wpAny (model P w) A (eqIsQuiet 8 (.ref a)) Q E s :=
  (nestedKind P w).quiet (E := E) hx h

/-- not of a class statement, n levels down -/
def NoCls (P : Program) (w : World) (n : Nat) (s : Shared) (v : Value) : Prop := ∀ (A : Around) (E : Value → Shared → Prop) (Q : Bool → Shared → Prop), Q false s → wpAny (model P w) A (ofAClassStatement n v) Q E s
/-- one answer to: is it hashed by value -/
def ByVal (P : Program) (w : World) (n : Nat) (s : Shared) (v : Value) : Prop := ∃ b, ∀ (A : Around) (E : Value → Shared → Prop) (Q : Bool → Shared → Prop), Q b s → wpAny (model P w) A (hashByValue n v) Q E s
theorem NoCls.tup {n : Nat} {a : Addr} {o : Obj} {vs : Array Value} {m : Nat} (ho : s.heap.get? a = some o) (hc : o.cls = .type "tuple") (hd : o.data = .seq vs m) (hq : ∀ v ∈ vs.toList, NoCls P w n s v) : NoCls P w (n + 1) s (.ref a) := fun A E Q h => by
  have hT : s.TypeIs (.ref a) "tuple" := ⟨o, ho, hc⟩
  unfold ofAClassStatement
  refine wpAny_bind (wpAny_typeOf hT ?_)
  have e : (("tuple" : String) == "tuple") = true := by decide
  simp only [e, if_true, Bool.not_true, Bool.false_eq_true, if_false]
  try refine wpAny_bind (wpAny_pure ?_)
  try simp only [Bool.not_true, Bool.false_eq_true, if_false]
  refine wpAny_bind (wpAny_seqItems ho hd ?_)
  refine wpAny_bind ?_
  show wpAny _ _ (forIn vs _ _) _ _ s
  rw [← Array.forIn_toList]
  refine wpAny_forIn_list _ (fun l r s' => r.1 = none ∧ s' = s ∧ ∀ v ∈ l, NoCls P w n s v) _ ?_ ?_ _ _ ⟨rfl, rfl, hq⟩
  · rintro v l r s' ⟨hr, rfl, all⟩
    refine wpAny_bind (all v List.mem_cons_self _ _ _ ?_)
    simp only [Bool.false_eq_true, if_false]
    exact wpAny_pure ⟨rfl, rfl, fun u hu => all u (List.mem_cons_of_mem _ hu)⟩
  · rintro ⟨r1, r2⟩ s' ⟨hr, rfl, _⟩
    cases hr
    exact wpAny_pure h
theorem ByVal.tup {n : Nat} {a : Addr} {o : Obj} {vs : Array Value} {m : Nat} (ho : s.heap.get? a = some o) (hc : o.cls = .type "tuple") (hd : o.data = .seq vs m) (hq : ∀ v ∈ vs.toList, ByVal P w n s v) : ByVal P w (n + 1) s (.ref a) := by
  have hT : s.TypeIs (.ref a) "tuple" := ⟨o, ho, hc⟩
  have loop : ∀ (l : List Value), (∀ v ∈ l, ByVal P w n s v) → ∃ b : Bool, ∀ (A : Around) (E : Value → Shared → Prop) (Q : Option Bool × Unit → Shared → Prop), Q (if b = true then none else some false, ()) s →
      wpAny (model P w) A (forIn (m := Sem) l ((none, ()) : Option Bool × Unit) fun x (_ : Option Bool × Unit) => do
          if (!(← hashByValue n x)) = true then pure (ForInStep.done (some false, ()))
          else pure (ForInStep.yield (none, ()))) Q E s := by
    intro l
    induction l with
    | nil =>
      intro _
      refine ⟨true, fun A E Q h => ?_⟩
      rw [List.forIn_nil]
      exact wpAny_pure h
    | cons v l ih =>
      intro all
      obtain ⟨b, hb⟩ := all v List.mem_cons_self
      cases b with
      | false =>
        refine ⟨false, fun A E Q h => ?_⟩
        rw [List.forIn_cons]
        refine wpAny_bind (wpAny_bind (hb _ _ _ ?_))
        simp only [Bool.not_false, if_true]
        exact wpAny_pure (wpAny_pure h)
      | true =>
        obtain ⟨b2, h2⟩ := ih fun u hu => all u (List.mem_cons_of_mem _ hu)
        refine ⟨b2, fun A E Q h => ?_⟩
        rw [List.forIn_cons]
        refine wpAny_bind (wpAny_bind (hb _ _ _ ?_))
        simp only [Bool.not_true, Bool.false_eq_true, if_false]
        exact wpAny_pure (h2 A E Q h)
  obtain ⟨b, hb⟩ := loop vs.toList hq
  refine ⟨b, fun A E Q h => ?_⟩
  unfold hashByValue
  refine wpAny_bind (wpAny_specialOf hT F.slot_tuple_hash.lookup ?_)
  show wpAny _ _ (seqItems? (.ref a) >>= _) _ _ s
  refine wpAny_bind (wpAny_seqItems ho hd ?_)
  refine wpAny_bind ?_
  show wpAny _ _ (forIn vs _ _) _ _ s
  rw [← Array.forIn_toList]
  refine hb _ _ _ ?_
  cases b
  · exact wpAny_pure h
  · exact wpAny_pure h
mutual
theorem key_cls : ∀ (k : NKey) (v : Value) (n : Nat), NestedIs s.heap k v → k.depth ≤ n → NoCls P w n s v
  | .none, _, n, x, _ => by
    cases x
    exact fun A E Q h => by cases n <;> exact wpAny_pure h
  | .num i, _, n, x, _ => by
    cases x <;> exact fun A E Q h => by cases n <;> exact wpAny_pure h
  | .text y, _, n, x, _ => by
    cases x
    exact fun A E Q h => by cases n <;> exact wpAny_pure h
  | .tup ks, _, n, x, hn => by
    cases x with
    | tup hg hc hd hk =>
      simp only [NestedKey.depth] at hn
      obtain ⟨n, rfl⟩ : ∃ m, n = m + 1 := ⟨n - 1, by omega⟩
      exact .tup hg hc hd (keys_cls ks _ n hk (by omega))
theorem keys_cls : ∀ (ks : List NKey) (vs : List Value) (n : Nat), NestedAll s.heap ks vs → NestedKey.depthAll ks ≤ n → ∀ v ∈ vs, NoCls P w n s v
  | [], _, n, x, _, v, hv => by cases x; cases hv
  | k :: ks, _, n, x, hn, v, hv => by
    cases x with
    | cons x1 x2 =>
      simp only [NestedKey.depthAll] at hn
      rcases List.mem_cons.mp hv with e | hv
      · subst e; exact key_cls k _ n x1 (by omega)
      · exact keys_cls ks _ n x2 (by omega) v hv
end
mutual
theorem key_byv : ∀ (k : NKey) (v : Value) (n : Nat), NestedIs s.heap k v → k.depth ≤ n → ByVal P w n s v
  | .none, _, n, x, _ => by
    cases x
    exact ⟨true, fun A E Q h => by cases n <;> exact wpAny_pure h⟩
  | .num i, _, n, x, _ => by
    cases x <;> exact ⟨true, fun A E Q h => by cases n <;> exact wpAny_pure h⟩
  | .text y, _, n, x, _ => by
    cases x
    exact ⟨false, fun A E Q h => by cases n <;> exact wpAny_pure h⟩
  | .tup ks, _, n, x, hn => by
    cases x with
    | tup hg hc hd hk =>
      simp only [NestedKey.depth] at hn
      obtain ⟨n, rfl⟩ : ∃ m, n = m + 1 := ⟨n - 1, by omega⟩
      exact .tup hg hc hd (keys_byv ks _ n hk (by omega))
theorem keys_byv : ∀ (ks : List NKey) (vs : List Value) (n : Nat), NestedAll s.heap ks vs → NestedKey.depthAll ks ≤ n → ∀ v ∈ vs, ByVal P w n s v
  | [], _, n, x, _, v, hv => by cases x; cases hv
  | k :: ks, _, n, x, hn, v, hv => by
    cases x with
    | cons x1 x2 =>
      simp only [NestedKey.depthAll] at hn
      rcases List.mem_cons.mp hv with e | hv
      · subst e; exact key_byv k _ n x1 (by omega)
      · exact keys_byv ks _ n x2 (by omega) v hv
end
/-- a search among keys shows nothing -/
theorem key_seen {k : NKey} {b : Addr} {Q : Bool → Shared → Prop} (hk : KeyAt s.heap k b) {ys : List Value} (hy : ∀ y ∈ ys, ∃ k' c, y = Value.ref c ∧ KeyAt s.heap k' c) (h : Q false s) :
    wpAny (model P w) A (searchCouldBeSeen (.ref b) ys) Q E s := by
  unfold searchCouldBeSeen
  refine wpAny_bind ?_
  refine wpAny_forIn_list _ (fun l r s' => r.1 = none ∧ s' = s ∧ ∀ y ∈ l, ∃ k' c, y = Value.ref c ∧ KeyAt s.heap k' c) _ ?_ ?_ _ _ ⟨rfl, rfl, hy⟩
  · rintro v l r s' ⟨hr, rfl, all⟩
    obtain ⟨k', c, rfl, hc⟩ := all v List.mem_cons_self
    have more : ∀ y ∈ l, ∃ k' c, y = Value.ref c ∧ KeyAt s'.heap k' c := fun u hu => all u (List.mem_cons_of_mem _ hu)
    by_cases hv : (b == c || (carriedByValue (.ref b) && carriedByValue (.ref c))) = true
    · exact wp_if_pos hv (wpAny_pure ⟨rfl, rfl, more⟩)
    · refine wp_if_neg hv (wpAny_bind (key_quiet hk ?_))
      simp only [Bool.not_true, Bool.false_eq_true, if_false]
      refine wpAny_bind (key_quiet hc ?_)
      simp only [Bool.not_true, Bool.false_eq_true, if_false]
      refine wpAny_bind (key_cls _ _ 8 hk.1 hk.2 _ _ _ ?_)
      simp only [Bool.false_eq_true, if_false]
      refine wpAny_bind (key_cls _ _ 8 hc.1 hc.2 _ _ _ ?_)
      simp only [Bool.false_eq_true, if_false]
      exact wpAny_pure ⟨rfl, rfl, more⟩
  · rintro ⟨r1, r2⟩ s' ⟨hr, rfl, _⟩
    cases hr
    exact wpAny_pure h
end
end TL
set_option Elab.async false
set_option linter.all false
set_option maxRecDepth 100000
set_option maxHeartbeats 4000000
namespace TL
open PySem PySem.Spec PyProof.Rows L2 PySem.SeqAt

abbrev Mem := List (Addr × NKey)
def hashesOf (w : World) (L : Mem) : List Int := L.map fun p => NestedKey.hash w p.2
def entsOf (w : World) (L : Mem) : List (Int × Value) := L.map fun p => (NestedKey.hash w p.2, Value.ref p.1)
/-- at a stands a set with the members L, in the table's order -/
structure SetM (w : World) (h : Heap) (a : Addr) (L : Mem) (es : Array (Int × Value)) (ep : Nat) (t : SetTable) : Prop where
  ob : ∃ o, h.get? a = some o ∧ o.ExactSet ∧ o.data = .set es ep t
  ents : es.toList = entsOf w L
  tab : Tb t (hashesOf w L)
  diff : (L.map (·.2)).Nodup
  keys : ∀ p ∈ L, KeyAt h p.2 p.1
  led : w.params.followText "set-order" = true ∨ t.led = true
  room : L.length * 5 < t.mask * 3
section
variable {P : Program} {w : World} {A : Around} {E : Value → Shared → Prop} {s : Shared}
variable {a : Addr} {L : Mem} {es : Array (Int × Value)} {ep : Nat} {t : SetTable}
theorem ents_len (h : es.toList = entsOf w L) : es.size = L.length := by
  have q := congrArg List.length h
  unfold entsOf at q
  simpa using q
theorem SetM.fits (R : SetM w s.heap a L es ep t) : t.fits es.size = true := by
  have h1 := R.tab.len
  unfold hashesOf at h1
  rw [List.length_map] at h1
  have h2 := ents_len R.ents
  have h3 := R.room
  unfold SetTable.fits SetTable.fill
  rw [R.tab.nod, Bool.and_eq_true, beq_iff_eq, decide_eq_true_eq]
  refine ⟨by omega, ?_⟩
  show t.place.size + 0 ≤ t.mask
  omega
theorem SetM.few (R : SetM w s.heap a L es ep t) : L.length < 1229 := by
  have h1 := R.room
  have h2 := mk_le R.tab.msk
  omega
theorem SetM.ent (R : SetM w s.heap a L es ep t) {i : Nat} {p : Addr × NKey} (h : L[i]? = some p) : es[i]? = some (NestedKey.hash w p.2, Value.ref p.1) := by
  rw [← Array.getElem?_toList, R.ents]
  unfold entsOf
  rw [List.getElem?_map, h] <;> rfl
theorem SetM.plc (R : SetM w s.heap a L es ep t) : t.place.toList.length = L.length := by
  rw [R.tab.len']
  exact List.length_map _
theorem nth_clean (m : Nat) : ∀ (n : Nat) (p : SetTable.Probe), p.dummy = none → (nth m p n).dummy = none
  | 0, _, h => h
  | n + 1, p, h => nth_clean m n (adv m p) (by unfold adv; split <;> exact h)
/-- the first state of a search -/
abbrev go0 (m : Nat) (h : Int) : SetTable.Probe := runAt m (SetTable.bits h % (m + 1)) (SetTable.bits h)

/-- a search that stands at step c, the first free step being K -/
theorem seek (R : SetM w s.heap a L es ep t) {x : Addr} {k : NKey} (hx : KeyAt s.heap k x) (hu : A.units + 8 < cLine) {K : Nat} (hKf : K < 10 * SetTable.turns t.mask) (F : Fst t (k.hash w) K)
    {Q : SetFound → Shared → Prop} (hin : k ∈ L.map (·.2) → Q (.there none) s) (hout : k ∉ L.map (·.2) → Q (.free (way t.mask (k.hash w) K) false) s) :
    ∀ (f c : Nat) (stand : Option SetTable.Probe), stand.getD (t.probeStart (k.hash w)) = nth t.mask (go0 t.mask (k.hash w)) c → c ≤ K → K - c < f →
      (∀ (i : Nat) p, L[i]? = some p → p.2 = k → ∃ c', c ≤ c' ∧ c' < K ∧ t.place.toList[i]? = some (way t.mask (k.hash w) c')) →
      wpAny (model P w) A (setSearchFrom a (.ref x) (k.hash w) true f stand) Q E s
  | 0, _, _, _, _, hf, _ => absurd hf (Nat.not_lt_zero _)
  | f + 1, c, stand, hst, hc, hf, hre => by
    have ⟨o, ho, hex, hd⟩ := R.ob
    rw [setSearchFrom_succ]
    refine wpAny_bind (wpAny_setState_of ho hd R.fits ?_)
    refine wp_if_neg (by unfold SetTable.gaveWay; rw [mk_odd R.tab.msk]; decide) ?_
    try refine wpAny_bind (wpAny_pure ?_)
    have sh : ∀ q, nth t.mask (nth t.mask (go0 t.mask (k.hash w)) c) q = nth t.mask (go0 t.mask (k.hash w)) (c + q) := fun q => (nth_add t.mask c _ q).symm
    have wj : ∀ q, (nth t.mask (nth t.mask (go0 t.mask (k.hash w)) c) q).j = way t.mask (k.hash w) (c + q) := fun q => congrArg SetTable.Probe.j (sh q)
    have hcK : c + (K - c) = K := by omega
    have hat : ∀ (i : Nat) p, L[i]? = some p → (fun i => (es[i]?.map (·.1)).getD 0) i = p.2.hash w := fun i p hp => by
      dsimp only
      rw [R.ent hp] <;> rfl
    rcases go_spec t R.tab.asc R.tab.nod (fun i => (es[i]?.map (·.1)).getD 0) (k.hash w) (10 * SetTable.turns t.mask) (K - c) _ (nth_clean t.mask c (go0 t.mask (k.hash w)) rfl) (by omega)
      (fun q hq => by rw [wj]; exact F.ins (c + q) (by omega)) (by rw [wj, hcK]; exact F.out) with ⟨q, i, hq, hi, hh, hno, hpr⟩ | ⟨hno, hpr⟩
    · rw [wj, sh] at hpr
      rw [wj] at hi
      have hpr' : t.probe (fun i => (es[i]?.map (·.1)).getD 0) (k.hash w) (nth t.mask (go0 t.mask (k.hash w)) c) = _ := hpr
      rw [hst, hpr']
      have hil : i < L.length := R.plc ▸ (List.getElem?_eq_some_iff.mp hi).1
      obtain ⟨p, hp⟩ : ∃ p, L[i]? = some p := ⟨_, List.getElem?_eq_getElem hil⟩
      have hm : p ∈ L := List.mem_of_getElem? hp
      have hsl : t.slot (way t.mask (k.hash w) (c + q)) = .live i := slot_live R.tab.asc hi
      have fin : wpAny (model P w) A (searchRest a (.ref x) (k.hash w) true f es t (way t.mask (k.hash w) (c + q)) i (nth t.mask (go0 t.mask (k.hash w)) (c + (q + 1)))) Q E s := by
        unfold searchRest
        rw [R.ent hp]
        refine wpAny_bind (wpAny_holding (key_eq hu (R.keys p hm) hx ?_))
        refine wpAny_bind (wpAny_setState_of ho hd R.fits ?_)
        by_cases hkk : p.2 = k
        · exact wp_if_pos (by simp [hkk]) (wpAny_pure (hin (List.mem_map.mpr ⟨p, hm, hkk⟩)))
        · refine wp_if_neg (by simp [hkk]) ?_
          try refine wpAny_bind (wpAny_pure ?_)
          rw [sameMem]
          simp only [if_true, hsl, R.ent hp]
          refine wpAny_bind (wpAny_isSame_ref_self (wpAny_bind (wpAny_pure ?_)))
          simp only [if_true]
          refine wp_if_neg (by simp [hkk]) (seek R hx hu hKf F hin hout f (c + (q + 1)) _ rfl (by omega) (by omega) fun i0 p0 h0 hk0 => ?_)
          obtain ⟨c', a1, a2, a3⟩ := hre i0 p0 h0 hk0
          refine ⟨c', ?_, a2, a3⟩
          rcases Nat.lt_trichotomy c' (c + q) with z | z | z
          · exact absurd ((hat i0 p0 h0).trans (by rw [hk0])) (hno (c' - c) i0 (by omega) (by rw [wj, show c + (c' - c) = c' by omega]; exact a3))
          · exfalso
            subst z
            have s0 := slot_live R.tab.asc a3
            rw [hsl] at s0
            cases s0
            rw [hp] at h0
            cases h0
            exact hkk hk0
          · omega
      by_cases hl : t.led = true
      · refine wp_if_neg (by simp [hl]) ?_
        try refine wpAny_bind (wpAny_pure ?_)
        exact fin
      · refine wp_if_pos (by simp [hl]) (wpAny_bind (key_seen hx (fun y hy => ?_) (wp_if_neg (by decide) ?_)))
        · obtain ⟨e, he, ee⟩ := List.mem_map.mp hy
          have he1 : e ∈ es ∧ e.1 = k.hash w := by simpa using he
          have he2 : e ∈ es.toList := by simpa using he1.1
          rw [R.ents] at he2
          obtain ⟨p2, hp2, e2⟩ := List.mem_map.mp he2
          exact ⟨p2.2, p2.1, by rw [← ee, ← e2], R.keys p2 hp2⟩
        · try refine wpAny_bind (wpAny_pure ?_)
          exact fin
    · rw [wj, hcK] at hpr
      have hpr' : t.probe (fun i => (es[i]?.map (·.1)).getD 0) (k.hash w) (nth t.mask (go0 t.mask (k.hash w)) c) = _ := hpr
      rw [hst, hpr']
      refine wpAny_pure (hout fun hm => ?_)
      obtain ⟨p0, h0, hk0⟩ := List.mem_map.mp hm
      obtain ⟨i0, h00⟩ := List.getElem?_of_mem h0
      obtain ⟨c', a1, a2, a3⟩ := hre i0 p0 h00 hk0
      exact hno (c' - c) i0 (by omega) (by rw [wj, show c + (c' - c) = c' by omega]; exact a3) ((hat i0 p0 h00).trans (by rw [hk0]))
/-- the search that adding asks for -/
theorem seek0 (R : SetM w s.heap a L es ep t) {x : Addr} {k : NKey} (hx : KeyAt s.heap k x) (hu : A.units + 8 < cLine) {Q : SetFound → Shared → Prop}
    (hin : k ∈ L.map (·.2) → Q (.there none) s) (hout : ∀ K, k ∉ L.map (·.2) → Fst t (k.hash w) K → Q (.free (way t.mask (k.hash w) K) false) s) :
    wpAny (model P w) A (setSearch a (.ref x) (k.hash w) true) Q E s := by
  have hroom := R.room
  have hle := mk_le R.tab.msk
  obtain ⟨K, hKf, F⟩ := R.tab.fst (by unfold hashesOf; rw [List.length_map]; omega) (k.hash w)
  have hbig : K < 100000 := by unfold SetTable.turns at hKf; omega
  unfold setSearch
  refine seek R hx hu hKf F hin (fun hn => hout K hn F) 100000 0 none rfl (Nat.zero_le _) (by omega) fun i p hp hk => ?_
  have hil : i < t.place.toList.length := by
    rw [R.plc]
    exact (List.getElem?_eq_some_iff.mp hp).1
  obtain ⟨c, hc, e⟩ := R.tab.ahead F (i := i) (by unfold hashesOf; rw [List.getElem?_map, hp, ← hk] <;> rfl) (List.getElem?_eq_getElem hil)
  exact ⟨c, Nat.zero_le _, hc, by rw [List.getElem?_eq_getElem hil, e]⟩

/-! ### putting in -/
theorem key_same {h h' : Heap} {k : NKey} {a b : Addr} {o : Obj} (hb : KeyAt h k b) (ho : h.get? a = some o) (hd : o.data = .set es ep t) (hs : Heap.SameBut a h h') : KeyAt h' k b :=
  hb.stay fun c u vs n hc hdc => (hs.2 c (fun z => by
    subst z
    rw [ho] at hc
    cases hc
    rw [hd] at hdc
    cases hdc)).trans hc
theorem ents_order (L : Mem) (es : Array (Int × Value)) (order : Array Nat) (hr : es.toList = entsOf w L) (hp : order.toList.Perm (List.range L.length)) :
    ∃ L2, (order.filterMap (es[·]?)).toList = entsOf w L2 ∧ L2.Perm L ∧ hashesOf w L2 = order.toList.map fun i => (es.map (·.1)).getD i 0 := by
  have ent : ∀ (i : Nat) (p : Addr × NKey), L[i]? = some p → es[i]? = some (p.2.hash w, Value.ref p.1) := fun i p h => by
    rw [← Array.getElem?_toList, hr]
    unfold entsOf
    rw [List.getElem?_map, h] <;> rfl
  have key : ∀ l : List Nat, (∀ i ∈ l, i < L.length) → l.filterMap (fun i => es[i]?) = entsOf w (l.filterMap (fun i => L[i]?)) ∧ hashesOf w (l.filterMap (fun i => L[i]?)) = l.map fun i => (es.map (·.1)).getD i 0 := by
    intro l
    induction l with
    | nil => intro _; exact ⟨rfl, rfl⟩
    | cons i l ih =>
      intro hl
      obtain ⟨e1, e2⟩ := ih fun j hj => hl j (List.mem_cons_of_mem _ hj)
      have hi := List.getElem?_eq_getElem (hl i List.mem_cons_self)
      have he := ent i _ hi
      rw [List.filterMap_cons_some he, List.filterMap_cons_some hi, e1]
      refine ⟨rfl, ?_⟩
      show _ :: hashesOf w _ = _ :: _
      rw [e2]
      congr 1
      simp [Array.getD_eq_getD_getElem?, he]
  obtain ⟨e1, e2⟩ := key order.toList fun i hi => List.mem_range.mp (hp.mem_iff.mp hi)
  refine ⟨order.toList.filterMap (fun i => L[i]?), by first | (rw [Array.toList_filterMap]; exact e1) | simpa using e1, ?_, e2⟩
  refine (hp.filterMap (fun i => L[i]?)).trans (List.Perm.of_eq ?_)
  have all : ∀ n, n ≤ L.length → (List.range n).filterMap (fun i => L[i]?) = L.take n := by
    intro n
    induction n with
    | zero => intro _; rfl
    | succ n ih =>
      intro hn
      have hi := List.getElem?_eq_getElem (show n < L.length from hn)
      rw [List.range_succ, List.filterMap_append, ih (by omega), List.take_succ, hi, List.filterMap_cons_some hi] <;> rfl
  rw [all _ (Nat.le_refl _), List.take_length]
/-- the table grows -/
theorem regrow {o : Obj} (ho : s.heap.get? a = some o) (hex : o.ExactSet) (hd : o.data = .set es ep t) (hr : es.toList = entsOf w L) (T : Tb t (hashesOf w L)) (hfl : es.size ≤ t.mask)
    (nd : (L.map (·.2)).Nodup) (ky : ∀ p ∈ L, KeyAt s.heap p.2 p.1) (ld : w.params.followText "set-order" = true ∨ t.led = true) {wanted M : Nat}
    (hw : SetTable.sizeAbove wanted = M + 1) (hM : Mk M) (hn : L.length * 5 < M * 3) {Q : Unit → Shared → Prop}
    (hQ : ∀ h' L' es' ep' t', Heap.SameBut a s.heap h' → SetM w h' a L' es' ep' t' → L'.Perm L → Q () { s with heap := h' }) : wpAny (model P w) A (setRelay a wanted) Q E s := by
  have hsl := ents_len hr
  have hMl := mk_le hM
  have hT := T.len
  unfold hashesOf at hT
  rw [List.length_map] at hT
  have hfits : t.fits es.size = true := by
    unfold SetTable.fits SetTable.fill
    rw [T.nod, Bool.and_eq_true, beq_iff_eq, decide_eq_true_eq]
    exact ⟨by omega, (show t.place.size + 0 ≤ t.mask by omega)⟩
  obtain ⟨t', order, e, hp, T', em, el, _⟩ := lay_new t (hs := es.map (·.1)) (wanted := wanted) (by rw [hw]; rfl) hM (by rw [Array.size_map, hsl]; omega)
  rw [Array.size_map, hsl] at hp
  obtain ⟨L2, r1, r2, r3⟩ := ents_order L es order hr hp
  rw [← r3] at T'
  have hs2 : (order.filterMap (es[·]?)).size = es.size := (ents_len r1).trans (r2.length_eq.trans hsl.symm)
  rw [setRelay_eq]
  refine wpAny_bind (wpAny_setState_of ho hd hfits ?_)
  refine wp_if_neg (by rw [sizeLine_eq, hw]; omega) ?_
  try refine wpAny_bind (wpAny_pure ?_)
  rw [e]
  refine wpAny_bind ?_
  refine wp_if_neg (by rw [hs2]; simp) ?_
  try refine wpAny_bind (wpAny_pure ?_)
  refine wpAny_pure (wpAny_storeSet_of ho hd ?_ (by rw [hs2, hsl, sizeLine_eq]; omega))
  have sb : Heap.SameBut a s.heap (s.heap.update a (Obj.putSet (order.filterMap (es[·]?)) t')) := Heap.SameBut.update ..
  refine hQ _ L2 (order.filterMap (es[·]?)) (ep + 1) t' sb ⟨⟨_, store_at ho hd, ⟨hex.1, hex.2.1, hex.2.2⟩, rfl⟩, r1, T', (r2.map (·.2)).nodup_iff.mpr nd, fun p hpm => key_same (ky p (r2.mem_iff.mp hpm)) ho hd sb, by rw [el]; exact ld, by rw [r2.length_eq, em]; exact hn⟩ r2
theorem grow_7 : SetTable.sizeAbove (SetTable.grown 5) = 31 + 1 := by decide +kernel
theorem grow_31 : SetTable.sizeAbove (SetTable.grown 19) = 127 + 1 := by decide +kernel
theorem grow_127 : SetTable.sizeAbove (SetTable.grown 77) = 511 + 1 := by decide +kernel
theorem grow_511 : SetTable.sizeAbove (SetTable.grown 307) = 2047 + 1 := by decide +kernel
theorem Tb.flag {hs : List Int} {t : SetTable} (T : Tb t hs) (b : Bool) : Tb { t with plain := b } hs := ⟨T.asc, T.nod, T.len, T.msk, T.top, T.back⟩
/-- one more -/
theorem put_in (R : SetM w s.heap a L es ep t) {x : Addr} {k : NKey} (hx : KeyAt s.heap k x) (hu : A.units + 8 < cLine) (hfew : L.length + 1 < 1000) {Q : Bool → Shared → Prop}
    (hQ : ∀ b h' L' es' ep' t', Heap.SameBut a s.heap h' → SetM w h' a L' es' ep' t' → (k ∈ L.map (·.2) → L' = L) → (k ∉ L.map (·.2) → L'.Perm ((x, k) :: L)) → Q b { s with heap := h' }) :
    wpAny (model P w) A (setAddHashed a (.ref x) (k.hash w)) Q E s := by
  have ⟨o, ho, hex, hd⟩ := R.ob
  have hsl := ents_len R.ents
  have hroom := R.room
  unfold setAddHashed
  refine wpAny_holding ?_
  rw [show (100000 : Nat) = 99999 + 1 from rfl, setAddHashedIn_succ]
  refine wpAny_bind (wpAny_setState_of ho hd R.fits ?_)
  refine wp_if_neg (by simp [byScan, Value.scannable]) ?_
  try refine wpAny_bind (wpAny_pure ?_)
  refine wpAny_bind (seek0 R hx hu (fun hm => ?_) fun K hm F => ?_)
  · exact wpAny_pure (hQ false s.heap L es ep t (Heap.SameBut.refl a s.heap) R (fun _ => rfl) fun z => absurd hm z)
  · refine wpAny_bind (wpAny_setState_of ho hd R.fits ?_)
    obtain ⟨b, hb⟩ := key_byv (P := P) (w := w) k _ 8 hx.1 hx.2
    generalize hj : way t.mask (k.hash w) K = j
    generalize hpj : SetTable.below t.place j = p
    obtain ⟨q1, q2, q3⟩ := R.tab.put F hj hpj
    have q4 : (t.put j).1.mask = t.mask := rfl
    have q5 : (t.put j).1.led = t.led := rfl
    have q6 : (t.put j).2 = p := hpj
    have key : ∀ t1 : SetTable, Tb t1 ((hashesOf w L).take p ++ k.hash w :: (hashesOf w L).drop p) → t1.fill = (hashesOf w L).length + 1 → t1.mask = t.mask → t1.led = t.led →
        wpAny (model P w) A (do
          storeSet a (SetTable.insertAt es p (k.hash w, .ref x)) t1
          if (!false && t1.tooFull) = true then do
            setRelay a (SetTable.grown (es.size + 1))
            pure true
          else pure true) Q E s := by
      intro t1 T1 hfill hmask hled
      have hin : (SetTable.insertAt es p (k.hash w, Value.ref x)).toList = entsOf w (L.take p ++ (x, k) :: L.drop p) := by
        rw [SetTable.toList_insertAt, R.ents]
        unfold entsOf
        rw [List.map_append, List.map_cons, List.map_take, List.map_drop]
      have pm := put_perm L p (x, k)
      have hhs : hashesOf w (L.take p ++ (x, k) :: L.drop p) = (hashesOf w L).take p ++ k.hash w :: (hashesOf w L).drop p := by
        unfold hashesOf
        rw [List.map_append, List.map_cons, List.map_take, List.map_drop]
      rw [← hhs] at T1
      have hll : (hashesOf w L).length = L.length := List.length_map _
      rw [hll] at hfill
      generalize SetTable.insertAt es p (k.hash w, Value.ref x) = es1 at hin ⊢
      generalize L.take p ++ (x, k) :: L.drop p = L1 at pm T1 hin
      have hes := ents_len hin
      have hlen : L1.length = L.length + 1 := pm.length_eq
      have nd1 : (L1.map (·.2)).Nodup := (pm.map (·.2)).nodup_iff.mpr (List.nodup_cons.mpr ⟨hm, R.diff⟩)
      refine wpAny_bind (wpAny_storeSet_of ho hd ?_ (by rw [hes, hlen, sizeLine_eq]; omega))
      have sb : Heap.SameBut a s.heap (s.heap.update a (Obj.putSet es1 t1)) := Heap.SameBut.update ..
      have ho1 := store_at (es' := es1) (t' := t1) ho hd
      generalize s.heap.update a (Obj.putSet es1 t1) = h1 at sb ho1 ⊢
      have ky1 : ∀ q ∈ L1, KeyAt h1 q.2 q.1 := fun q hq => by
        rcases List.mem_cons.mp (pm.mem_iff.mp hq) with z | z
        · subst z; exact key_same hx ho hd sb
        · exact key_same (R.keys q z) ho hd sb
      have ld1 : w.params.followText "set-order" = true ∨ t1.led = true := hled ▸ R.led
      by_cases hf : t1.tooFull = true
      · refine wp_if_pos (by simp [hf]) ?_
        have hfull : (L.length + 1) * 5 ≥ t1.mask * 3 := by
          unfold SetTable.tooFull at hf
          rw [decide_eq_true_eq, hfill] at hf
          exact hf
        rw [hsl]
        rw [hmask] at hfull
        have go : ∀ M, SetTable.sizeAbove (SetTable.grown (L.length + 1)) = M + 1 → Mk M → (L.length + 1) * 5 < M * 3 →
            wpAny (model P w) A (setRelay a (SetTable.grown (L.length + 1)) >>= fun _ => pure true) Q E { s with heap := h1 } := fun M g1 g2 g3 => by
          refine wpAny_bind (regrow (s := { s with heap := h1 }) ho1 ⟨hex.1, hex.2.1, hex.2.2⟩ rfl hin T1 (by have := mk_le R.tab.msk; have : 7 ≤ t.mask := (by rcases R.tab.msk with e | e | e | e | e <;> omega); rw [hes, hlen, hmask]; omega) nd1 ky1 ld1 g1 g2 (by rw [hlen]; exact g3) fun h2 L2 es2 ep2 t2 sb2 R2 pm2 => ?_)
          exact wpAny_pure (hQ true h2 L2 es2 ep2 t2 (sb.trans sb2) R2 (fun z => absurd z hm) fun _ => pm2.trans pm)
        rcases R.tab.msk with e | e | e | e | e <;> rw [e] at hfull hroom
        · exact go 31 (by rw [show L.length + 1 = 5 by omega]; exact grow_7) (.inr (.inl rfl)) (by omega)
        · exact go 127 (by rw [show L.length + 1 = 19 by omega]; exact grow_31) (.inr (.inr (.inl rfl))) (by omega)
        · exact go 511 (by rw [show L.length + 1 = 77 by omega]; exact grow_127) (.inr (.inr (.inr (.inl rfl)))) (by omega)
        · exact go 2047 (by rw [show L.length + 1 = 307 by omega]; exact grow_511) (.inr (.inr (.inr (.inr rfl)))) (by omega)
        · omega
      · refine wp_if_neg (by simp [hf]) ?_
        refine wpAny_pure (hQ true h1 L1 es1 (ep + 1) t1 sb ⟨⟨_, ho1, ⟨hex.1, hex.2.1, hex.2.2⟩, rfl⟩, hin, T1, nd1, ky1, ld1, ?_⟩ (fun z => absurd z hm) fun _ => pm)
        unfold SetTable.tooFull at hf
        rw [decide_eq_true_eq, hfill] at hf
        omega
    subst hpj
    by_cases hpl : (t.put j).1.plain = true
    · refine wp_if_pos hpl (wpAny_bind (hb _ _ _ ?_))
      cases b
      · exact key { (t.put j).1 with plain := false } (q2.flag false) q3 q4 q5
      · exact key (t.put j).1 q2 q3 q4 q5
    · refine wp_if_neg hpl (wpAny_bind (wpAny_pure ?_))
      exact key (t.put j).1 q2 q3 q4 q5
end
end TL
set_option Elab.async false
set_option linter.all false
set_option maxRecDepth 100000
set_option maxHeartbeats 4000000
namespace TL
open PySem PySem.Spec PyProof.Rows L2 PySem.SeqAt

/-- what a set of the first i of ks holds -/
structure Gt (ks : Mem) (i : Nat) (L : Mem) : Prop where
  sub : ∀ p ∈ L, p ∈ ks.take i
  all : ∀ p ∈ ks.take i, p.2 ∈ L.map (·.2)
  len : L.length ≤ i
theorem Gt.zero (ks : Mem) : Gt ks 0 [] := ⟨fun p h => (nomatch h), fun p h => (by simp at h), Nat.le_refl _⟩
theorem take_up {α : Type} {l : List α} {i : Nat} {x y : α} (h : l[i]? = some x) : y ∈ l.take (i + 1) ↔ y ∈ l.take i ∨ y = x := by
  rw [List.take_succ, h]
  simp
theorem Gt.same {ks L : Mem} {i : Nat} {x : Addr × NKey} (g : Gt ks i L) (h : ks[i]? = some x) (hm : x.2 ∈ L.map (·.2)) : Gt ks (i + 1) L :=
  ⟨fun p hp => (take_up h).2 (.inl (g.sub p hp)), fun p hp => by
    rcases (take_up h).1 hp with z | z
    · exact g.all p z
    · subst z; exact hm, Nat.le_succ_of_le g.len⟩
theorem Gt.more {ks L L' : Mem} {i : Nat} {x : Addr × NKey} (g : Gt ks i L) (h : ks[i]? = some x) (pm : L'.Perm (x :: L)) : Gt ks (i + 1) L' :=
  ⟨fun p hp => by
    rcases List.mem_cons.mp (pm.mem_iff.mp hp) with z | z
    · exact (take_up h).2 (.inr z)
    · exact (take_up h).2 (.inl (g.sub p z)), fun p hp => by
    rw [(pm.map (·.2)).mem_iff, List.map_cons]
    rcases (take_up h).1 hp with z | z
    · exact List.mem_cons_of_mem _ (g.all p z)
    · subst z; exact List.mem_cons_self, by rw [pm.length_eq, List.length_cons]; exact Nat.succ_le_succ g.len⟩
def Up (h h' : Heap) : Prop := ∀ b o, h.get? b = some o → h'.get? b = some o
section
variable {P : Program} {w : World} {A : Around} {E : Value → Shared → Prop} {s : Shared}
theorem SetM.up {h h' : Heap} {a : Addr} {L : Mem} {es : Array (Int × Value)} {ep : Nat} {t : SetTable} (R : SetM w h a L es ep t) (ha : ∀ o, h.get? a = some o → h'.get? a = some o) (ht : ∀ p ∈ L, KeyAt h' p.2 p.1) : SetM w h' a L es ep t := by
  have ⟨o, ho, r⟩ := R.ob
  exact ⟨⟨o, ha o ho, r⟩, R.ents, R.tab, R.diff, ht, R.led, R.room⟩
/-- the set just made -/
theorem SetM.new {h : Heap} {a : Addr} (ho : h.get? a = some { cls := .type "set", dict := none, data := .set #[] 0 (.fresh 0 0 (!w.params.followText "set-order")) }) : SetM w h a [] #[] 0 (.fresh 0 0 (!w.params.followText "set-order")) where
  ob := ⟨_, ho, ⟨rfl, rfl, rfl⟩, rfl⟩
  ents := rfl
  tab := ⟨List.Pairwise.nil, rfl, rfl, .inl rfl, fun x hx => (nomatch hx), fun i h j hi => (by simp [hashesOf] at hi)⟩
  diff := List.nodup_nil
  keys := fun p hp => nomatch hp
  led := by
    show _ ∨ (!w.params.followText "set-order") = true
    cases w.params.followText "set-order"
    · exact .inr rfl
    · exact .inl rfl
  room := (by decide : 0 * 5 < 7 * 3)

/-- set.update's loop over a walk -/
theorem upd_walk {I : Addr} {fp wr : List Addr} {n : Nat} {Pv : Nat → Value → Prop} {St : Nat → Heap → Prop} {R : Result → Shared → Prop}
    (W : Walks P w A.in1 I fp wr n Pv St) (S : Addr) (hSf : S ∉ fp) (ks : Mem) (hn : n = ks.length) (hfew : ks.length < 1000) (hval : ∀ i v, Pv i v → ∃ p, ks[i]? = some p ∧ v = .ref p.1)
    (h0 : Heap) (hk : ∀ p ∈ ks, KeyAt h0 p.2 p.1) (hS0 : h0.get? S = none) (hw0 : ∀ b ∈ wr, h0.get? b = none) (hu : A.in1.units + 8 < cLine) :
    ∀ (k i : Nat) (s : Shared), n - i = k → i ≤ n → St i s.heap → Up h0 s.heap → (∃ L es ep t, SetM w s.heap S L es ep t ∧ Gt ks i L) →
      (∀ h' tk L es ep t, SetM w h' S L es ep t → Gt ks n L → Up h0 h' → R (.ok (.ret .none)) { s with heap := h', toks := tk }) →
      codeAny (model P w) A (.builtin "set.update.loop" ⟨[.ref S, .ref I], []⟩) R s := by
  have hSw : S ∉ wr := fun h => hSf (W.sub _ h)
  have up : ∀ {h h' : Heap}, Up h0 h → (∀ b o, b ∉ wr → h.get? b = some o → h'.get? b = some o) → Up h0 h' := fun u hm b o e =>
    hm b o (fun hb => by rw [hw0 b hb] at e; cases e) (u b o e)
  have sub : ∀ {i : Nat} {L : Mem}, Gt ks i L → ∀ p ∈ L, p ∈ ks := fun g p hp => List.mem_of_mem_take (g.sub p hp)
  intro k
  induction k with
  | zero =>
    intro i s hk' hi hst hu0 ⟨L, es, ep, t, hS, g⟩ hR
    have hin : i = n := by omega
    subst hin
    refine codeAny_builtin F.entry_set_update_loop ?_
    rw [Around.under_plainId F.plain_set_update_loop _]
    show wpAny _ A.in1 (pyNext (.ref I) >>= _) _ _ s
    refine wpAny_bind (W.done s _ _ hst fun h' tk hm => ?_)
    have u' := up hu0 hm
    exact wpAny_pure (hR h' tk L es ep t (hS.up (fun o e => hm S o hSw e) fun p hp => (hk p (sub g p hp)).ext u') g u')
  | succ k ih =>
    intro i s hk' hi hst hu0 ⟨L, es, ep, t, hS, g⟩ hR
    have hlt : i < n := by omega
    refine codeAny_builtin F.entry_set_update_loop ?_
    rw [Around.under_plainId F.plain_set_update_loop _]
    show wpAny _ A.in1 (pyNext (.ref I) >>= _) _ _ s
    refine wpAny_bind (W.item i s _ _ hlt hst fun v h' tk hP hst' hm => ?_)
    obtain ⟨p, hp, rfl⟩ := hval i v hP
    have u' := up hu0 hm
    have hS' : SetM w h' S L es ep t := hS.up (fun o e => hm S o hSw e) fun q hq => (hk q (sub g q hq)).ext u'
    have hx : KeyAt h' p.2 p.1 := (hk p (List.mem_of_getElem? hp)).ext u'
    show wpAny _ A.in1 (holding [Value.ref p.1] (setAdd S (.ref p.1)) >>= _) _ _ _
    refine wpAny_bind (wpAny_holding ?_)
    unfold setAdd
    refine wpAny_holding ?_
    refine wpAny_bind (key_hash hu (s := { s with heap := h', toks := tk }) hx fun tk2 => ?_)
    refine put_in (s := { s with heap := h', toks := tk + tk2 }) hS' hx hu (by have := g.len; omega) fun b h2 L' es' ep' t' hsb hS2 c1 c2 => ?_
    have g' : Gt ks (i + 1) L' := by
      by_cases c : p.2 ∈ L.map (·.2)
      · rw [c1 c]; exact g.same hp c
      · exact g.more hp (c2 c)
    have u2 : Up h0 h2 := fun b o e => (hsb.2 b (fun z => by rw [z, hS0] at e; cases e)).trans (u' b o e)
    refine wpAny_pure ⟨plainId_quiet F.plain_set_update_loop _, ih (i + 1) _ (by omega) hlt (W.frame _ h' h2 hst' fun b hb o e => ?_) u2 ⟨L', es', ep', t', hS2, g'⟩ fun h3 tk3 L2 es2 ep2 t2 hS3 g3 u3 => ?_⟩
    · exact (hsb.2 b (fun z : b = S => hSf (z ▸ hb))).trans e
    · exact hR h3 tk3 L2 es2 ep2 t2 hS3 g3 u3

/-- something that is walked over item by item: a list or a tuple -/
structure Src (P : Program) (w : World) (h : Heap) (l : Addr) (its : Array Value) where
  T : String
  ty : ∃ o, h.get? l = some o ∧ o.cls = .type T
  ns : isSubtype (.type T) (.type "set") = pure false
  nf : isSubtype (.type T) (.type "frozenset") = pure false
  nd : (Value.type T == Value.type "dict") = false
  St : Addr → Nat → Heap → Prop
  iter : ∀ (A : Around) (E : Value → Shared → Prop) (Q : Value → Shared → Prop) (s' : Shared), Up h s'.heap → (∀ o', St s'.heap.objs.size 0 (s'.heap.push o') → Q (.ref s'.heap.objs.size) { s' with heap := s'.heap.push o' }) → wpAny (model P w) A (pyIter (.ref l)) Q E s'
  walk : ∀ (A : Around), A.handled = none → ∀ I, l ≠ I → Walks P w A I [I, l] [I] its.size (fun i v => its[i]? = some v) (St I)
def srcL {h : Heap} {l : Addr} {its : Array Value} (hl : h.IsList l its) : Src P w h l its where
  T := "list"
  ty := let ⟨o, ho, hc, _⟩ := hl; ⟨o, ho, hc⟩
  ns := F.sub_list_set
  nf := F.sub_list_frozenset
  nd := by decide
  St := fun I i h => h.IsListIter I l i ∧ h.IsList l its
  iter := fun A E Q s' u q => by
    obtain ⟨o, ho, r⟩ := hl
    have hl' : s'.heap.IsList l its := ⟨o, u _ _ ho, r⟩
    exact wpAny_pyIter_list hl' (q _ ⟨⟨_, Heap.get?_push_size _ rfl, rfl, rfl⟩, hl'.push _⟩)
  walk := fun A hh I hne => Walks.list hh I l hne its
def srcT {h : Heap} {l : Addr} {its : Array Value} (hl : h.IsTuple l its) : Src P w h l its where
  T := "tuple"
  ty := let ⟨o, ho, hc, _⟩ := hl; ⟨o, ho, hc⟩
  ns := F.sub_tuple_set
  nf := F.sub_tuple_frozenset
  nd := by decide
  St := fun I i h => h.IsTupleIter I l i ∧ h.IsTuple l its
  iter := fun A E Q s' u q => by
    obtain ⟨o, ho, r⟩ := hl
    have hl' : s'.heap.IsTuple l its := ⟨o, u _ _ ho, r⟩
    exact wpAny_pyIter_tuple hl' (q _ ⟨⟨_, Heap.get?_push_size _ rfl, rfl, rfl⟩, hl'.push _⟩)
  walk := fun A hh I hne => Walks.tuple hh I l hne its

/-- set(xs) -/
theorem call_setM {l : Addr} {its : Array Value} (X : Src P w s.heap l its) (ks : Mem) {Q : Value → Shared → Prop} (hh : A.handled = none) (hit : its.toList = ks.map fun p => Value.ref p.1)
    (hk : ∀ p ∈ ks, KeyAt s.heap p.2 p.1) (hfew : ks.length < 1000) (hu : A.units + 16 < cLine)
    (h : ∀ (h' : Heap) (tk : Nat) L es ep t, SetM w h' s.heap.objs.size L es ep t → Gt ks ks.length L → Up s.heap h' → Q (.ref s.heap.objs.size) { s with heap := h', toks := tk }) :
    wpAny (model P w) A (call (.type "set") [.ref l]) Q E s := by
  have hisz : its.size = ks.length := by
    have q := congrArg List.length hit
    simpa using q
  obtain ⟨c, tl, hmro⟩ := F.called_set.mro
  have hmade := F.called_set.made
  have hsub := F.called_set.sub
  refine wpAny_call (codeAny_of_tree ?_)
  show wpAny _ _ (callAny (.type "set") _) _ _ _
  refine wpAny_pure ⟨Code.quiet_builtin _ (by decide +kernel), codeAny_builtin F.entry_type_call ?_⟩
  rw [Around.under_plain (weight_type_call_type "set" [.ref l] []) rfl]
  have h1 := F.called_set.notType
  have h2 := F.called_set.canCreate
  have hct := F.typeCall_set_1 (.ref l)
  repeat (any_goals (first | assumption | wp_step))
  generalize hob : ({ cls := .type "set", dict := none, data := .set #[] 0 (.fresh 0 0 (!w.params.followText "set-order")) } : Obj) = ob
  refine codeAny_mono (code_set_led1 (.ref l) (E := E) (Q₁ := fun obj s₁ => obj = .ref s.heap.objs.size ∧ s₁ = { s with heap := s.heap.push ob }) (by rw [← hob]; exact ⟨rfl, rfl⟩)) fun r s₁ hr => ?_
  rcases r with e | fl
  · exact hr
  cases fl with
  | next => exact hr.elim
  | brk => exact hr.elim
  | cont => exact hr.elim
  | ret obj =>
  obtain ⟨rfl, rfl⟩ := hr
  have hS : (s.heap.push ob).get? s.heap.objs.size = some ob := Heap.get?_push_size _ (by rw [← hob]; rfl)
  have hT : Shared.TypeIs { s with heap := s.heap.push ob } (.ref s.heap.objs.size) "set" := ⟨_, hS, by rw [← hob]⟩
  have hli := F.called_set.init.lookup
  have hbi := F.called_set.init.bind (.ref s.heap.objs.size)
  repeat (any_goals (first | assumption | wp_step))
  refine codeAny_mono (codeAny_call_builtin (R := wants (fun r s₂ => r = .none ∧ ∃ h' tk L es ep t, s₂ = { s with heap := h', toks := tk } ∧ SetM w h' s.heap.objs.size L es ep t ∧ Gt ks ks.length L ∧ Up s.heap h') E)
      F.called_set.init.plain F.entry_set_init (check_set_init_1 hT ?_)) fun r₂ s₂ hr₂ => ?_
  · have hlS : l < s.heap.objs.size := let ⟨o, ho, _⟩ := X.ty; Heap.lt_size ho
    have u1 : Up s.heap (s.heap.push ob) := fun b o e => Heap.get?_push_of_some _ e
    have hTl : Shared.TypeIs { s with heap := s.heap.push ob } (.ref l) X.T := let ⟨o, ho, hc⟩ := X.ty; ⟨o, u1 _ _ ho, hc⟩
    have hsls := X.ns
    have hslf := X.nf
    have hne := X.nd
    have none_of : ∀ b, s.heap.objs.size ≤ b → s.heap.get? b = none := fun b hb => by
      cases q : s.heap.get? b with
      | none => rfl
      | some o => exact absurd (Heap.lt_size q) (Nat.not_lt.mpr hb)
    subst hob
    unfold Builtin.«set.__init__» noKeywords Builtin.Frozenset.updateFrom
    generalize hPI : pyIter = PI
    wp_walk
    subst hPI
    have hz1 : (s.heap.push { cls := .type "set", dict := none, data := .set #[] 0 (.fresh 0 0 (!w.params.followText "set-order")) }).objs.size = s.heap.objs.size + 1 := Heap.size_push ..
    refine X.iter _ _ _ _ u1 fun it hst0 => ?_
    refine wpAny_bind (wpAny_runValue ?_)
    have hval : ∀ (i : Nat) (v : Value), its[i]? = some v → ∃ p, ks[i]? = some p ∧ v = .ref p.1 := fun i v hv => by
      rw [← Array.getElem?_toList, hit, List.getElem?_map] at hv
      cases hq : ks[i]? with
      | none => rw [hq] at hv; cases hv
      | some p => rw [hq] at hv; exact ⟨p, rfl, (Option.some.inj hv).symm⟩
    have u2 : Up s.heap ((s.heap.push { cls := .type "set", dict := none, data := .set #[] 0 (.fresh 0 0 (!w.params.followText "set-order")) }).push it) := fun b o e => Heap.get?_push_of_some _ (u1 b o e)
    have hn1 : s.heap.objs.size ≠ s.heap.objs.size + 1 := by omega
    have hn2 : s.heap.objs.size ≠ l := Nat.ne_of_gt hlS
    rw [hz1] at hst0
    show codeAny _ _ (.builtin "set.update.loop" ⟨[.ref s.heap.objs.size, .ref (s.heap.push { cls := .type "set", dict := none, data := .set #[] 0 (.fresh 0 0 (!w.params.followText "set-order")) }).objs.size], []⟩) _ _
    rw [hz1]
    refine upd_walk (X.walk _ (by simp [hh]) (s.heap.objs.size + 1) (Nat.ne_of_lt (Nat.lt_succ_of_lt hlS))) s.heap.objs.size (by
        simp only [List.mem_cons, List.not_mem_nil, or_false, not_or]
        exact ⟨hn1, hn2⟩) ks hisz hfew hval s.heap hk (none_of _ (Nat.le_refl _)) (fun b hb => none_of b (by
        rw [List.mem_singleton.mp hb]
        exact Nat.le_succ _)) (by simp only [Around.in1_units] at hu ⊢; omega) (its.size - 0) 0 _ rfl (Nat.zero_le _) hst0 u2
      ⟨[], #[], 0, _, SetM.new (Heap.get?_push_of_some _ hS), Gt.zero ks⟩ fun h' tk L es ep t R g u => ?_
    refine wpAny_pure ?_
    show wpAny _ _ (ret Value.none) _ _ _
    rw [hisz] at g
    exact wpAny_pure ⟨rfl, h', tk, L, es, ep, t, rfl, R, g, u⟩
  · rcases r₂ with e | fl₂
    · exact hr₂
    cases fl₂ with
    | next => exact hr₂.elim
    | brk => exact hr₂.elim
    | cont => exact hr₂.elim
    | ret r =>
    obtain ⟨rfl, h', tk, L, es, ep, t, rfl, R, g, u⟩ := hr₂
    repeat (any_goals (first | assumption | wp_step))
    exact h _ _ _ _ _ _ R g u
end
end TL
set_option Elab.async false
set_option linter.all false
set_option maxRecDepth 100000
set_option maxHeartbeats 4000000
namespace TL
open PySem PySem.Spec PyProof.Rows L2 PySem.SeqAt

/-! ### the order of keys -/
def rkK : NKey → Nat
  | .none => 0
  | .num _ => 1
  | .text _ => 2
  | .tup _ => 3
def ltN (a b : Int) : Bool := decide (a < b)
def ltT (x y : Str) : Bool := decide (x.cps.toList < y.cps.toList)
mutual
def ltK : NKey → NKey → Bool
  | .num a, .num b => ltN a b
  | .text x, .text y => ltT x y
  | .tup xs, .tup ys => ltKs xs ys
  | .none, .none | .num _, .none | .text _, .none | .tup _, .none | .text _, .num _ | .tup _, .num _ | .tup _, .text _ => false
  | .none, .num _ | .none, .text _ | .none, .tup _ | .num _, .text _ | .num _, .tup _ | .text _, .tup _ => true
def ltKs : List NKey → List NKey → Bool
  | [], [] => false
  | [], _ :: _ => true
  | _ :: _, [] => false
  | x :: xs, y :: ys => if NestedKey.beq x y = true then ltKs xs ys else ltK x y
end
theorem beqK {x y : NKey} : NestedKey.beq x y = true ↔ x = y := ⟨NestedKey.eq_of_beq x y, fun e => e ▸ NestedKey.beq_self x⟩
theorem ltKs_cons {x y : NKey} {xs ys : List NKey} : ltKs (x :: xs) (y :: ys) = if x = y then ltKs xs ys else ltK x y := by
  rw [ltKs]
  by_cases c : x = y
  · rw [if_pos (beqK.2 c), if_pos c]
  · rw [if_neg (fun z => c (beqK.1 z)), if_neg c]
theorem ltT_asym {x y : Str} (h : ltT x y = true) : ltT y x = false := by
  cases e : ltT y x with
  | false => rfl
  | true =>
    have q := strKind.trans x.cps.toList y.cps.toList x.cps.toList h e
    rw [strKind.irrefl] at q
    cases q
theorem ltT_neg {x y z : Str} (h1 : ltT y x = false) (h2 : ltT z y = false) : ltT z x = false := by
  cases e : ltT z x with
  | false => rfl
  | true =>
    rcases strKind.negTrans z.cps.toList y.cps.toList x.cps.toList e with q | q
    · exact absurd (h2.symm.trans q) Bool.false_ne_true
    · exact absurd (h1.symm.trans q) Bool.false_ne_true
theorem ltT_tot {x y : Str} (h1 : ltT x y = false) (h2 : ltT y x = false) : x = y := by
  have q : x.cps.toList = y.cps.toList := strKind.total _ _ h1 h2
  have c : x.cps = y.cps := Array.toList_inj.mp q
  cases x; cases y
  simp only [Str.mk.injEq]
  exact c
mutual
theorem ltK_asym : ∀ x y : NKey, ltK x y = true → ltK y x = false
  | .num a, y, h => by
    cases y with
    | num b =>
      simp only [ltK, ltN, decide_eq_true_eq, decide_eq_false_iff_not] at h ⊢
      omega
    | _ => revert h; simp [ltK]
  | .text x, y, h => by
    cases y with
    | text y => simp only [ltK] at h ⊢; exact ltT_asym h
    | _ => revert h; simp [ltK]
  | .tup xs, y, h => by
    cases y with
    | tup ys => simp only [ltK] at h ⊢; exact ltKs_asym xs ys h
    | _ => revert h; simp [ltK]
  | .none, y, h => by cases y <;> first | rfl | (simp [ltK] at h)
theorem ltKs_asym : ∀ xs ys : List NKey, ltKs xs ys = true → ltKs ys xs = false
  | [], [], h => by simp [ltKs] at h
  | [], _ :: _, h => rfl
  | _ :: _, [], h => by simp [ltKs] at h
  | x :: xs, y :: ys, h => by
    rw [ltKs_cons] at h ⊢
    by_cases c : x = y
    · rw [if_pos c] at h
      rw [if_pos c.symm]
      exact ltKs_asym xs ys h
    · rw [if_neg c] at h
      rw [if_neg (Ne.symm c)]
      exact ltK_asym x y h
end
mutual
theorem ltK_tot : ∀ x y : NKey, ltK x y = false → ltK y x = false → x = y
  | .num a, y, h, k => by
    cases y with
    | num b =>
      simp only [ltK, ltN, decide_eq_false_iff_not] at h k
      have e : a = b := by omega
      rw [e]
    | _ => revert h k; simp [ltK]
  | .text x, y, h, k => by
    cases y with
    | text y => simp only [ltK] at h k; rw [ltT_tot h k]
    | _ => revert h k; simp [ltK]
  | .tup xs, y, h, k => by
    cases y with
    | tup ys => simp only [ltK] at h k; rw [ltKs_tot xs ys h k]
    | _ => revert h k; simp [ltK]
  | .none, y, h, k => by cases y <;> first | rfl | (revert h k; simp [ltK])
theorem ltKs_tot : ∀ xs ys : List NKey, ltKs xs ys = false → ltKs ys xs = false → xs = ys
  | [], [], _, _ => rfl
  | [], _ :: _, h, _ => by simp [ltKs] at h
  | _ :: _, [], _, k => by simp [ltKs] at k
  | x :: xs, y :: ys, h, k => by
    rw [ltKs_cons] at h k
    by_cases c : x = y
    · rw [if_pos c] at h
      rw [if_pos c.symm] at k
      rw [c, ltKs_tot xs ys h k]
    · rw [if_neg c] at h
      rw [if_neg (Ne.symm c)] at k
      exact absurd (ltK_tot x y h k) c
end
mutual
theorem ltK_trans : ∀ x y z : NKey, ltK x y = true → ltK y z = true → ltK x z = true
  | .num a, y, z, h, k => by
    cases y with
    | num b =>
      cases z with
      | num c =>
        simp only [ltK, ltN, decide_eq_true_eq] at h k ⊢
        omega
      | _ => revert h k; simp [ltK]
    | _ => cases z <;> revert h k <;> simp [ltK]
  | .text x, y, z, h, k => by
    cases y with
    | text y =>
      cases z with
      | text z => simp only [ltK] at h k ⊢; exact strKind.trans _ _ _ h k
      | _ => revert h k; simp [ltK]
    | _ => cases z <;> revert h k <;> simp [ltK]
  | .tup xs, y, z, h, k => by
    cases y with
    | tup ys =>
      cases z with
      | tup zs => simp only [ltK] at h k ⊢; exact ltKs_trans xs ys zs h k
      | _ => revert h k; simp [ltK]
    | _ => cases z <;> revert h k <;> simp [ltK]
  | .none, y, z, h, k => by cases y <;> cases z <;> first | rfl | (revert h k; simp [ltK]; done)
theorem ltKs_trans : ∀ xs ys zs : List NKey, ltKs xs ys = true → ltKs ys zs = true → ltKs xs zs = true
  | [], [], _, h, _ => by simp [ltKs] at h
  | [], _ :: _, [], _, k => by simp [ltKs] at k
  | [], _ :: _, _ :: _, _, _ => rfl
  | _ :: _, [], _, h, _ => by simp [ltKs] at h
  | _ :: _, _ :: _, [], _, k => by simp [ltKs] at k
  | x :: xs, y :: ys, z :: zs, h, k => by
    rw [ltKs_cons] at h k ⊢
    by_cases c : x = y
    · subst c
      rw [if_pos rfl] at h
      by_cases d : x = z
      · subst d
        rw [if_pos rfl] at k ⊢
        exact ltKs_trans xs ys zs h k
      · rw [if_neg d] at k ⊢
        exact k
    · rw [if_neg c] at h
      by_cases d : y = z
      · subst d
        rw [if_neg c]
        exact h
      · rw [if_neg d] at k
        have q := ltK_trans x y z h k
        by_cases f : x = z
        · subst f
          have q2 := ltK_asym x y h
          rw [k] at q2
          cases q2
        · rw [if_neg f]
          exact q
end
theorem ltK_irr (x : NKey) : ltK x x = false := by
  cases e : ltK x x with
  | false => rfl
  | true =>
    have q := ltK_asym x x e
    rw [e] at q
    cases q
theorem ltK_neg {x y z : NKey} (h1 : ltK y x = false) (h2 : ltK z y = false) : ltK z x = false := by
  cases e : ltK z x with
  | false => rfl
  | true =>
    cases e1 : ltK x y with
    | true =>
      rw [ltK_trans z x y e e1] at h2
      cases h2
    | false =>
      rw [ltK_tot x y e1 h1] at e
      rw [e] at h2
      cases h2
theorem swoK : SrtO.Swo ltK := ⟨ltK_asym, fun _ _ _ => ltK_neg⟩
theorem ltK_ne {x y : NKey} (h : ltK x y = true) : x ≠ y := fun e => by
  subst e
  rw [ltK_irr] at h
  cases h

/-! ### which keys Python orders -/
mutual
def cmpK : NKey → NKey → Bool
  | .num _, .num _ => true
  | .text _, .text _ => true
  | .tup xs, .tup ys => cmpKs xs ys
  | .none, .none | .num _, .none | .text _, .none | .tup _, .none | .text _, .num _ | .tup _, .num _ | .tup _, .text _ => false
  | .none, .num _ | .none, .text _ | .none, .tup _ | .num _, .text _ | .num _, .tup _ | .text _, .tup _ => false
def cmpKs : List NKey → List NKey → Bool
  | [], [] => true
  | [], _ :: _ => true
  | _ :: _, [] => true
  | x :: xs, y :: ys => (NestedKey.beq x y || cmpK x y) && cmpKs xs ys
end
mutual
/-- a value that holds the key, no bool in it -/
inductive Va (h : Heap) : NKey → Value → Prop
  | none : Va h .none .none
  | int (i t) : Va h (.num i) (.int i t)
  | text (x t) : Va h (.text x) (.str x t)
  | tup {a o vs n ks} : h.get? a = some o → o.cls = .type "tuple" → o.data = .seq vs n → VaAll h ks vs.toList → Va h (.tup ks) (.ref a)
inductive VaAll (h : Heap) : List NKey → List Value → Prop
  | nil : VaAll h [] []
  | cons {k v ks vs} : Va h k v → VaAll h ks vs → VaAll h (k :: ks) (v :: vs)
end
mutual
theorem Va.key {h : Heap} : ∀ {k : NKey} {v : Value}, Va h k v → NestedIs h k v
  | _, _, .none => .none
  | _, _, .int i t => .int i t
  | _, _, .text x t => .text x t
  | _, _, .tup a b c d => .tup a b c (VaAll.key d)
theorem VaAll.key {h : Heap} : ∀ {ks : List NKey} {vs : List Value}, VaAll h ks vs → NestedAll h ks vs
  | _, _, .nil => .nil
  | _, _, .cons a b => .cons (Va.key a) (VaAll.key b)
end
mutual
theorem Va.stay {h h' : Heap} (u : ∀ b o, h.get? b = some o → o.cls = .type "tuple" → h'.get? b = some o) : ∀ {k : NKey} {v : Value}, Va h k v → Va h' k v
  | _, _, .none => .none
  | _, _, .int i t => .int i t
  | _, _, .text x t => .text x t
  | _, _, .tup a b c d => .tup (u _ _ a b) b c (VaAll.stay u d)
theorem VaAll.stay {h h' : Heap} (u : ∀ b o, h.get? b = some o → o.cls = .type "tuple" → h'.get? b = some o) : ∀ {ks : List NKey} {vs : List Value}, VaAll h ks vs → VaAll h' ks vs
  | _, _, .nil => .nil
  | _, _, .cons a b => .cons (Va.stay u a) (VaAll.stay u b)
end
theorem VaAll.len {h : Heap} : ∀ {ks : List NKey} {vs : List Value}, VaAll h ks vs → vs.length = ks.length
  | _, _, .nil => rfl
  | _, _, .cons _ b => congrArg (· + 1) (VaAll.len b)
theorem VaAll.at {h : Heap} : ∀ {ks : List NKey} {vs : List Value} (j : Nat) (h1 : j < vs.length), VaAll h ks vs → Va h (ks.getD j .none) vs[j]
  | _, _, 0, _, .cons a _ => a
  | _, _, j + 1, h1, .cons _ b => VaAll.at j (by simpa using h1) b
section
variable {P : Program} {w : World} {A : Around} {E : Value → Shared → Prop} {s : Shared}
theorem lexKs : ∀ (xs ys : List NKey) (i : Nat) (e r : Nat → Bool), (∀ j, e (i + j) = NestedKey.beq (xs.getD j .none) (ys.getD j .none)) → (∀ j, r (i + j) = ltK (xs.getD j .none) (ys.getD j .none)) →
    Ob.lexAt e r (decide (xs.length < ys.length)) i (min xs.length ys.length) = ltKs xs ys
  | [], [], _, _, _, _, _ => rfl
  | [], _ :: _, i, e, r, _, _ => by
    simp [ltKs, Ob.lexAt_zero]
  | _ :: _, [], i, e, r, _, _ => by
    simp [ltKs, Ob.lexAt_zero]
  | x :: xs, y :: ys, i, e, r, he, hr => by
    have h0 := he 0
    have r0 := hr 0
    simp only [Nat.add_zero, List.getD_cons_zero] at h0 r0
    rw [show min (x :: xs).length (y :: ys).length = min xs.length ys.length + 1 by simp only [List.length_cons]; omega, Ob.lexAt_succ, h0, r0]
    have hd : decide ((x :: xs).length < (y :: ys).length) = decide (xs.length < ys.length) := by simp
    rw [hd, lexKs xs ys (i + 1) e r (fun j => by rw [show i + 1 + j = i + (j + 1) by omega, he]; rfl) (fun j => by rw [show i + 1 + j = i + (j + 1) by omega, hr]; rfl)]
    rfl
theorem cmpKs_at : ∀ (xs ys : List NKey), cmpKs xs ys = true → ∀ j, j < xs.length → j < ys.length → NestedKey.beq (xs.getD j .none) (ys.getD j .none) = false → cmpK (xs.getD j .none) (ys.getD j .none) = true
  | x :: xs, y :: ys, h, j, h1, h2, hn => by
    rw [cmpKs, Bool.and_eq_true, Bool.or_eq_true] at h
    cases j with
    | zero =>
      simp only [List.getD_cons_zero] at hn ⊢
      rcases h.1 with q | q
      · rw [hn] at q; cases q
      · exact q
    | succ j => exact cmpKs_at xs ys h.2 j (by simpa using h1) (by simpa using h2) hn
  | [], _, _, _, h1, _, _ => absurd h1 (by simp)
  | _ :: _, [], _, _, _, h2, _ => absurd h2 (by simp)
theorem rc_str (A : Around) (s : Shared) (x y : Str) (t u : Tok) : Ob.RcOp .Lt A s (.str x t) (.str y u) (ltT x y) := fun prog w E Q h => by
  refine PyProof.Rows.lt_str ?_
  exact h
mutual
/-- u < v of two keys -/
theorem va_lt : ∀ (x y : NKey) (A : Around) (s : Shared) (u v : Value), Va s.heap x u → Va s.heap y v → A.units + min x.depth y.depth < cLine → cmpK x y = true → Ob.RcOp .Lt A s u v (ltK x y)
  | .num a, y, A, s, u, v, hx, hy, hu, hc => by
    cases y with
    | num b =>
      cases hx with
      | int _ t =>
        cases hy with
        | int _ t' => exact Ob.RcOp.lt_int a b t t'
    | _ => simp [cmpK] at hc
  | .text a, y, A, s, u, v, hx, hy, hu, hc => by
    cases y with
    | text b =>
      cases hx with
      | text _ t =>
        cases hy with
        | text _ t' => exact rc_str A s a b t t'
    | _ => simp [cmpK] at hc
  | .tup xs, y, A, s, u, v, hx, hy, hu, hc => by
    cases y with
    | tup ys =>
      rw [cmpK] at hc
      cases hx with
      | @tup l o vs n _ h1 h2 h3 h4 =>
        cases hy with
        | @tup l' o' vs' n' _ k1 k2 k3 k4 =>
          have n1 : vs.size = xs.length := by simpa using VaAll.len h4
          have n2 : vs'.size = ys.length := by simpa using VaAll.len k4
          have q := Ob.RcOp.tuples_lt (A := A) (s := s) (e := fun j => NestedKey.beq (xs.getD j .none) (ys.getD j .none)) (r := fun j => ltK (xs.getD j .none) (ys.getD j .none)) ⟨_, h1, h2, _, h3⟩ ⟨_, k1, k2, _, k3⟩ (room_here hu)
            (fun j j1 j2 => eqAt_keys xs ys A.in1 s vs.toList vs'.toList h4.key k4.key (room_in hu) j (by simpa using j1) (by simpa using j2))
            (fun j j1 j2 hn => va_lts xs ys A.in1 s vs.toList vs'.toList h4 k4 (room_in hu) j (by simpa using j1) (by simpa using j2) (cmpKs_at xs ys hc j (by omega) (by omega) hn))
          rw [n1, n2, lexKs xs ys 0 _ _ (fun j => by rw [Nat.zero_add]) (fun j => by rw [Nat.zero_add])] at q
          rw [ltK]
          exact q
    | _ => simp [cmpK] at hc
  | .none, y, A, s, u, v, hx, hy, hu, hc => by cases y <;> simp [cmpK] at hc
theorem va_lts : ∀ (xs ys : List NKey) (A : Around) (s : Shared) (vs ws : List Value), VaAll s.heap xs vs → VaAll s.heap ys ws → A.units + min (NestedKey.depthAll xs) (NestedKey.depthAll ys) < cLine →
    ∀ j (h1 : j < vs.length) (h2 : j < ws.length), cmpK (xs.getD j .none) (ys.getD j .none) = true → Ob.RcOp .Lt A s vs[j] ws[j] (ltK (xs.getD j .none) (ys.getD j .none))
  | [], _, _, _, _, _, ra, _, _, j, h1, _, _ => by cases ra; exact absurd h1 (Nat.not_lt_zero _)
  | _ :: _, [], _, _, _, _, _, rb, _, j, _, h2, _ => by cases rb; exact absurd h2 (Nat.not_lt_zero _)
  | x :: xs, y :: ys, A, s, _, _, ra, rb, hu, j, h1, h2, hc => by
    cases ra with
    | cons r rs =>
      cases rb with
      | cons r' rs' =>
        cases j with
        | zero => exact va_lt x y A s _ _ r r' (room_head hu) hc
        | succ j => exact va_lts xs ys A s _ _ rs rs' (room_tail hu) j (Nat.lt_of_succ_lt_succ h1) (Nat.lt_of_succ_lt_succ h2) hc
end
end
end TL
set_option Elab.async false
set_option linter.all false
set_option maxRecDepth 100000
set_option maxHeartbeats 4000000
namespace TL
open PySem PySem.Spec PyProof.Rows L2 PySem.SeqAt PySem.W

section
variable {P : Program} {w : World} {A : Around} {E : Value → Shared → Prop} {s : Shared}
/-- the kind of a key, as sorting asks for it -/
def kdK : NKey → Option Nat
  | .num _ => some 0
  | .text _ => some 1
  | .tup (.num _ :: _) => some 2
  | .tup (.text _ :: _) => some 3
  | .tup (.tup _ :: _) => some 4
  | _ => none
theorem oneLtK {f : Bool} {x y : NKey} {u v : Value} {Q : Bool → Shared → Prop} (hx : Va s.heap x u) (hy : Va s.heap y v) (hu : A.units + min x.depth y.depth < cLine) (hc : cmpK x y = true) (hf : f = true → x.depth = 0) (h : Q (ltK x y) s) :
    wpAny (model P w) A (oneLt' f u v) Q E s := by
  cases x with
  | num a =>
    cases y with
    | num b => cases hx; cases hy; exact oneLt_any_int h
    | _ => simp [cmpK] at hc
  | text a =>
    cases y with
    | text b => cases hx; cases hy; exact oneLt_any_str h
    | _ => simp [cmpK] at hc
  | none => cases y <;> simp [cmpK] at hc
  | tup xs =>
    have e : f = false := by
      cases f with
      | false => rfl
      | true => simp [NestedKey.depth] at hf
    subst e
    exact kat_one _ _ (va_lt _ _ A s u v hx hy hu hc P w E (PySem.W.BoolBack Q) h)
theorem lexVa {b fin : Bool} {Q : Bool → Shared → Prop} : ∀ (xs ys : List NKey) (vs ws : List Value) (i : Nat), VaAll s.heap xs vs → VaAll s.heap ys ws → A.units + min (NestedKey.depthAll xs) (NestedKey.depthAll ys) < cLine → cmpKs xs ys = true →
    (i = 0 → b = true → ∀ x, xs.head? = some x → x.depth = 0) → fin = decide (xs.length < ys.length) → Q (ltKs xs ys) s → KatLex P w A b fin Q (vs.zip ws) i s
  | [], [], _, _, i, ra, rb, _, _, _, hf, h => by
    cases ra; cases rb
    subst hf
    exact kat_nil h
  | [], _ :: _, _, _, i, ra, rb, _, _, _, hf, h => by
    cases ra; cases rb
    have e : fin = true := by rw [hf]; exact decide_eq_true (Nat.succ_pos _)
    subst e
    exact kat_nil h
  | _ :: _, [], _, _, i, ra, rb, _, _, _, hf, h => by
    cases ra; cases rb
    have e : fin = false := by rw [hf]; exact decide_eq_false (Nat.not_lt_zero _)
    subst e
    exact kat_nil h
  | x :: xs, y :: ys, _, _, i, ra, rb, hu, hc, hb, hf, h => by
    cases ra with
    | cons r rs =>
      cases rb with
      | cons r' rs' =>
        rw [cmpKs, Bool.and_eq_true, Bool.or_eq_true] at hc
        refine kat_cons (eqAt_key x y A s _ _ r.key r'.key (room_head hu) P w _ _ ?_)
        refine kat_go (fun e => kat_yes ?_) (fun e => kat_no ?_)
        · have exy := NestedKey.eq_of_beq _ _ e
          subst exy
          rw [ltKs_cons, if_pos rfl] at h
          exact lexVa xs ys _ _ (i + 1) rs rs' (room_tail hu) hc.2 (fun z => absurd z (Nat.succ_ne_zero _)) (by rw [hf]; simp) h
        · have ne : x ≠ y := fun z => by rw [z, NestedKey.beq_self] at e; cases e
          rw [ltKs_cons, if_neg ne] at h
          refine oneLtK r r' (room_head hu) ?_ (fun z => ?_) h
          · rcases hc.1 with q | q
            · exact absurd (NestedKey.eq_of_beq _ _ q) ne
            · exact q
          · rw [Bool.and_eq_true, beq_iff_eq] at z
            exact hb z.2 z.1 x rfl

theorem looks_va {M : Model} {h : Heap} {k : NKey} {v : Value} (hv : Va h k v) : ∃ T, Looks M h (typeOf v) T ∧ (T == T) = true ∧ (k.depth = 0 ∧ k ≠ .none → T = .type (match k with | .num _ => "int" | _ => "str")) ∧ ((∃ ks, k = .tup ks) → T = .type "tuple") := by
  cases hv with
  | none => exact ⟨_, .now, rfl, fun z => absurd rfl z.2, fun ⟨_, z⟩ => (nomatch z)⟩
  | int i t => exact ⟨_, .now, rfl, fun _ => rfl, fun ⟨_, z⟩ => (nomatch z)⟩
  | text x t => exact ⟨_, .now, rfl, fun _ => rfl, fun ⟨_, z⟩ => (nomatch z)⟩
  | @tup a o vs n ks h1 h2 h3 h4 =>
    refine ⟨o.cls, (Looks.ld h1).andThen .now, by rw [h2]; rfl, fun z => by simp [NestedKey.depth] at z, fun _ => h2⟩

open Classical in
noncomputable def keyOf (h : Heap) (v : Value) : NKey := if hx : ∃ k, Va h k v then hx.choose else .none
theorem keyOf_eq {h : Heap} {k : NKey} {v : Value} (hv : Va h k v) : keyOf h v = k := by
  unfold keyOf
  have hx : ∃ k, Va h k v := ⟨k, hv⟩
  rw [dif_pos hx]
  exact NestedIs.inj _ _ v hx.choose_spec.key hv.key
noncomputable def ltV (h : Heap) (v u : Value) : Bool := ltK (keyOf h v) (keyOf h u)
theorem swoV (h : Heap) : SrtO.Swo (ltV h) := ⟨fun x y => swoK.asym _ _, fun x y z => swoK.tr _ _ _⟩
theorem VaAll.mem {h : Heap} : ∀ {ks : List NKey} {vs : List Value}, VaAll h ks vs → ∀ v ∈ vs, ∃ k ∈ ks, Va h k v
  | _, _, .nil, v, hv => nomatch hv
  | _, _, .cons a b, v, hv => by
    rcases List.mem_cons.mp hv with e | hv
    · subst e; exact ⟨_, List.mem_cons_self, a⟩
    · obtain ⟨k, hk, q⟩ := VaAll.mem b v hv
      exact ⟨k, List.mem_cons_of_mem _ hk, q⟩
theorem firsts_va {h : Heap} {c : Nat} {T : Value} {M : Model} (hc : 2 ≤ c) (hT : ∀ {k : NKey} {v : Value}, Va h k v → kdK (.tup [k]) = some c → Looks M h (typeOf v) T) : ∀ {ks : List NKey} {vs : List Value}, VaAll h ks vs → (∀ k ∈ ks, kdK k = some c) →
    ∃ fs, KatTups h vs fs ∧ fs.length = vs.length ∧ ∀ f ∈ fs, Looks M h (typeOf f) T
  | _, _, .nil, _ => ⟨[], .nil, rfl, fun f hf => nomatch hf⟩
  | k :: ks, _, .cons a b, hk => by
    obtain ⟨fs, h1, h2, h3⟩ := firsts_va hc hT b fun k' hk' => hk k' (List.mem_cons_of_mem _ hk')
    have h0 := hk k List.mem_cons_self
    cases a with
    | none => simp [kdK] at h0
    | int i t => simp only [kdK, Option.some.injEq] at h0; omega
    | text x t => simp only [kdK, Option.some.injEq] at h0; omega
    | @tup a o us n ks' g1 g2 g3 g4 =>
      obtain ⟨us⟩ := us
      cases g4 with
      | nil => simp [kdK] at h0
      | @cons k1 v1 ks1 vs1 r rs =>
        refine ⟨v1 :: fs, .cons g1 g2 g3 (by simp) h1, congrArg (· + 1) h2, fun f hf => ?_⟩
        rcases List.mem_cons.mp hf with e | hf
        · subst e
          refine hT r ?_
          cases k1 <;> simpa [kdK] using h0
        · exact h3 f hf
theorem sortableK {a : Addr} {ks : List NKey} {vs : List Value} (h2 : 2 ≤ vs.length) (hv : VaAll s.heap ks vs) (hd : ∀ k ∈ ks, k.depth ≤ 8) (hu : A.units + 9 < cLine) (hc : ∀ x ∈ ks, ∀ y ∈ ks, cmpK x y = true) (hk : ∃ c, ∀ k ∈ ks, kdK k = some c)
    (ha : ∀ o, s.heap.get? a = some o → o.cls ≠ .type "tuple") : SrtO.SortableO P w A s a vs (ltV s.heap) := by
  intro h' keep
  have st : ∀ b o, s.heap.get? b = some o → o.cls = .type "tuple" → h'.get? b = some o := fun b o e z => keep b o (fun q => by subst q; exact ha o e z) e
  have hv' : VaAll h' ks vs := hv.stay st
  obtain ⟨c, hk⟩ := hk
  have pick : ∀ v ∈ vs, ∃ k ∈ ks, Va h' k v ∧ keyOf s.heap v = k := fun v hm => by
    obtain ⟨k, hm', q⟩ := hv.mem v hm
    exact ⟨k, hm', q.stay st, keyOf_eq q⟩
  rcases Nat.lt_or_ge c 2 with hc2 | hc2
  · -- ints or texts
    have flat : ∀ k ∈ ks, k.depth = 0 ∧ k ≠ .none := fun k hm => by
      have z := hk k hm
      cases k with
      | none => simp [kdK] at z
      | num i => exact ⟨rfl, fun e => nomatch e⟩
      | text x => exact ⟨rfl, fun e => nomatch e⟩
      | tup l =>
        exfalso
        rcases l with _ | ⟨q, l⟩
        · simp [kdK] at z
        · cases q <;> simp [kdK] at z <;> omega
    refine ⟨oneType', fun Q E hq => ?_, ?_⟩
    · refine kas_kind (T := .type (if c = 0 then "int" else "str")) h2 (fun v hm => ?_) (by split <;> decide) (by split <;> decide) hq
      obtain ⟨k, hm', q, _⟩ := pick v hm
      have z := hk k hm'
      cases q with
      | none => simp [kdK] at z
      | int i t => simp only [kdK, Option.some.injEq] at z; subst z; exact .now
      | text x t => simp only [kdK, Option.some.injEq] at z; subst z; exact .now
      | tup _ _ _ _ => exact absurd (flat _ hm').1 (by simp [NestedKey.depth])
    · intro p q hp hq
      obtain ⟨k1, m1, q1, e1⟩ := pick _ hp
      obtain ⟨k2, m2, q2, e2⟩ := pick _ hq
      show wpAny (model P w) A (oneLt' true p.1 q.1) (fun r s' => s' = { s with heap := h' } ∧ r = ltV s.heap p.1 q.1) (fun _ _ => False) { s with heap := h' }
      refine oneLtK (s := { s with heap := h' }) q1 q2 (by rw [(flat _ m1).1]; omega) (hc _ m1 _ m2) (fun _ => (flat _ m1).1) ⟨rfl, ?_⟩
      unfold ltV
      rw [e1, e2]
  · -- tuples
    have hne : 0 < ks.length := by rw [← hv.len]; omega
    have hT : ∃ T : Value, (T == T) = true ∧ (c ≠ 4 → T = .type (if c = 2 then "int" else "str")) ∧ (c = 4 → T = .type "tuple") ∧ ∀ {k : NKey} {v : Value}, Va h' k v → kdK (.tup [k]) = some c → Looks (model P w) h' (typeOf v) T := by
      refine ⟨.type (if c = 2 then "int" else if c = 3 then "str" else "tuple"), by split <;> (try split) <;> decide, fun z => ?_, fun z => by subst z; rfl, fun {k v} q z => ?_⟩
      · obtain ⟨k0, m0⟩ : ∃ k0, k0 ∈ ks := ⟨ks[0], List.getElem_mem hne⟩
        have z0 := hk k0 m0
        have : c = 2 ∨ c = 3 := by
          cases k0 with
          | none => simp [kdK] at z0
          | num i => simp only [kdK, Option.some.injEq] at z0; omega
          | text x => simp only [kdK, Option.some.injEq] at z0; omega
          | tup l =>
            rcases l with _ | ⟨q, l⟩
            · simp [kdK] at z0
            · cases q <;> simp [kdK] at z0 <;> omega
        rcases this with e | e <;> subst e <;> rfl
      · cases q with
        | none => simp [kdK] at z
        | int i t => simp only [kdK, Option.some.injEq] at z; subst z; exact .now
        | text x t => simp only [kdK, Option.some.injEq] at z; subst z; exact .now
        | @tup a o vs n ks h1 h2 h3 h4 =>
          simp only [kdK, Option.some.injEq] at z
          subst z
          have q : Looks (model P w) h' (typeOf (.ref a)) o.cls := (Looks.ld h1).andThen .now
          rw [h2] at q
          exact q
    obtain ⟨T, t1, t2, t3, t4⟩ := hT
    obtain ⟨fs, f1, f2, f3⟩ := firsts_va hc2 t4 hv' hk
    refine ⟨tuples' (T != Value.type "tuple"), fun Q E hq => kat_kind (T := T) (s := { s with heap := h' }) f1 (by omega) f3 t1 hq, ?_⟩
    intro p q hp hq
    obtain ⟨k1, m1, q1, e1⟩ := pick _ hp
    obtain ⟨k2, m2, q2, e2⟩ := pick _ hq
    have z1 := hk _ m1
    have c12 := hc _ m1 _ m2
    have d1 := hd _ m1
    show wpAny (model P w) A (keyLt' (tuples' (T != Value.type "tuple")) p.1 q.1) (fun r s' => s' = { s with heap := h' } ∧ r = ltV s.heap p.1 q.1) (fun _ _ => False) { s with heap := h' }
    have lv : ltV s.heap p.1 q.1 = ltK k1 k2 := by unfold ltV; rw [e1, e2]
    rw [lv]
    generalize p.1 = u at q1
    generalize q.1 = v at q2
    cases q1 with
    | none => simp [kdK] at z1
    | int i t => simp only [kdK, Option.some.injEq] at z1; omega
    | text x t => simp only [kdK, Option.some.injEq] at z1; omega
    | @tup a1 o1 vs1 n1 ks1 g1 g2 g3 g4 =>
      cases q2 with
      | none => simp [cmpK] at c12
      | int i t => simp [cmpK] at c12
      | text x t => simp [cmpK] at c12
      | @tup a2 o2 vs2 n2 ks2 j1 j2 j3 j4 =>
        rw [cmpK] at c12
        simp only [NestedKey.depth] at d1
        have l1 : vs1.size = ks1.length := by simpa using g4.len
        have l2 : vs2.size = ks2.length := by simpa using j4.len
        refine kat_lt (s := { s with heap := h' }) g1 g3 j1 j3 (lexVa ks1 ks2 _ _ 0 g4 j4 (by omega) c12 (fun _ hb x hx => ?_) (by rw [l1, l2]) ⟨rfl, by rw [ltK]⟩)
        rcases ks1 with _ | ⟨x1, ks1⟩
        · cases hx
        · cases hx
          cases x with
          | tup l =>
            exfalso
            simp only [kdK, Option.some.injEq] at z1
            rw [t3 z1.symm] at hb
            exact absurd hb (by decide)
          | _ => rfl
end
end TL
set_option Elab.async false
set_option linter.all false
set_option maxRecDepth 100000
set_option maxHeartbeats 4000000
namespace TL
open PySem PySem.Spec PyProof.Rows L2

/-! ### data as keys -/
mutual
def nk : D → NKey
  | .none => .none
  | .bool b => .num (if b = true then 1 else 0)
  | .int i => .num i
  | .str x => .text x
  | .tuple ds => .tup (nks ds)
  | .list _ => .none
  | .dict _ => .none
def nks : List D → List NKey
  | [] => []
  | d :: ds => nk d :: nks ds
end
mutual
/-- no bool, no list in it -/
def vaD : D → Bool
  | .none => true
  | .bool _ => false
  | .int _ => true
  | .str _ => true
  | .tuple ds => vaDs ds
  | .list _ => false
  | .dict _ => false
def vaDs : List D → Bool
  | [] => true
  | d :: ds => vaD d && vaDs ds
end
mutual
theorem nk_inj : ∀ x y : D, vaD x = true → vaD y = true → nk x = nk y → x = y
  | .none, y, hx, hy, h => by cases y <;> first | rfl | (simp [vaD] at hy; done) | (simp [nk] at h)
  | .int i, y, hx, hy, h => by
    cases y with
    | int j => simp only [nk, NestedKey.num.injEq] at h; rw [h]
    | _ => first | (simp [vaD] at hy; done) | (simp [nk] at h)
  | .str i, y, hx, hy, h => by
    cases y with
    | str j => simp only [nk, NestedKey.text.injEq] at h; rw [h]
    | _ => first | (simp [vaD] at hy; done) | (simp [nk] at h)
  | .tuple i, y, hx, hy, h => by
    cases y with
    | tuple j => simp only [nk, NestedKey.tup.injEq] at h; rw [nks_inj i j hx hy h]
    | _ => first | (simp [vaD] at hy; done) | (simp [nk] at h)
  | .bool _, _, hx, _, _ => by simp [vaD] at hx
  | .list _, _, hx, _, _ => by simp [vaD] at hx
  | .dict _, _, hx, _, _ => by simp [vaD] at hx
theorem nks_inj : ∀ xs ys : List D, vaDs xs = true → vaDs ys = true → nks xs = nks ys → xs = ys
  | [], [], _, _, _ => rfl
  | [], _ :: _, _, _, h => by simp [nks] at h
  | _ :: _, [], _, _, h => by simp [nks] at h
  | x :: xs, y :: ys, hx, hy, h => by
    simp only [nks, List.cons.injEq] at h
    simp only [vaDs, Bool.and_eq_true] at hx hy
    rw [nk_inj x y hx.1 hy.1 h.1, nks_inj xs ys hx.2 hy.2 h.2]
end
section
variable {X : Cx} {pins : List (Addr × Obj)} {σ : L2.St} {H : Hp} {s : Shared}
mutual
theorem va_rp (I : Inv X pins σ H s) : ∀ {v : V} {d : D} {u : Value}, Rp X.K H v d → vaD d = true → RelV v u → Va s.heap (nk d) u
  | _, _, _, .non, _, r => by cases r; exact .none
  | _, _, _, .bl b, h, _ => by simp [vaD] at h
  | _, _, _, .int i, _, r => by obtain ⟨t, rfl⟩ := r; exact .int i t
  | _, _, _, .str x, _, r => by obtain ⟨t, rfl⟩ := r; exact .text x t
  | _, _, _, .lst _ _, h, _ => by simp [vaD] at h
  | _, _, _, .tup hs a, h, r => by
    cases r
    obtain ⟨its, rv, ⟨o, ho, hc, n, hd⟩, _⟩ := I.tuple hs
    rw [nk]
    exact .tup ho hc hd (by simpa using vas_rp I a h rv)
theorem vas_rp (I : Inv X pins σ H s) : ∀ {vs : List V} {ds : List D} {us : List Value}, RpAll X.K H vs ds → vaDs ds = true → Vals vs us → VaAll s.heap (nks ds) us
  | _, _, _, .nil, _, .nil => .nil
  | _, _, _, .cons a b, h, .cons r t => by
    simp only [vaDs, Bool.and_eq_true] at h
    exact .cons (va_rp I a h.1 r) (vas_rp I b h.2 t)
end
end
theorem perm_lift {α β : Type} (f : α → β) : ∀ (L : List α) (out : List β), out.Perm (L.map f) → ∃ L' : List α, L'.Perm L ∧ out = L'.map f
  | [], out, h => ⟨[], .refl _, List.Perm.eq_nil h⟩
  | a :: L, out, h => by
    have hm : f a ∈ out := h.mem_iff.mpr List.mem_cons_self
    obtain ⟨x, y, rfl⟩ := List.append_of_mem hm
    have h2 : (x ++ y).Perm (L.map f) := (List.perm_middle.symm.trans h).cons_inv
    obtain ⟨L', p, e⟩ := perm_lift f L _ h2
    obtain ⟨l1, l2, rfl, rfl, rfl⟩ := List.append_eq_map_iff.mp e
    exact ⟨l1 ++ a :: l2, List.perm_middle.trans (p.cons a), by simp⟩
theorem list_lift {α β : Type} (f : α → β) (Z : List α) : ∀ L : List β, (∀ p ∈ L, p ∈ Z.map f) → ∃ L' : List α, L = L'.map f ∧ ∀ q ∈ L', q ∈ Z
  | [], _ => ⟨[], rfl, fun q h => nomatch h⟩
  | p :: L, h => by
    obtain ⟨L', e, hs⟩ := list_lift f Z L fun q hq => h q (List.mem_cons_of_mem _ hq)
    obtain ⟨a, ha, rfl⟩ := List.mem_map.mp (h p List.mem_cons_self)
    exact ⟨a :: L', by rw [List.map_cons, e], fun q hq => by
      rcases List.mem_cons.mp hq with z | z
      · subst z; exact ha
      · exact hs q z⟩

section
variable {P : Program} {w : World} {A : Around} {E : Value → Shared → Prop} {s : Shared}
theorem va_list {h : Heap} : ∀ {L : Mem}, (∀ p ∈ L, Va h p.2 (.ref p.1)) → VaAll h (L.map (·.2)) (L.map fun p => Value.ref p.1)
  | [], _ => .nil
  | p :: L, h => .cons (h p List.mem_cons_self) (va_list fun q hq => h q (List.mem_cons_of_mem _ hq))
theorem Va.up {h h' : Heap} {k : NKey} {v : Value} (x : Va h k v) (u : Up h h') : Va h' k v := x.stay fun b o e _ => u b o e
/-- a list of keys, stored, is sorted -/
theorem sort_keys {a : Addr} {n : Nat} {L : Mem} {R : PySem.Fin → Shared → Prop} (ho : s.heap.get? a = some (seqObj "list" (L.map fun p => Value.ref p.1).toArray n)) (hz : L.length ≤ 100000) (hv : ∀ p ∈ L, Va s.heap p.2 (.ref p.1)) (hd : ∀ p ∈ L, p.2.depth ≤ 8) (hu : A.units + 9 < cLine)
    (hc : ∀ p ∈ L, ∀ q ∈ L, cmpK p.2 q.2 = true) (hk : ∃ c, ∀ p ∈ L, kdK p.2 = some c)
    (h : ∀ L' : Mem, L'.Perm L → L'.Pairwise (fun p q => ltK q.2 p.2 = false) → R (.done (.ret .none)) { s with heap := sortedHeap s.heap a (L.map fun p => Value.ref p.1) (L'.map fun p => Value.ref p.1).toArray }) :
    wpAny (model P w) A (Builtin.«list.sort» ⟨[.ref a], []⟩) R E s := by
  refine SrtO.list_sort_ord (swoV s.heap) ho (by rw [List.length_map, sizeLine_eq]; omega) (fun h2 => ?_) fun out hs hb => ?_
  · refine sortableK h2 (va_list hv) (fun k hk' => ?_) hu (fun x hx y hy => ?_) ?_ fun o e => ?_
    · obtain ⟨p, hp, rfl⟩ := List.mem_map.mp hk'; exact hd p hp
    · obtain ⟨p, hp, rfl⟩ := List.mem_map.mp hx
      obtain ⟨q, hq, rfl⟩ := List.mem_map.mp hy
      exact hc p hp q hq
    · obtain ⟨c, hk⟩ := hk
      exact ⟨c, fun k hk' => by obtain ⟨p, hp, rfl⟩ := List.mem_map.mp hk'; exact hk p hp⟩
    · rw [ho] at e
      cases e
      exact fun c => absurd (Value.type.inj c) (by decide)
  · obtain ⟨L', pm, rfl⟩ := perm_lift _ _ _ hb.perm
    refine h L' pm ?_
    refine (List.pairwise_map.mp hs).imp_of_mem fun {p q} hp hq hpq => ?_
    have e1 := keyOf_eq (hv p (pm.mem_iff.mp hp))
    have e2 := keyOf_eq (hv q (pm.mem_iff.mp hq))
    have z : ltK (keyOf s.heap (.ref q.1)) (keyOf s.heap (.ref p.1)) = false := hpq
    rw [e1, e2] at z
    exact z
/-- sorted(s), s a set of keys -/
theorem sorted_setM {a : Addr} {L : Mem} {es : Array (Int × Value)} {ep : Nat} {t : SetTable} {Q : Value → Shared → Prop} (R : SetM w s.heap a L es ep t) (hh : A.handled = none) (hv : ∀ p ∈ L, Va s.heap p.2 (.ref p.1)) (hd : ∀ p ∈ L, p.2.depth ≤ 8) (hu : A.units + 16 < cLine)
    (hc : ∀ p ∈ L, ∀ q ∈ L, cmpK p.2 q.2 = true) (hk : ∃ c, ∀ p ∈ L, kdK p.2 = some c)
    (hQ : ∀ s' p (c : Nat) (L' : Mem), Up s.heap s'.heap → s'.gens = s.gens → s'.os = s.os → s.heap.objs.size ≤ p → s'.heap.get? p = some (seqObj "list" (L'.map fun q => Value.ref q.1).toArray c) → L'.Perm L → L'.Pairwise (fun q r => ltK r.2 q.2 = false) → Q (.ref p) s') :
    wpAny (model P w) A (call (.builtin "sorted") [.ref a]) Q E s := by
  have ⟨o, ho, hex, hd'⟩ := R.ob
  have hsz := ents_len R.ents
  have hfew := R.few
  refine Calls.call_function_entry kind_sorted plain_sorted entry_sorted (args_sorted1 _) ?_
  unfold Builtin.«sorted»
  refine wpAny_bind (m := checkCount "sorted" 1 1 _) (wpAny_pure ?_)
  refine wpAny_bind (collect_set (A := A.in1) hh ⟨o, ho, hex.1, hd'⟩ R.fits (by unfold scanBound; omega) R.tab.asc R.led fun s1 vs k1 hz g1 o1 pm => ?_)
  have hes : es.toList.map (·.2) = L.map fun q => Value.ref q.1 := by
    rw [R.ents]
    unfold entsOf
    rw [List.map_map] <;> rfl
  rw [hes] at pm
  obtain ⟨L1, p1, rfl⟩ := perm_lift _ _ _ pm
  have hl1 := p1.length_eq
  refine wpAny_bind (wpAny_newList ?_ (by rw [List.length_map, sizeLine_eq]; omega))
  have hoL : (s1.heap.push (seqObj "list" (L1.map fun q => Value.ref q.1).toArray 0)).get? s1.heap.objs.size = some (seqObj "list" (L1.map fun q => Value.ref q.1).toArray 0) := Heap.get?_push_size _ rfl
  have up2 : Up s.heap (s1.heap.push (seqObj "list" (L1.map fun q => Value.ref q.1).toArray 0)) := fun b o e => Heap.get?_push_of_some _ (k1 b o e)
  refine wpAny_bind (wpAny_holding (wpAny_call_entry slot_list_sort ⟨_, hoL, rfl⟩ entry_list_sort (sort_keys (s := { s1 with heap := s1.heap.push (seqObj "list" (L1.map fun q => Value.ref q.1).toArray 0) }) hoL (by omega)
    (fun p hp => (hv p (p1.mem_iff.mp hp)).up up2) (fun p hp => hd p (p1.mem_iff.mp hp)) (by simp only [Around.in1_units] at hu ⊢; omega) (fun p hp q hq => hc p (p1.mem_iff.mp hp) q (p1.mem_iff.mp hq))
    (by obtain ⟨c, hk⟩ := hk; exact ⟨c, fun p hp => hk p (p1.mem_iff.mp hp)⟩) fun L' pm' pw => ⟨_, rfl, ?_⟩) (args_list_sort _)))
  obtain ⟨c, hcc⟩ := sortedHeap_at (vs := (L1.map fun q => Value.ref q.1)) (out := (L'.map fun q => Value.ref q.1).toArray) hoL
  refine wpAny_pure ⟨_, rfl, hQ _ s1.heap.objs.size c L' (fun b u e => ?_) g1 o1 hz hcc (pm'.trans p1) pw⟩
  have hlt := Heap.lt_size (k1 b u e)
  show (sortedHeap (s1.heap.push (seqObj "list" (L1.map fun q => Value.ref q.1).toArray 0)) s1.heap.objs.size _ _).get? b = some u
  rw [sortedHeap_old (Nat.ne_of_lt hlt) (by rw [size_push']; exact Nat.lt_succ_of_lt hlt)]
  exact up2 b u e
end
end TL
set_option Elab.async false
set_option linter.all false
set_option maxRecDepth 100000
set_option maxHeartbeats 4000000
namespace TL
open PySem PySem.Spec PyProof.Rows L2

theorem dpa_zip {K : PySem.W.Frag} {H : Hp} : ∀ {vs : List V} {ds : List D}, RpAll K H vs ds → ∀ q ∈ vs.zip ds, Rp K H q.1 q.2 ∧ q.2 ∈ ds
  | _, _, .nil, q, h => nomatch h
  | _, _, .cons a t, q, h => by
    rw [List.zip_cons_cons] at h
    rcases List.mem_cons.mp h with e | h
    · subst e; exact ⟨a, List.mem_cons_self⟩
    · exact ⟨(dpa_zip t q h).1, List.mem_cons_of_mem _ (dpa_zip t q h).2⟩
theorem dpa_of {K : PySem.W.Frag} {H : Hp} : ∀ {L : List (V × D)}, (∀ q ∈ L, Rp K H q.1 q.2) → RpAll K H (L.map (·.1)) (L.map (·.2))
  | [], _ => .nil
  | q :: L, h => .cons (h q List.mem_cons_self) (dpa_of fun r hr => h r (List.mem_cons_of_mem _ hr))
/-- members of a set: tuples of data that can be keys -/
structure KeyD (d : D) : Prop where
  tup : ∃ es, d = .tuple es
  va : vaD d = true
  dep : (nk d).depth ≤ 8
/-- what Python sorts -/
structure OrdD (ds : List D) : Prop where
  cmp : ∀ x ∈ ds, ∀ y ∈ ds, cmpK (nk x) (nk y) = true
  kd : ∃ c, ∀ d ∈ ds, kdK (nk d) = some c
def adrV : V → Addr
  | .ref a => a
  | _ => 0
def keyP (q : V × D) : Addr × NKey := (adrV q.1, nk q.2)
theorem Rp.tupRef {K : PySem.W.Frag} {H : Hp} {v : V} {es : List D} (h : Rp K H v (.tuple es)) : ∃ a, v = .ref a := by
  cases h
  exact ⟨_, rfl⟩
theorem keys_its {K : PySem.W.Frag} {H : Hp} : ∀ {vs : List V} {ds : List D} {us : List Value}, RpAll K H vs ds → (∀ d ∈ ds, KeyD d) → Vals vs us → us = (vs.zip ds).map fun q => Value.ref (keyP q).1
  | _, _, _, .nil, _, .nil => rfl
  | _, _, _, .cons a t, h, .cons r rs => by
    obtain ⟨⟨es, rfl⟩, _, _⟩ := h _ List.mem_cons_self
    obtain ⟨c, rfl⟩ := a.tupRef
    cases r
    rw [keys_its t (fun d hd => h d (List.mem_cons_of_mem _ hd)) rs]
    rfl
section
variable {X : Cx} {pins : List (Addr × Obj)} {σ : L2.St} {H : Hp} {s : Shared}
theorem key_va (I : Inv X pins σ H s) {q : V × D} (h : Rp X.K H q.1 q.2) (k : KeyD q.2) : Va s.heap (keyP q).2 (.ref (keyP q).1) := by
  obtain ⟨v, d⟩ := q
  obtain ⟨⟨es, e⟩, hv, _⟩ := k
  dsimp only at e h hv
  subst e
  obtain ⟨a, rfl⟩ := h.tupRef
  exact va_rp I h hv rfl
/-- the list or tuple at a -/
theorem src_of (I : Inv X pins σ H s) {a : Addr} {xs : List V} (h : SqL X.K H a xs ∨ SqT X.K H a xs) : ∃ its : List Value, Vals xs its ∧ Nonempty (Src X.prog X.w s.heap a its.toArray) ∧ xs.length ≤ sizeLine := by
  rcases h with h | h
  · obtain ⟨its, r, pl, hz⟩ := I.list h
    exact ⟨its, r, ⟨srcL pl.isList⟩, hz⟩
  · obtain ⟨its, r, ⟨o, ho, hc, n, hd⟩, hz⟩ := I.tuple h
    exact ⟨its, r, ⟨srcT ⟨o, ho, hc, n, hd⟩⟩, hz⟩
end
def SetIn (K : PySem.W.Frag) (H : Hp) (x : V) (xs : List V) (ds : List D) : Prop := ∃ l : Addr, x = .ref l ∧ (SqL K H l xs ∨ SqT K H l xs) ∧ RpAll K H xs ds ∧ (∀ d ∈ ds, KeyD d) ∧ ds.length < 1000
def rSortSet (K : PySem.W.Frag) : V → Hp → VK → Prop := fun x H Q => ∃ (xs : List V) (ds : List D), SetIn K H x xs ds ∧ OrdD ds ∧
  ∀ (L : List (V × D)) (p : Addr), (∀ q ∈ L, q ∈ xs.zip ds) → (∀ d ∈ ds, nk d ∈ L.map fun q => nk q.2) → (L.map fun q => nk q.2).Nodup → L.Pairwise (fun q r => ltK (nk r.2) (nk q.2) = false) → H p = none → Q (.ref p) (upd H p (.lst (L.map (·.1))))
def rLenSet (K : PySem.W.Frag) : V → Hp → VK → Prop := fun x H Q => ∃ (xs : List V) (ds : List D), SetIn K H x xs ds ∧
  ∀ (L : List D), (∀ d ∈ L, d ∈ ds) → (∀ d ∈ ds, nk d ∈ L.map nk) → (L.map nk).Nodup → Q (.int L.length) H
section
variable {X : Cx} {a : Expr} {ta : TE} {p p2 q pos : Pos}
/-- set(x) in an argument's place -/
theorem set_arg {pins : List (Addr × Obj)} {σ : L2.St} {H1 : Hp} {s1 : Shared} {x : V} {u : Value} {xs : List V} {ds : List D} {Q : Value → Shared → Prop} (hc : X.calm = true) (hu : X.A.units + 64 < cLine) (I1 : Inv X pins σ H1 s1) (r1 : RelV x u) (h : SetIn X.K H1 x xs ds)
    (hq : ∀ (h' : Heap) (tk : Nat) (L : Mem) es ep t, SetM X.w h' s1.heap.objs.size L es ep t → (∀ p ∈ L, p ∈ (xs.zip ds).map keyP) → (∀ d ∈ ds, nk d ∈ L.map (·.2)) → Up s1.heap h' → (∀ p ∈ L, Va h' p.2 (.ref p.1)) → (∀ p ∈ L, p.2.depth ≤ 8) → Q (.ref s1.heap.objs.size) { s1 with heap := h', toks := tk }) :
    wpAny (model X.prog X.w) X.A (call (.type "set") [u]) Q X.xe s1 := by
  obtain ⟨l, rfl, hs, hr, hk, hl⟩ := h
  cases r1
  obtain ⟨its, rv, ⟨S⟩, hz⟩ := src_of I1 hs
  have hlen : (xs.zip ds).length = ds.length := by rw [List.length_zip, dpa_len hr]; omega
  have zk : ∀ q ∈ xs.zip ds, Va s1.heap (keyP q).2 (.ref (keyP q).1) := fun q hq => key_va I1 (dpa_zip hr q hq).1 (hk _ (dpa_zip hr q hq).2)
  have zd : ∀ q ∈ xs.zip ds, (keyP q).2.depth ≤ 8 := fun q hq => (hk _ (dpa_zip hr q hq).2).dep
  refine call_setM S ((xs.zip ds).map keyP) (I1.ok.hd hc) (by rw [keys_its hr hk rv, List.map_map]; rfl) (fun p hp => ?_) (by rw [List.length_map]; omega) (by omega) fun h' tk L es ep t R g up => ?_
  · obtain ⟨q, hq, rfl⟩ := List.mem_map.mp hp
    exact ⟨(zk q hq).key, zd q hq⟩
  · have sub : ∀ p ∈ L, p ∈ (xs.zip ds).map keyP := fun p hp => List.mem_of_mem_take (g.sub p hp)
    refine hq h' tk L es ep t R sub (fun d hd => ?_) up (fun p hp => ?_) fun p hp => ?_
    · obtain ⟨i, hi⟩ := List.getElem?_of_mem hd
      obtain ⟨v, hv, _⟩ := dpa_get' hr hi
      have hm : (v, d) ∈ xs.zip ds := List.mem_of_getElem? (i := i) (by rw [List.getElem?_zip_eq_some]; exact ⟨hv, hi⟩)
      exact g.all (keyP (v, d)) (by rw [List.take_length]; exact List.mem_map_of_mem hm)
    · obtain ⟨q, hq, e⟩ := List.mem_map.mp (sub p hp)
      rw [← e]
      exact (zk q hq).up up
    · obtain ⟨q, hq, e⟩ := List.mem_map.mp (sub p hp)
      rw [← e]
      exact zd q hq
theorem pe_sortSet (hc : X.calm = true) (hu : X.A.units + 64 < cLine) (hg : Gl X "sorted") (hm : X.mg "sorted" = none) (hg2 : Gl X "set") (hm2 : X.mg "set" = none) (ha : PE X a ta)
    (na : starEach [a] X.env = (false, eval a X.env) :: starEach [] X.env := by rfl) : PE X (.Call (.Name "sorted" p) [.Call (.Name "set" p2) [a] [] q] [] pos) (tV1 (rSortSet X.K) ta) := by
  refine ⟨fun pins s σ H Q I h => ?_⟩
  refine Call_ (ld_blt I hg hm PyProof.Rows.boot_sorted ?_)
  refine PyProof.Rows.callWith_builtin1 (PyProof.Rows.args_cons ?_ rfl) rfl rfl
  refine Call_ (ld_blt I hg2 hm2 PyProof.Rows.boot_set ?_)
  refine PyProof.Rows.callWith_type1 (PyProof.Rows.args_cons (thn (ha.run pins s σ H _ I h) fun v s1 ⟨x, H1, I1, r1, q1⟩ => PyProof.Rows.args_nil ?_) na) na rfl
  obtain ⟨xs, ds, hin, od, q1⟩ := q1
  refine set_arg hc hu I1 r1 hin fun h' tk L es ep t R sub all up va dep => ?_
  refine PyProof.Rows.args_nil ?_
  obtain ⟨l, rfl, hs, hr, hk, hlen⟩ := hin
  have mem : ∀ p ∈ L, ∃ d ∈ ds, p.2 = nk d := fun p hp => by
    obtain ⟨z, hz, e⟩ := List.mem_map.mp (sub p hp)
    rw [← e]
    exact ⟨z.2, (dpa_zip hr z hz).2, rfl⟩
  refine sorted_setM (s := { s1 with heap := h', toks := tk }) R (I1.ok.hd hc) va dep (by omega) (fun p hp q hq => ?_) ?_ fun s' pa c L' up2 g2 o2 hp hg' pm pw => ?_
  · obtain ⟨d, hd, e⟩ := mem p hp
    obtain ⟨d', hd', e'⟩ := mem q hq
    rw [e, e']
    exact od.cmp d hd d' hd'
  · obtain ⟨c, hc'⟩ := od.kd
    exact ⟨c, fun p hp => by obtain ⟨d, hd, e⟩ := mem p hp; rw [e]; exact hc' d hd⟩
  · obtain ⟨Z, rfl, hZ⟩ := list_lift keyP (xs.zip ds) L' fun p hp => sub p (pm.mem_iff.mp hp)
    have up3 : Up s1.heap s'.heap := fun b o e => up2 b o (up b o e)
    have hsz : s1.heap.objs.size ≤ pa := by
      refine Nat.le_of_lt_succ (Nat.lt_succ_of_lt ?_)
      have ⟨o, ho, _⟩ := R.ob
      exact Nat.lt_of_lt_of_le (Heap.lt_size ho) hp
    have hvals : Vals (Z.map (·.1)) (Z.map fun z => Value.ref (keyP z).1) := by
      have key : ∀ Z : List (V × D), (∀ z ∈ Z, z ∈ xs.zip ds) → Vals (Z.map (·.1)) (Z.map fun z => Value.ref (keyP z).1) := by
        intro Z
        induction Z with
        | nil => intro _; exact .nil
        | cons z Z ih =>
          intro h
          have ⟨zr, zd⟩ := dpa_zip hr z (h z List.mem_cons_self)
          obtain ⟨⟨es, e⟩, _, _⟩ := hk _ zd
          obtain ⟨v, d⟩ := z
          dsimp only at zr e
          subst e
          obtain ⟨b, rfl⟩ := zr.tupRef
          exact .cons rfl (ih fun y hy => h y (List.mem_cons_of_mem _ hy))
      exact key Z hZ
    have hlz : (Z.map (·.1)).length ≤ sizeLine := by
      have e1 := pm.length_eq
      have e2 := SetM.few (s := { s1 with heap := h', toks := tk }) R
      rw [List.length_map] at e1 ⊢
      rw [sizeLine_eq]
      omega
    have hn : H1 pa = none := I1.hok.fresh hsz
    have hobj : s'.heap.get? pa = some (seqObj "list" (Z.map fun z => Value.ref (keyP z).1).toArray c) := by
      rw [hg', List.map_map]
      rfl
    have J : Inv X pins σ (upd H1 pa (.lst (Z.map (·.1)))) { s1 with heap := s'.heap, gens := s'.gens, drawn := s'.drawn, toks := s'.toks } :=
      I1.call (ch := []) (Un.laid up3 hsz hn) (I1.hok.laid up3 hsz ⟨hlz, _, c, by simpa using hvals, hobj⟩) (by rw [g2]; exact I1.bare) (fun _ z => nomatch z)
    have es' : s' = { s1 with heap := s'.heap, gens := s'.gens, drawn := s'.drawn, toks := s'.toks } := by
      obtain ⟨h1, g1, d1, t1, o1⟩ := s'
      dsimp only at o2
      subst o2
      rfl
    rw [es']
    have em : (Z.map keyP).map (·.2) = Z.map fun q => nk q.2 := by rw [List.map_map]; rfl
    refine ⟨.ref pa, _, J, rfl, q1 Z pa hZ (fun d hd => ?_) ?_ ?_ hn⟩
    · rw [← em]
      exact (pm.map (·.2)).mem_iff.mpr (all d hd)
    · rw [← em]
      exact (pm.map (·.2)).nodup_iff.mpr R.diff
    · exact List.pairwise_map.mp pw
theorem pe_lenSet (hc : X.calm = true) (hu : X.A.units + 64 < cLine) (hg : Gl X "len") (hm : X.mg "len" = none) (hg2 : Gl X "set") (hm2 : X.mg "set" = none) (ha : PE X a ta)
    (na : starEach [a] X.env = (false, eval a X.env) :: starEach [] X.env := by rfl) : PE X (.Call (.Name "len" p) [.Call (.Name "set" p2) [a] [] q] [] pos) (tV1 (rLenSet X.K) ta) := by
  refine ⟨fun pins s σ H Q I h => ?_⟩
  refine Call_ (ld_blt I hg hm PySem.boot_len ?_)
  refine PyProof.Rows.callWith_builtin1 (PyProof.Rows.args_cons ?_ rfl) rfl rfl
  refine Call_ (ld_blt I hg2 hm2 PyProof.Rows.boot_set ?_)
  refine PyProof.Rows.callWith_type1 (PyProof.Rows.args_cons (thn (ha.run pins s σ H _ I h) fun v s1 ⟨x, H1, I1, r1, q1⟩ => PyProof.Rows.args_nil ?_) na) na rfl
  obtain ⟨xs, ds, hin, q1⟩ := q1
  refine set_arg hc hu I1 r1 hin fun h' tk L es ep t R sub all up va dep => ?_
  refine PyProof.Rows.args_nil ?_
  obtain ⟨l, rfl, hs, hr, hk, hlen⟩ := hin
  obtain ⟨Z, rfl, hZ⟩ := list_lift keyP (xs.zip ds) L sub
  have I2 : Inv X pins σ H1 { s1 with heap := h', toks := tk } := I1.kept fun b o e => up b o e
  obtain ⟨o, ho, hex, hd⟩ := R.ob
  have hsz := ents_len R.ents
  have hfew := SetM.few (s := { s1 with heap := h', toks := tk }) R
  have hf := SetM.fits (s := { s1 with heap := h', toks := tk }) R
  have em : (Z.map keyP).map (·.2) = (Z.map (·.2)).map nk := by rw [List.map_map, List.map_map]; rfl
  refine call_len_set ho hex hd hf (by omega) ⟨.int (Z.map (·.2)).length, H1, I2.tok _, ⟨_, by rw [hsz, List.length_map, List.length_map]⟩, q1 (Z.map (·.2)) (fun d hd => ?_) (fun d hd => ?_) ?_⟩
  · obtain ⟨z, hz, rfl⟩ := List.mem_map.mp hd
    exact (dpa_zip hr z (hZ z hz)).2
  · rw [← em]; exact all d hd
  · rw [← em]; exact R.diff
end
/-! ### the tree layer's rules -/
def kSortSet : N1 := fun x R => ∃ ds, seqD x = some ds ∧ (∀ d ∈ ds, KeyD d) ∧ ds.length < 1000 ∧ OrdD ds ∧
  ∀ es : List D, (∀ d, d ∈ es ↔ d ∈ ds) → es.Nodup → es.Pairwise (fun x y => ltK (nk x) (nk y) = true) → R es
def gLenSet : G1 := fun x R => ∃ ds, seqD x = some ds ∧ (∀ d ∈ ds, KeyD d) ∧ ds.length < 1000 ∧ ∀ es : List D, (∀ d, d ∈ es ↔ d ∈ ds) → es.Nodup → R (.int es.length)
theorem mem_keys {L ds : List D} (hk : ∀ d ∈ ds, KeyD d) (h1 : ∀ d ∈ L, d ∈ ds) (h2 : ∀ d ∈ ds, nk d ∈ L.map nk) : ∀ d, d ∈ L ↔ d ∈ ds := fun d => ⟨h1 d, fun hd => by
  obtain ⟨e, he, q⟩ := List.mem_map.mp (h2 d hd)
  rw [nk_inj d e (hk d hd).va (hk e (h1 e he)).va q.symm]
  exact he⟩
variable {C : Ct}
theorem o_sortset : Op1N C (rSortSet C.X.K) kSortSet := by
  intro F own H v x Q R e dv k ⟨ds, e1, hk, hl, od, q⟩
  obtain ⟨a, vs, rfl, hs, r⟩ := seqR e dv e1
  refine ⟨vs, ds, ⟨a, rfl, hs, dpa_mono e r, hk, hl⟩, od, fun L p h1 h2 h3 h4 hp => ?_⟩
  have hm := mem_keys (L := L.map (·.2)) hk (fun d hd => by obtain ⟨z, hz, rfl⟩ := List.mem_map.mp hd; exact (dpa_zip r z (h1 z hz)).2) (fun d hd => by rw [List.map_map]; exact h2 d hd)
  have hnd : ((L.map (·.2)).map nk).Nodup := by rw [List.map_map]; exact h3
  refine k (L.map (·.2)) F H p (L.map (·.1)) (q _ hm (nodup_of_map hnd) ?_) (.refl e) hp (dpa_of fun z hz => (dpa_zip r z (h1 z hz)).1)
  have h5 : (L.map (·.2)).Pairwise (fun x y => ltK (nk y) (nk x) = false) := List.pairwise_map.mpr h4
  have h6 : (L.map (·.2)).Pairwise (fun x y => nk x ≠ nk y) := List.pairwise_map.mp hnd
  refine (h5.and h6).imp fun {x y} h => ?_
  cases c : ltK (nk x) (nk y) with
  | true => rfl
  | false => exact absurd (ltK_tot _ _ c h.1) h.2
theorem o_lenset : Op1 C (rLenSet C.X.K) gLenSet := by
  intro F own H v x Q R e dv k ⟨ds, e1, hk, hl, q⟩
  obtain ⟨a, vs, rfl, hs, r⟩ := seqR e dv e1
  refine ⟨vs, ds, ⟨a, rfl, hs, dpa_mono e r, hk, hl⟩, fun L h1 h2 h3 => ?_⟩
  exact k _ F H _ (q L (mem_keys hk h1 h2) (nodup_of_map h3)) (.refl e) (.int _)
section
variable {p : Bool} {e : Expr} {f : EF} {g : RF} {p1 p2 p3 pos : Pos}
theorem hn_sortset (bl : Bl C.X.mg) (gl : Gl C.X "sorted") (gl2 : Gl C.X "set") (h : HE C p e f) (na : starEach [e] C.X.env = (false, eval e C.X.env) :: starEach [] C.X.env := by rfl) :
    HN C p (.Call (.Name "sorted" p1) [.Call (.Name "set" p2) [e] [] p3] [] pos) (n1 kSortSet f) :=
  hn_one (fun {ta} h => ⟨_, pe_sortSet C.calm (by have := C.hu; omega) gl (bl.sorted) gl2 (bl.set) h na, fun _ _ _ z => z⟩) o_sortset h
theorem hn_sortsetR (bl : Bl C.X.mg) (gl : Gl C.X "sorted") (gl2 : Gl C.X "set") (h : HR C e g) (na : starEach [e] C.X.env = (false, eval e C.X.env) :: starEach [] C.X.env := by rfl) :
    HN C true (.Call (.Name "sorted" p1) [.Call (.Name "set" p2) [e] [] p3] [] pos) (n1r kSortSet g) :=
  hn_oneR (fun {ta} h => ⟨_, pe_sortSet C.calm (by have := C.hu; omega) gl (bl.sorted) gl2 (bl.set) h na, fun _ _ _ z => z⟩) o_sortset h
theorem he_lenset (bl : Bl C.X.mg) (gl : Gl C.X "len") (gl2 : Gl C.X "set") (h : HE C p e f) (na : starEach [e] C.X.env = (false, eval e C.X.env) :: starEach [] C.X.env := by rfl) :
    HE C p (.Call (.Name "len" p1) [.Call (.Name "set" p2) [e] [] p3] [] pos) (s1 gLenSet f) :=
  he_one (fun {ta} h => ⟨_, pe_lenSet C.calm (by have := C.hu; omega) gl (bl.len) gl2 (bl.set) h na, fun _ _ _ z => z⟩) o_lenset h
theorem he_lensetR (bl : Bl C.X.mg) (gl : Gl C.X "len") (gl2 : Gl C.X "set") (h : HR C e g) (na : starEach [e] C.X.env = (false, eval e C.X.env) :: starEach [] C.X.env := by rfl) :
    HE C true (.Call (.Name "len" p1) [.Call (.Name "set" p2) [e] [] p3] [] pos) (s1r gLenSet g) :=
  he_oneR (fun {ta} h => ⟨_, pe_lenSet C.calm (by have := C.hu; omega) gl (bl.len) gl2 (bl.set) h na, fun _ _ _ z => z⟩) o_lenset h
end
end TL
set_option Elab.async false
set_option linter.all false
set_option maxRecDepth 100000
set_option maxHeartbeats 4000000
namespace TL
open PySem PySem.Spec PyProof.Rows L2

section
variable {P : Program} {w : World} {A : Around} {E : Value → Shared → Prop} {s : Shared}
theorem collect_sq {l : Addr} {o : Obj} {vs : List Value} {n : Nat} {Q : List Value → Shared → Prop} (ho : s.heap.get? l = some o) (hc : o.cls = .type "list" ∨ o.cls = .type "tuple") (hd : o.data = .seq vs.toArray n) (hz : vs.length ≤ sizeLine)
    (h : Q vs { s with heap := (s.heap.push (seqObj "list" #[] 0)).update s.heap.objs.size (Obj.mapSeq (· ++ vs.toArray)) }) : wpAny (model P w) A (collect (.ref l)) Q E s := by
  unfold collect
  refine wpAny_bind (wpAny_runValue (codeAny_builtin entry_proto_collect' ?_))
  show wpAny _ _ (newList [] >>= fun x => again (.builtin "list.__iadd__" ⟨[x, .ref l], []⟩)) _ _ s
  refine wpAny_bind (wpAny_newList (wpAny_pure ⟨Code.quiet_builtin _ (by decide +kernel), codeAny_builtin entry_list_iadd' ?_⟩))
  show wpAny _ _ (Builtin.List.listExtendWith (.ref s.heap.objs.size) (.ref l) (.ref s.heap.objs.size)) _ _ { s with heap := s.heap.push (seqObj "list" #[] 0) }
  unfold Builtin.List.listExtendWith
  have ho' : (s.heap.push (seqObj "list" #[] 0)).get? l = some o := Heap.get?_push_of_some _ ho
  obtain ⟨T, hT, ht⟩ : ∃ T, o.cls = .type T ∧ ((Value.type T == Value.type "list") = true ∨ (Value.type T == Value.type "tuple") = true) := by
    rcases hc with hc | hc
    · exact ⟨_, hc, .inl rfl⟩
    · exact ⟨_, hc, .inr rfl⟩
  refine wpAny_bind (wpAny_typeOf (T := T) ⟨o, ho', hT⟩ ?_)
  rw [if_pos (by rcases ht with ht | ht <;> rw [ht] <;> simp)]
  refine wpAny_bind (listItems_at ho' hd ?_)
  refine wpAny_bind (listItems_at (xs := #[]) (n := 0) (Heap.get?_push_size _ rfl) rfl ?_)
  rw [if_neg (by simp)]
  refine wpAny_bind (listUpdate_at (xs := #[]) (n := 0) (Heap.get?_push_size _ rfl) rfl ?_ (Nat.zero_le _) (by show (#[] ++ vs.toArray).size ≤ sizeLine + 1; simp only [Array.size_append, List.size_toArray, List.length_nil]; omega))
  refine wpAny_pure ?_
  show wpAny (model P w) A (load s.heap.objs.size >>= fun o => match o.data with
      | .seq xs _ => pure xs.toList
      | _ => unsupported "internal:collect") Q E { s with heap := (s.heap.push (seqObj "list" #[] 0)).update s.heap.objs.size (Obj.mapSeq (· ++ vs.toArray)) }
  refine wpAny_bind (wpAny_load (get?_update_seq (Heap.get?_push_size _ rfl) _) ?_)
  show wpAny _ _ (pure ((#[] : Array Value) ++ vs.toArray).toList) Q E _
  have e : ((#[] : Array Value) ++ vs.toArray).toList = vs := by simp
  rw [e]
  exact wpAny_pure h
/-- sorted(xs) of a list or tuple of keys -/
theorem sorted_sq {l : Addr} {o : Obj} {vs : List Value} {ks : List NKey} {n : Nat} {Q : Value → Shared → Prop} (ho : s.heap.get? l = some o) (hc : o.cls = .type "list" ∨ o.cls = .type "tuple") (hd : o.data = .seq vs.toArray n) (hz : vs.length ≤ sizeLine)
    (hv : VaAll s.heap ks vs) (hdep : ∀ k ∈ ks, k.depth ≤ 8) (hu : A.units + 16 < cLine) (hcmp : 2 ≤ ks.length → (∀ x ∈ ks, ∀ y ∈ ks, cmpK x y = true) ∧ ∃ c, ∀ k ∈ ks, kdK k = some c)
    (h : ∀ (h' : Heap) (c : Nat) (out : List Value), Up s.heap h' → h'.get? (s.heap.objs.size + 1) = some (seqObj "list" out.toArray c) → out.Perm vs → out.Pairwise (fun v u => ltV s.heap u v = false) → Q (.ref (s.heap.objs.size + 1)) { s with heap := h' }) :
    wpAny (model P w) A (call (.builtin "sorted") [.ref l]) Q E s := by
  refine Calls.call_function_entry kind_sorted plain_sorted entry_sorted (args_sorted1 _) ?_
  unfold Builtin.«sorted»
  refine wpAny_bind (m := checkCount "sorted" 1 1 _) (wpAny_pure ?_)
  refine wpAny_bind (collect_sq ho hc hd hz ?_)
  generalize hh1 : (s.heap.push (seqObj "list" #[] 0)).update s.heap.objs.size (Obj.mapSeq (· ++ vs.toArray)) = h1
  have hsz : h1.objs.size = s.heap.objs.size + 1 := by
    rw [← hh1, Heap.size_update, size_push']
  have up1 : Up s.heap h1 := fun b u q => by
    rw [← hh1, Heap.get?_update_ne _ _ _ _ (Nat.ne_of_lt (Heap.lt_size q))]
    exact Heap.get?_push_of_some _ q
  refine wpAny_bind (wpAny_newList ?_ hz)
  have hoL : (h1.push (seqObj "list" vs.toArray 0)).get? h1.objs.size = some (seqObj "list" vs.toArray 0) := Heap.get?_push_size _ rfl
  have up2 : Up s.heap (h1.push (seqObj "list" vs.toArray 0)) := fun b u q => Heap.get?_push_of_some _ (up1 b u q)
  have hv2 : VaAll (h1.push (seqObj "list" vs.toArray 0)) ks vs := hv.stay fun b u q _ => up2 b u q
  have hl := hv.len
  refine wpAny_bind (wpAny_holding (wpAny_call_entry slot_list_sort ⟨_, hoL, rfl⟩ entry_list_sort (SrtO.list_sort_ord (s := { s with heap := h1.push (seqObj "list" vs.toArray 0) }) (swoV (h1.push (seqObj "list" vs.toArray 0))) hoL hz (fun h2 => ?_) fun out hs hb => ⟨_, rfl, ?_⟩) (args_list_sort _)))
  · obtain ⟨c1, c2⟩ := hcmp (by omega)
    refine sortableK (s := { s with heap := h1.push (seqObj "list" vs.toArray 0) }) h2 hv2 hdep (by simp only [Around.in1_units] at hu ⊢; omega) c1 c2 fun o' e => ?_
    have e' := Option.some.inj (hoL.symm.trans e)
    rw [← e']
    exact fun c => absurd (Value.type.inj c) (by decide)
  · obtain ⟨c, hcc⟩ := sortedHeap_at (vs := vs) (out := out.toArray) hoL
    refine wpAny_pure ⟨_, rfl, ?_⟩
    have q := h (sortedHeap (h1.push (seqObj "list" vs.toArray 0)) h1.objs.size vs out.toArray) c out (fun b u e => ?_) (by rw [← hsz]; exact hcc) hb.perm ?_
    · rw [← hsz] at q
      exact q
    · have hlt := Heap.lt_size (up1 b u e)
      rw [sortedHeap_old (Nat.ne_of_lt hlt) (by rw [size_push']; exact Nat.lt_succ_of_lt hlt)]
      exact up2 b u e
    · refine List.Pairwise.imp_of_mem (fun {v u} m1 m2 (hvu : ltV _ u v = false) => ?_) hs
      obtain ⟨k1, _, q1⟩ := hv.mem v (hb.perm.mem_iff.mp m1)
      obtain ⟨k2, _, q2⟩ := hv.mem u (hb.perm.mem_iff.mp m2)
      unfold ltV at hvu ⊢
      rw [keyOf_eq q1, keyOf_eq q2]
      rw [keyOf_eq (q1.up up2), keyOf_eq (q2.up up2)] at hvu
      exact hvu
end
theorem nks_map : ∀ ds : List D, nks ds = ds.map nk
  | [] => rfl
  | d :: ds => by rw [nks, List.map_cons, nks_map ds]
theorem vaDs_all : ∀ {ds : List D}, (∀ d ∈ ds, vaD d = true) → vaDs ds = true
  | [], _ => rfl
  | d :: ds, h => by
    rw [vaDs, h d List.mem_cons_self, vaDs_all fun e he => h e (List.mem_cons_of_mem _ he)]
    rfl
def rSortedD (K : PySem.W.Frag) : List V → Hp → VK → Prop := fun us H Q => ∃ (l : Addr) (xs : List V) (ds : List D), us = [V.ref l] ∧ (SqL K H l xs ∨ SqT K H l xs) ∧ RpAll K H xs ds ∧ (∀ d ∈ ds, vaD d = true ∧ (nk d).depth ≤ 8) ∧ (2 ≤ ds.length → OrdD ds) ∧
  ∀ (L : List (V × D)) (p : Addr), L.Perm (xs.zip ds) → L.Pairwise (fun q r => ltK (nk r.2) (nk q.2) = false) → H p = none → Q (.ref p) (upd H p (.lst (L.map (·.1))))
section
variable {X : Cx} {pins : List (Addr × Obj)} {σ : L2.St} {H : Hp} {s : Shared}
theorem sq_at (I : Inv X pins σ H s) {a : Addr} {xs : List V} (h : SqL X.K H a xs ∨ SqT X.K H a xs) : ∃ (its : List Value) (o : Obj) (n : Nat), Vals xs its ∧ s.heap.get? a = some o ∧ (o.cls = .type "list" ∨ o.cls = .type "tuple") ∧ o.data = .seq its.toArray n ∧ xs.length ≤ sizeLine := by
  rcases h with h | h
  · obtain ⟨its, r, ⟨o, n, ho, hc, _, hd⟩, hz⟩ := I.list h
    exact ⟨its, o, n, r, ho, .inl hc, hd, hz⟩
  · obtain ⟨its, r, ⟨o, ho, hc, n, hd⟩, hz⟩ := I.tuple h
    exact ⟨its, o, n, r, ho, .inr hc, hd, hz⟩
theorem cr_sortedD (hc : X.calm = true) (hu : X.A.units + 64 < cLine) : CallR X (.builtin "sorted") (rSortedD X.K) := by
  intro pins s σ H us ws Q I r h
  obtain ⟨l, xs, ds, rfl, hs, hr, hk, od, q⟩ := h
  rw [Vals.ref1 r]
  obtain ⟨its, o, n, rv, ho, hcl, hd, hz⟩ := sq_at I hs
  have hv : VaAll s.heap (ds.map nk) its := by
    rw [← nks_map]
    exact vas_rp I hr (vaDs_all fun d hd => (hk d hd).1) rv
  have hl1 := dpa_len hr
  have hl2 := rv.length
  refine sorted_sq ho hcl hd (by omega) hv (fun k hk' => ?_) (by omega) (fun h2 => ?_) fun h' c out up hg pm pw => ?_
  · obtain ⟨d, hd', rfl⟩ := List.mem_map.mp hk'
    exact (hk d hd').2
  · rw [List.length_map] at h2
    have od := od h2
    refine ⟨fun x hx y hy => ?_, ?_⟩
    · obtain ⟨d, hd', rfl⟩ := List.mem_map.mp hx
      obtain ⟨e, he', rfl⟩ := List.mem_map.mp hy
      exact od.cmp d hd' e he'
    · obtain ⟨c, hc'⟩ := od.kd
      exact ⟨c, fun k hk' => by obtain ⟨d, hd', rfl⟩ := List.mem_map.mp hk'; exact hc' d hd'⟩
  · have ez : its = (its.zip (xs.zip ds)).map (·.1) := by
      rw [List.map_fst_zip]
      rw [List.length_zip]
      omega
    rw [ez] at pm
    obtain ⟨Z, pz, rfl⟩ := perm_lift _ _ _ pm
    have zip_ok : ∀ z ∈ its.zip (xs.zip ds), RelV z.2.1 z.1 ∧ Va s.heap (nk z.2.2) z.1 := by
      have key : ∀ (xs : List V) (ds : List D) (its : List Value), RpAll X.K H xs ds → Vals xs its → (∀ d ∈ ds, vaD d = true) → ∀ z ∈ its.zip (xs.zip ds), RelV z.2.1 z.1 ∧ Va s.heap (nk z.2.2) z.1 := by
        intro xs ds its h1
        revert its
        induction h1 using RpAll.rec (motive_1 := fun _ _ _ => True) with
        | non => trivial
        | bl => trivial
        | int => trivial
        | str => trivial
        | lst => trivial
        | tup => trivial
        | nil => intro its h2 _ z hz; simp at hz
        | cons a t _ ih =>
          intro its h2 h3 z hz
          cases h2 with
          | cons r rs =>
            rw [List.zip_cons_cons, List.zip_cons_cons] at hz
            rcases List.mem_cons.mp hz with e | hz
            · subst e
              exact ⟨r, va_rp I a (h3 _ List.mem_cons_self) r⟩
            · exact ih _ rs (fun d hd => h3 d (List.mem_cons_of_mem _ hd)) z hz
      exact key xs ds its hr rv fun d hd => (hk d hd).1
    have hvals : Vals ((Z.map (·.2)).map (·.1)) (Z.map (·.1)) := by
      have key : ∀ Z : List (Value × (V × D)), (∀ z ∈ Z, RelV z.2.1 z.1) → Vals ((Z.map (·.2)).map (·.1)) (Z.map (·.1)) := by
        intro Z
        induction Z with
        | nil => intro _; exact .nil
        | cons z Z ih => intro h; exact .cons (h z List.mem_cons_self) (ih fun y hy => h y (List.mem_cons_of_mem _ hy))
      exact key Z fun z hz => (zip_ok z (pz.mem_iff.mp hz)).1
    have pl : (Z.map (·.2)).Perm (xs.zip ds) := by
      have e : xs.zip ds = (its.zip (xs.zip ds)).map (·.2) := by
        rw [List.map_snd_zip]
        rw [List.length_zip]
        omega
      rw [e]
      exact pz.map _
    have hlz : ((Z.map (·.2)).map (·.1)).length ≤ sizeLine := by
      have e := pl.length_eq
      rw [List.length_zip] at e
      rw [List.length_map]
      omega
    have hn : H (s.heap.objs.size + 1) = none := I.hok.fresh (Nat.le_succ _)
    refine ⟨.ref _, upd H (s.heap.objs.size + 1) (.lst ((Z.map (·.2)).map (·.1))), I.laid (t' := s.toks) up (Nat.le_succ _) ⟨hlz, Z.map (·.1), c, hvals, hg⟩, rfl, q (Z.map (·.2)) _ pl ?_ hn⟩
    refine List.pairwise_map.mpr ((List.pairwise_map.mp pw).imp_of_mem fun {x y} hx hy hxy => ?_)
    unfold ltV at hxy
    rw [keyOf_eq (zip_ok x (pz.mem_iff.mp hx)).2, keyOf_eq (zip_ok y (pz.mem_iff.mp hy)).2] at hxy
    exact hxy
end
/-- sorted(x) -/
def kSorted : N1 := fun x R => ∃ ds, seqD x = some ds ∧ (∀ d ∈ ds, vaD d = true ∧ (nk d).depth ≤ 8) ∧ (2 ≤ ds.length → OrdD ds) ∧ ∀ es : List D, es.Perm ds → es.Pairwise (fun x y => ltK (nk y) (nk x) = false) → R es
variable {C : Ct}
theorem c_sorted : CallR C.X (.builtin "sorted") (rSortedD C.X.K) := cr_sortedD C.calm (by have := C.hu; omega)
theorem o_sorted : Op1N C (fun v => rSortedD C.X.K [v]) kSorted := by
  intro F own H v x Q R e dv k ⟨ds, e1, hk, od, q⟩
  obtain ⟨a, vs, rfl, hs, r⟩ := seqR e dv e1
  refine ⟨a, vs, ds, rfl, hs, dpa_mono e r, hk, od, fun L p h1 h2 hp => ?_⟩
  have hl := dpa_len r
  have e2 : (L.map (·.2)).Perm ds := by
    have z := h1.map (·.2)
    rw [List.map_snd_zip (by omega)] at z
    exact z
  exact k (L.map (·.2)) F H p (L.map (·.1)) (q _ e2 (List.pairwise_map.mpr h2)) (.refl e) hp (dpa_of fun z hz => (dpa_zip r z (h1.mem_iff.mp hz)).1)
end TL
set_option Elab.async false
set_option linter.all false
set_option maxRecDepth 100000
set_option maxHeartbeats 4000000
/-! An own exception class (any depth over ValueError) whose __init__ begins with super().__init__(e). -/
namespace TL
open PySem PySem.Spec PyProof.Rows L2 NdefX

theorem boot_super : bootBuiltins "super" = some (.type "super") := by decide +kernel
structure SupFn (P : Program) (K : PySem.W.Frag) (mg : Str → Option Value) (N ps : List Str) (F : NdefX.NF) (f cc C : Addr) (fd : FuncData) : Prop where
  cl : F.cl = [(("__class__" : Str), cc)]
  lk : ∃ oc od osl dV kV doc pm an ct, fd = PySem.W.fnX F.name F.qual F.params F.body F.scope F.cl dV kV doc pm an (.ref F.c) ct ∧ K.lookup f = some ⟨oc, od, .func fd, osl⟩
  cd : PySem.W.codeIn K (.ref F.c) F.qual = true
  code : ∃ ccl cdd vs ccs file tf, K.lookup F.c = some ⟨ccl, cdd, .fields vs, ccs⟩ ∧ vs[2]? = some (.str file tf) ∧ ((P.main.file : Str) == file) = true
  cell : ∃ cl cld csl, K.lookup cc = some ⟨cl, cld, .cell (some (.ref C)), csl⟩
  T : OexC K C
  sub : PySem.W.mroIn K C (.ref C) = some true
  third : PySem.W.nsIn K cStatics "thirdparty.any" = some none
  sup : PySem.W.ks_superIn K C C "__init__" = some (some (.builtin "ValueError.__init__"))
  ve : PySem.W.subIn K (.ref C) (.type "ValueError") = some true
  S : NScope N ps ["__class__"] F.scope
  self : ∃ ar, (F.params.posonlyargs ++ F.params.args).head? = some ar ∧ ps[0]? = some ar.arg
  gs : F.scope.names.lookup ("super" : Str) = some .globalImplicit
  top : (P.main.scope.names.lookup ("super" : Str)).isSome = false
  mgs : mg "super" = none

section
variable {X : Cx} {pins : List (Addr × Obj)} {σ : L2.St} {H : Hp} {s : Shared} {a C u : Addr} {us : List Value} {Q : Value → Shared → Prop} {E : Value → Shared → Prop} {A : Around}
/-- the bound ValueError.__init__ called: nothing of it is told -/
theorem bw_call (T : OexC X.K C) (I : Inv X pins σ H s) (e : H a = some (exo a C none)) (hu : s.heap.get? u = some (PySem.W.kxs_mw "ValueError.__init__" a)) (hl : us.length ≤ sizeLine) (h : ∀ s', Inv X pins σ H s' → Q .none s') :
    wpAny (model X.prog X.w) A (call (.ref u) us) Q E s := by
  obtain ⟨nm, q, N, bs, bm, sn, sub, ab, col, dd, k0, k1, k2, k3, k5, hC, hbm⟩ := T.cls
  obtain ⟨t1, ho⟩ := exo_at I.hok e
  obtain ⟨hp, g, d, t, os⟩ := s
  refine wpAny_call (codeAny_of_tree ?_)
  show wpAny _ A.in1 (callAny (.ref u) ⟨us, []⟩) _ _ _
  simp only [callAny]
  refine wpAny_bind (wpAny_load hu ?_)
  simp only [PySem.W.kxs_mw, show (Value.type "method-wrapper" == Value.type "method" || Value.type "method-wrapper" == Value.type "builtin_function_or_method" || Value.type "method-wrapper" == Value.type "method-wrapper") = true by decide, if_true]
  refine PySem.W.KFB.if_so (by decide) ?_
  refine wpAny_bind (PySem.W.check_bound_init F.excBase_ValueError.toExcCallFacts (I.kIn _ _ hC) ho rfl ?_)
  refine wpAny_bind (wpAny_pure (wpAny_pure ?_))
  refine ⟨plainId_quiet F.excBase_ValueError.init.plain _, codeAny_builtin F.excBase_ValueError.initEntry ?_⟩
  refine PySem.W.exc_init_tree (cls := .ref C) (t0 := t1) (dv := none) (c2 := .none) (c3 := .none) (b4 := .bool false) ho hl fun h' k hx ht => ?_
  have J := I.write (t' := t) (x := a) (e := a) (o := exo a C none) (by rw [e]; exact True.intro) (.inl rfl) k ⟨_, hx⟩ (exo_ok hx)
  have eu : upd H a (exo a C none) = H := by
    funext b
    by_cases hb : b = a
    · rw [hb, upd_same, e]
    · rw [upd_ne hb]
  rw [eu] at J
  exact h _ J
end

section
variable {P : Program} {w : World} {K : PySem.W.Frag} {mg : Str → Option Value} {base : Heap} {N ps : List Str} {F : NdefX.NF} {f cc C : Addr} {fd : FuncData} {k : Nat} {sp : Sp}
theorem super_fn {CX : CXT} {p0 p1 p2 p3 p4 : Pos} {e1 : Expr} {rest : List Stmt} {pl : PySem.Env → Sem Bool}
    (hev : ∀ L, eval (.Call (.Attribute (.Call (.Name "super" p0) [] [] p1) "__init__" p2) [e1] [] p3) (envF F f L) = (do
      let ov ← attributeBase (.Call (.Name "super" p0) [] [] p1) "__init__" (envF F f L) (eval (.Call (.Name "super" p0) [] [] p1) (envF F f L))
      standAt p2.atName
      let (g, first) ← holding [ov] (getMethod ov "__init__" (pl (envF F f L)))
      callWith p3 g first (backTo p3 (starEach [e1] (envF F f L))) [])) (U : SupFn P K mg N ps F f cc C fd) (hb : F.body = .Expr (.Call (.Attribute (.Call (.Name "super" p0) [] [] p1) "__init__" p2) [e1] [] p3) p4 :: rest)
    (len : ∀ vs H Q E, sp vs H Q E → vs.length = ps.length)
    (hi : ∀ A outer s H E, interactive (ncx CX P w K mg base N F f A outer s H E).env = false) 
    (hsw : ∀ A outer s H E, swapsWith (.Call (.Attribute (.Call (.Name "super" p0) [] [] p1) "__init__" p2) [e1] [] p3) none p4.line (ncx CX P w K mg base N F f A outer s H E).env = pure false)
    (hst : ∀ A outer s H E, starEach [e1] (ncx CX P w K mg base N F f A outer s H E).env = (false, eval e1 (ncx CX P w K mg base N F f A outer s H E).env) :: starEach [] (ncx CX P w K mg base N F f A outer s H E).env)
    (hbody : ∀ (A : Around) (outer : List PySem.Env) (s : Shared) (H : Hp) (vs : List V) (Q : VK) (E : XK), Room k (A.deeper (envF F f s.heap.objs.size)) → sp vs H Q E →
      ∃ a ws te t, vs = .ref a :: ws ∧ PE (ncx CX P w K mg base N F f A outer s H E) e1 te ∧ PSs (ncx CX P w K mg base N F f A outer s H E) rest t ∧ H a = some (exo a C none) ∧
        te (startF N vs [none]) H (fun x H1 => [x].length = 1 ∧ H1 a = some (exo a C none) ∧ t { nx := fun _ H' => Q .non H', rt := Q } (startF N vs [none]) H1)) :
    FnOk P w K mg base CX (k + 1) f fd ps sp := by
  refine ⟨len, fun A outer s H args us vs Q E hr e0 hbind r hsp => ?_⟩
  have hl := len _ _ _ _ hsp
  obtain ⟨oc, od, osl, dV, kV, doc, pm, an, ct, rfl, lk⟩ := U.lk
  have KX : K.In s.heap := e0.mod.kin.keeps fun b o e => (e0.bs b o e).1
  have lim : s.heap.NoLimit := e0.mod.nolimit.keeps fun b o e => (e0.bs b o e).1
  obtain ⟨ccl, cld, csl, hcell⟩ := U.cell
  obtain ⟨kcl, kcd, kvs, kcs, file, tf, hcode, hvs, hfile⟩ := U.code
  have CA : CellsAt F.cl ["__class__"] [none] s.heap H := by
    rw [U.cl]
    refine ⟨rfl, fun y c e => ?_, fun x y c h1 h2 => ?_, fun i y e => ?_⟩
    · have hc : c = cc := by
        simp only [List.lookup] at e
        split at e
        · exact (Option.some.inj e).symm
        · cases e
      subst hc
      have hbs := e0.bs _ _ (e0.mod.kin _ _ hcell)
      exact ⟨hbs.2, _, _, hbs.1, rfl⟩
    · have one : ∀ {x : Str} {c : Addr}, List.lookup x [(("__class__" : Str), cc)] = some c → x = "__class__" := fun {x c} e => by
        simp only [List.lookup] at e
        split at e
        · rename_i h; simpa using h
        · cases e
      rw [one h1, one h2]
    · cases i with
      | zero =>
        cases e
        exact ⟨cc, by simp [List.lookup], fun v z => (nomatch z)⟩
      | succ i => simp at e
  refine PySem.ks_codeAny_call_defAt (body := F.body) hr.depth (KX _ _ lk) rfl lim (PySem.W.codeRec_of KX U.cd) rfl hbind U.S.nocell (fun ⟨n, _⟩ hy => U.S.par n (List.of_mem_zip hy).1) (fun h₁ hns kp => ?_) U.S.co U.S.gen U.S.kind
  show PySem.wpAt (model P w) (A.deeper (envF F f s.heap.objs.size)) (.func F.body (envF F f s.heap.objs.size)) (execs F.body (envF F f s.heap.objs.size)) _ _ _
  obtain ⟨a, ws, te, t, rfl, hte, ht, ha, hq⟩ := hbody A outer s H vs Q E (hr.deeper _) hsp
  have I : Inv (ncx CX P w K mg base N F f A outer s H E) [] (startF N (.ref a :: ws) [none]) H { s with heap := h₁, toks := s.toks + (ps.zip us).length } := inv_startN U.S hr.hd e0 hl r CA hns kp
  have hi' := hi A outer s H E
  have hsw' := hsw A outer s H E
  have hst' := hst A outer s H E
  let X : Cx := ncx CX P w K mg base N F f A outer s H E
  have fin : ∀ fl s', SP X [] { nx := fun _ H' => Q .non H', rt := Q } fl s' → (fun f s' => CR CX outer P w H s Q E (.ok (.ret (match f with | .ret v => v | _ => .none))) s') fl s' := by
    intro fl s' hs
    have go : ∀ {σ' : L2.St} {H' : Hp} {v : V} {u : Value}, Inv X [] σ' H' s' → L2.RelV v u → Q v H' → CE outer P w H s Q u s' := fun {σ' H' v u} J rv q => by
      exact ⟨v, H', J.os, J.bare, J.base, J.hok, rv, q⟩
    cases fl with
    | ret u => obtain ⟨v, σ', H', J, rv, q⟩ := hs; exact go J rv q
    | next => obtain ⟨σ', H', J, q⟩ := hs; exact go (v := V.non) (u := Value.none) J rfl q
    | brk => obtain ⟨_, _, _, q⟩ := hs; exact q.elim
    | cont => obtain ⟨_, _, _, q⟩ := hs; exact q.elim
  rw [hb]
  refine PySem.ks_wpAt_execs_cons (PySem.ks_wpAt_Expr_any (PySem.ks_wpAt_MethodCall ?_ (hev _)) hi' hsw')
  obtain ⟨ar, har, hps⟩ := U.self
  have k1 : K.In h₁ := KX.keeps kp
  obtain ⟨nm, q, N', bs, bm, sn, sub, ab, col, dd, k0, k1', k2, k3, k5, hC, hbm⟩ := U.T.cls
  have hxe := exo_at I.hok ha
  obtain ⟨t1, hx⟩ := hxe
  obtain ⟨mb, hb1, hb2⟩ := e0.mod.blt
  have bk : ∀ b o, base.get? b = some o → h₁.get? b = some o := fun b o e => kp b o (e0.bs b o e).1
  refine PySem.ks_wpAt_super_base (env := envF F f s.heap.objs.size) U.gs (U.S.frk _ (by simp)) (by decide) rfl (k1 _ _ lk) rfl har rfl (k1 _ _ hcode) rfl hvs hfile U.top ?_
  refine PySem.W.ks_loadName_global U.S.kind U.gs (PySem.Calls.loadGlobal_builtin (env := envF F f s.heap.objs.size) (e0.mod.glob.keeps bk) U.mgs (hb1.keeps bk) ((hb2 _ (by decide)).trans boot_super) ⟨rfl, ?_⟩)
  refine wpAny_loadName_free U.S.kind (U.S.frk _ (by simp)) (c := cc) (show F.cl.lookup ("__class__" : Str) = some cc by rw [U.cl]; simp [List.lookup]) ⟨_, k1 _ _ hcell, rfl⟩ ?_
  obtain ⟨u0, us', rfl⟩ : ∃ u0 us', us = u0 :: us' := by
    cases r with
    | cons x y => exact ⟨_, _, rfl⟩
  obtain rfl : u0 = .ref a := by
    cases r with
    | cons x y => exact x
  have ndP : ps.Nodup := by
    have q := U.S.nd.sublist (List.take_sublist (ps.length + 1) N)
    have e : N.take (ps.length + 1) = ps ++ [("__class__" : Str)] := U.S.pre
    rw [e] at q
    exact (List.nodup_append.mp q).1
  have hself : (ps.zip (Value.ref a :: us')).reverse.lookup ar.arg = some (.ref a) := zip_look (i := 0) ndP hps rfl
  refine wpAny_loadName_local U.S.kind (U.S.par _ (List.mem_of_getElem? hps)) hns hself ?_
  have hCh := k1 _ _ hC
  refine PySem.ks_wpAny_isType_cls hCh rfl ⟨rfl, ?_⟩
  refine PySem.ks_wpAny_call_super hCh rfl hx rfl (fun c e => nomatch e) (PySem.W.looks_mroIn k1 U.sub) (fun h' e k => ?_)
  have k2' : K.In h' := k1.keeps k
  have hcl : PySem.W.clsIn K C = some { name := nm, bases := bs, mro := .ref C :: bm, ns := N', qualname := q, hasDict := true, slotNames := sn, subclasses := sub, abstract := ab, collection := col, hasDel := false } := by unfold PySem.W.clsIn; rw [hC] <;> rfl
  have hsup := U.sup
  unfold PySem.W.ks_superIn at hsup
  rw [hcl] at hsup
  have Ia : PySem.W.InstAt h' a { cls := .ref C, dict := none, data := .fields #[.ref t1, .none, .none, .none, .bool false, .none] } C none := ⟨k _ _ hx, rfl, rfl, trivial⟩
  have hmro : PySem.W.Looks (model P w) h' (mroOf (.ref C)) (.ref C :: bm) := fun A Q E s kk q => wpAny_bind ((PySem.W.looks_clsIn k2' hcl) A _ E s kk (wpAny_pure q))
  refine PySem.W.kxs_getMethod PySem.W.kxs_ValueError e (PySem.W.looks_opaque k2' U.third) hmro rfl k2' hsup (Ia.type.andThen (PySem.W.looks_subIn k2' U.ve)) (PySem.W.ks_ne k2' Ia hcl) (by decide) ?_
  dsimp only
  generalize hh2 : h'.push (PySem.W.kxs_mw "ValueError.__init__" a) = h2
  have up2 : ∀ b o, h₁.get? b = some o → h2.get? b = some o := fun b o z => by rw [← hh2]; exact Heap.get?_push_of_some _ (k _ _ z)
  have hu2 : h2.get? h'.objs.size = some (PySem.W.kxs_mw "ValueError.__init__" a) := by rw [← hh2]; exact Heap.get?_push_size _ rfl
  have I2 : Inv X [] (startF N (.ref a :: ws) [none]) H { heap := h2, gens := s.gens, drawn := s.drawn, toks := s.toks + (ps.zip (Value.ref a :: us')).length + 1, os := s.os } := (I.kept (t' := s.toks + (ps.zip (Value.ref a :: us')).length + 1) up2)
  have hnew : h₁.objs.size ≤ h'.objs.size := Nat.le_of_lt (Heap.lt_size e)
  have fp : FpOk X [] H h'.objs.size := I.fpOk hnew (I.hok.fresh hnew)
  have I3 : Inv X [(h'.objs.size, PySem.W.kxs_mw "ValueError.__init__" a)] (startF N (.ref a :: ws) [none]) H { heap := h2, gens := s.gens, drawn := s.drawn, toks := s.toks + (ps.zip (Value.ref a :: us')).length + 1, os := s.os } := I2.pins_of fun p hp => by
    obtain rfl := List.mem_singleton.mp hp
    exact ⟨hu2, fp.1, fp.2.1, fp.2.2.1, fun v z => nomatch z⟩
  have hpa : PA X [e1] (tCons te tNil) := pa_cons hte pa_nil hst'
  have hst2 : starEach [e1] (envF F f s.heap.objs.size) = (false, eval e1 (envF F f s.heap.objs.size)) :: starEach [] (envF F f s.heap.objs.size) := hst'
  have hrun := hpa.run p3 [(h'.objs.size, PySem.W.kxs_mw "ValueError.__init__" a)] _ (startF N (.ref a :: ws) [none]) H (fun vs' H1 => vs'.length = 1 ∧ H1 a = some (exo a C none) ∧ t { nx := fun _ H' => Q .non H', rt := Q } (startF N (.ref a :: ws) [none]) H1) I3 hq
  have hrun2 : wpAny (model P w) (A.deeper (envF F f s.heap.objs.size)) (spliced (backTo p3 (starEach [e1] (envF F f s.heap.objs.size)))) _ _ _ := hrun
  rw [hst2] at hrun2 ⊢
  refine PySem.W.kxs_callWith (i := "ValueError.__init__") (x := a) rfl (PySem.Calls.evalArgs_plain (wpAny_mono hrun2 (fun us1 s1 ⟨vs1, H1, I4, r1, q3, q1, q2⟩ => ?_) fun _ _ z => z))
  have hub := (I4.pin (h'.objs.size, PySem.W.kxs_mw "ValueError.__init__" a) (List.mem_append_right _ List.mem_cons_self)).1
  refine ⟨hub, ?_⟩
  refine bw_call (X := X) U.T I4 q1 hub (by
    have hz := r1.length
    show us1.length ≤ sizeLine
    rw [sizeLine_eq]
    omega) fun s' J => ?_
  refine wpAt_of_wpAny (wpAny_mono (ht.run [] _ _ H1 _ (J.pins_of fun p hp => nomatch hp) q2) (fun fl s' hs => fin fl s' hs) fun e s' hs => hs)
end
end TL
set_option Elab.async false
set_option linter.all false
set_option maxRecDepth 100000
set_option maxHeartbeats 4000000
namespace TL
open PySem PySem.Spec PyProof.Rows L2 NdefX

/-! ### an own exception is made -/
/-- __init__'s promise -/
def spInit (K : PySem.W.Frag) (C : Addr) (fn : List Str) (okd : List D → Prop) : Sp := fun vs H Q _ => ∃ (a : Addr) (ws : List V) (ds : List D) (F : Hp), vs = .ref a :: ws ∧ H a = some (exo a C none) ∧ F a = none ∧ Same F H ∧ RpAll K F ws ds ∧ ds.length = fn.length ∧ okd ds ∧
  ∀ (dx : Addr) (H' : Hp), (∀ b o, b ≠ a → H b = some o → H' b = some o) → H dx = none → H' a = some (exo a C (some dx)) → H' dx = some (exd dx (fn.zip ws).reverse) → Q .non H'
def ctI (P : Program) (w : World) (K : PySem.W.Frag) (mg : Str → Option Value) (base : Heap) (N ps : List Str) (F : NdefX.NF) (f : Addr) (A : Around) (outer : List PySem.Env) (s : Shared) (H : Hp) (E : XK) (k : Nat)
    (S : NScope N ps ["__class__"] F.scope) (hr : Room k (A.deeper (envF F f s.heap.objs.size))) : Ct where
  X := ncx (L2.CX P w) P w K mg base N F f A outer s H E
  wx := fun _ _ _ _ => False
  W := fun _ _ _ => False
  xc := fun _ => none
  calm := rfl
  po := PassesOwn.leaving
  nd := S.nd
  lv := k
  room := hr
section
variable {P : Program} {w : World} {K : PySem.W.Frag} {mg : Str → Option Value} {base : Heap} {N ps : List Str} {F : NdefX.NF} {f cc C : Addr} {fd : FuncData} {k : Nat} {okd : List D → Prop}
theorem init_start {H F0 : Hp} {ws : List V} {ds : List D} (e : Same F0 H) (r : RpAll K F0 ws ds) {v0 : V} :
    SInv K (fun b => if F0 b = none then H b else none) F0 (fun _ => none) H (some v0 :: ws.map some ++ [none]) (.un :: ds.map .fz ++ [.un]) := by
  have hB : ∀ a o, (if F0 a = none then H a else none) = some o → F0 a = none ∧ H a = some o := fun a o e => by
    split at e
    · exact ⟨by assumption, e⟩
    · cases e
  refine ⟨e, fun a o h => (hB a o h).2, fun a o h => ⟨(hB a o h).1, rfl⟩, fun a i h => (by cases h), by simp [dpa_len r], fun i s u e1 e2 => ?_⟩
  rcases i with _ | i
  · simp at e1
    subst e1
    trivial
  · rw [List.cons_append, List.getElem?_cons_succ] at e1 e2
    by_cases hi : i < ds.length
    · rw [List.getElem?_append_left (by simpa using hi), List.getElem?_map, List.getElem?_eq_getElem hi] at e1
      cases e1
      obtain ⟨v, hv, dv⟩ := dpa_get' r (List.getElem?_eq_getElem hi)
      refine ⟨v, ?_, dv⟩
      rw [List.getElem?_append_left (by simpa [dpa_len r] using hi), List.getElem?_map, hv] at e2
      exact (Option.some.inj e2).symm
    · rw [List.getElem?_append_right (by simpa using hi)] at e1
      have : s = .un := by
        obtain ⟨hlt, e3⟩ := List.getElem?_eq_some_iff.mp e1
        simpa using e3.symm
      subst this
      trivial
theorem ct_wok {A : Around} {outer : List PySem.Env} {s : Shared} {H : Hp} {E : XK} {S : NScope N ps ["__class__"] F.scope} {hr : Room k (A.deeper (envF F f s.heap.objs.size))} {B F0 : Hp} :
    WOk (ctI P w K mg base N ps F f A outer s H E k S hr) B F0 := ⟨fun _ _ _ _ _ _ _ _ _ _ _ _ h => h.elim⟩

/-- one field -/
theorem init1 {p0 p1 p2 p3 p4 q1 q2 q3 q4 : Pos} {e1 : Expr} {n1 x0 x1 : Str} {f1 : EF} {pl : PySem.Env → Sem Bool} (U : SupFn P K mg N ps F f cc C fd) (hN : N = [x0, x1, "__class__"]) (hps : ps = [x0, x1])
    (hb : F.body = .Expr (.Call (.Attribute (.Call (.Name "super" p0) [] [] p1) "__init__" p2) [e1] [] p3) p4 :: [.Assign [.Attribute (.Name x0 q1) n1 q2] (.Name x1 q3) q4])
    (hev : ∀ L, eval (.Call (.Attribute (.Call (.Name "super" p0) [] [] p1) "__init__" p2) [e1] [] p3) (envF F f L) = (do
      let ov ← attributeBase (.Call (.Name "super" p0) [] [] p1) "__init__" (envF F f L) (eval (.Call (.Name "super" p0) [] [] p1) (envF F f L))
      standAt p2.atName
      let (g, first) ← holding [ov] (getMethod ov "__init__" (pl (envF F f L)))
      callWith p3 g first (backTo p3 (starEach [e1] (envF F f L))) []))
    (hi : ∀ L, interactive (envF F f L) = false)
    (hsw : ∀ L, swapsWith (.Call (.Attribute (.Call (.Name "super" p0) [] [] p1) "__init__" p2) [e1] [] p3) none p4.line (envF F f L) = pure false)
    (hst : ∀ L, starEach [e1] (envF F f L) = (false, eval e1 (envF F f L)) :: starEach [] (envF F f L))
    (hsw2 : ∀ L, swapsWith (.Name x1 q3) (some (.Attribute (.Name x0 q1) n1 q2)) q4.line (envF F f L) = pure false)
    (h0 : ∀ (X : Cx), X.N = N → X.env.scope = F.scope → PE X (.Name x0 q1) (tVar 0)) (h1 : ∀ (X : Cx), X.N = N → X.env.scope = F.scope → PE X (.Name x1 q3) (tVar 1))
    (hno : PySem.W.findIn K (.ref C) n1 = some none)
    (hE : ∀ A outer s H E hr, HE (ctI P w K mg base N ps F f A outer s H E k U.S hr) true e1 f1)
    (hf1 : ∀ d, okd [d] → f1 [.un, .fz d, .un] fun _ _ => True) :
    FnOk P w K mg base (L2.CX P w) (k + 1) f fd ps (spInit K C [n1] okd) := by
  subst hN hps
  refine super_fn (pl := pl) hev U hb (fun vs H Q E h => ?_) (fun A outer s H E => hi _) (fun A outer s H E => hsw _) (fun A outer s H E => hst _) fun A outer s H vs Q E hr h => ?_
  · obtain ⟨a, ws, ds, F0, rfl, _, _, _, r, hl, _⟩ := h
    have := dpa_len r
    simp only [List.length_cons, List.length_nil] at hl ⊢
    omega
  · obtain ⟨a, ws, ds, F0, rfl, ha, hFa, e, r, hl, hok, k⟩ := h
    obtain ⟨te, hte, hse⟩ := hE A outer s H E hr
    have hlw := dpa_len r
    obtain ⟨d1, rfl⟩ : ∃ d1, ds = [d1] := by
      match ds, hl with
      | [d], _ => exact ⟨d, rfl⟩
    obtain ⟨w1, rfl⟩ : ∃ w1, ws = [w1] := by
      match ws, hlw with
      | [w], _ => exact ⟨w, rfl⟩
    refine ⟨a, [w1], te, _, rfl, hte, pss_one (ps_ost (X := ncx (L2.CX P w) P w K mg base [x0, x1, "__class__"] F f A outer s H E) (h0 _ rfl rfl) (h1 _ rfl rfl) (hsw2 _)), ha, ?_⟩
    refine hse _ F0 _ H _ _ _ _ (init_start e r) ct_wok (fun d ρ' F' own' H' v _ I x dv => ?_) (hf1 d1 hok)
    have hHa : H' a = some (exo a C none) := x.hh a _ ha (.inl rfl)
    refine ⟨rfl, hHa, _, rfl, _, rfl, a, C, rfl, U.T, hno, .inl ⟨hHa, fun dx hdx hne => ?_⟩⟩
    refine k dx _ (fun b o hb ho => ?_) ?_ upd_same ?_
    · have q := x.hh b o ho (.inl rfl)
      rw [upd_ne hb, upd_ne (ne_of_none q hdx)]
      exact q
    · cases z : H dx with
      | none => rfl
      | some o => rw [x.hh dx o z (.inl rfl)] at hdx; cases hdx
    · rw [upd_ne hne, upd_same]
      rfl
/-- two fields -/
theorem init2 {p0 p1 p2 p3 p4 q1 q2 q3 q4 r1 r2 r3 r4 : Pos} {e1 : Expr} {n1 n2 x0 x1 x2 : Str} {f1 : EF} {pl : PySem.Env → Sem Bool} (U : SupFn P K mg N ps F f cc C fd) (hN : N = [x0, x1, x2, "__class__"]) (hps : ps = [x0, x1, x2])
    (hb : F.body = .Expr (.Call (.Attribute (.Call (.Name "super" p0) [] [] p1) "__init__" p2) [e1] [] p3) p4 :: [.Assign [.Attribute (.Name x0 q1) n1 q2] (.Name x1 q3) q4, .Assign [.Attribute (.Name x0 r1) n2 r2] (.Name x2 r3) r4])
    (hev : ∀ L, eval (.Call (.Attribute (.Call (.Name "super" p0) [] [] p1) "__init__" p2) [e1] [] p3) (envF F f L) = (do
      let ov ← attributeBase (.Call (.Name "super" p0) [] [] p1) "__init__" (envF F f L) (eval (.Call (.Name "super" p0) [] [] p1) (envF F f L))
      standAt p2.atName
      let (g, first) ← holding [ov] (getMethod ov "__init__" (pl (envF F f L)))
      callWith p3 g first (backTo p3 (starEach [e1] (envF F f L))) []))
    (hi : ∀ L, interactive (envF F f L) = false)
    (hsw : ∀ L, swapsWith (.Call (.Attribute (.Call (.Name "super" p0) [] [] p1) "__init__" p2) [e1] [] p3) none p4.line (envF F f L) = pure false)
    (hst : ∀ L, starEach [e1] (envF F f L) = (false, eval e1 (envF F f L)) :: starEach [] (envF F f L))
    (hsw2 : ∀ L, swapsWith (.Name x1 q3) (some (.Attribute (.Name x0 q1) n1 q2)) q4.line (envF F f L) = pure false) (hsw3 : ∀ L, swapsWith (.Name x2 r3) (some (.Attribute (.Name x0 r1) n2 r2)) r4.line (envF F f L) = pure false)
    (h0 : ∀ (X : Cx) q, X.N = N → X.env.scope = F.scope → PE X (.Name x0 q) (tVar 0)) (h1 : ∀ (X : Cx), X.N = N → X.env.scope = F.scope → PE X (.Name x1 q3) (tVar 1)) (h2 : ∀ (X : Cx), X.N = N → X.env.scope = F.scope → PE X (.Name x2 r3) (tVar 2))
    (hno : PySem.W.findIn K (.ref C) n1 = some none) (hno2 : PySem.W.findIn K (.ref C) n2 = some none)
    (hE : ∀ A outer s H E hr, HE (ctI P w K mg base N ps F f A outer s H E k U.S hr) true e1 f1)
    (hf1 : ∀ d d', okd [d, d'] → f1 [.un, .fz d, .fz d', .un] fun _ _ => True) :
    FnOk P w K mg base (L2.CX P w) (k + 1) f fd ps (spInit K C [n1, n2] okd) := by
  subst hN hps
  refine super_fn (pl := pl) hev U hb (fun vs H Q E h => ?_) (fun A outer s H E => hi _) (fun A outer s H E => hsw _) (fun A outer s H E => hst _) fun A outer s H vs Q E hr h => ?_
  · obtain ⟨a, ws, ds, F0, rfl, _, _, _, r, hl, _⟩ := h
    have := dpa_len r
    simp only [List.length_cons, List.length_nil] at hl ⊢
    omega
  · obtain ⟨a, ws, ds, F0, rfl, ha, hFa, e, r, hl, hok, k⟩ := h
    obtain ⟨te, hte, hse⟩ := hE A outer s H E hr
    have hlw := dpa_len r
    obtain ⟨d1, d2, rfl⟩ : ∃ d1 d2, ds = [d1, d2] := by
      match ds, hl with
      | [d, d'], _ => exact ⟨d, d', rfl⟩
    obtain ⟨w1, w2, rfl⟩ : ∃ w1 w2, ws = [w1, w2] := by
      match ws, hlw with
      | [w, w'], _ => exact ⟨w, w', rfl⟩
    refine ⟨a, [w1, w2], te, _, rfl, hte, pss_cons (ps_ost (X := ncx (L2.CX P w) P w K mg base [x0, x1, x2, "__class__"] F f A outer s H E) (h0 _ _ rfl rfl) (h1 _ rfl rfl) (hsw2 _)) (pss_one (ps_ost (h0 _ _ rfl rfl) (h2 _ rfl rfl) (hsw3 _))), ha, ?_⟩
    refine hse _ F0 _ H _ _ _ _ (init_start e r) ct_wok (fun d ρ' F' own' H' v _ I x dv => ?_) (hf1 d1 d2 hok)
    have hHa : H' a = some (exo a C none) := x.hh a _ ha (.inl rfl)
    refine ⟨rfl, hHa, _, rfl, _, rfl, a, C, rfl, U.T, hno, .inl ⟨hHa, fun dx hdx hne => ?_⟩⟩
    refine ⟨_, rfl, _, rfl, a, C, rfl, U.T, hno2, .inr ⟨dx, [(n1, w1)], upd_same, by rw [upd_ne hne]; exact upd_same, by simp, ?_⟩⟩
    have hdn : H dx = none := by
      cases z : H dx with
      | none => rfl
      | some o => rw [x.hh dx o z (.inl rfl)] at hdx; cases hdx
    refine k dx _ (fun b o hb ho => ?_) hdn ?_ ?_
    · have q := x.hh b o ho (.inl rfl)
      rw [upd_ne (ne_of_none q hdx), upd_ne hb, upd_ne (ne_of_none q hdx)]
      exact q
    · rw [upd_ne (Ne.symm hne)]
      exact upd_same
    · rw [upd_same]
      rfl
end
end TL
set_option Elab.async false
set_option linter.all false
set_option maxRecDepth 100000
set_option maxHeartbeats 4000000
namespace TL
open PySem PySem.Spec PyProof.Rows L2

/-- an own exception class stands, with its __init__ -/
structure XDn (P : Program) (w : World) (K : PySem.W.Frag) (mg : Str → Option Value) (base : Heap) (x : Str) (c : Addr) (fn : List Str) (okd : List D → Prop) (k : Nat) : Prop where
  T : OexC K c
  xf : XfC K c
  no : ∀ n ∈ fn, PySem.W.findIn K (.ref c) n = some none
  te : PySem.W.exmOne K (.ref c) (.ref c) = some true
  gC : mg x = some (.ref c)
  ini : ∃ fI fd ps, PySem.W.findIn K (.ref c) "__init__" = some (some (.ref fI)) ∧ PySem.W.typeIn K (.ref fI) = some (.type "function") ∧ FnOk P w K mg base (L2.CX P w) k fI fd ps (spInit K c fn okd) ∧ Binds K fd ps []
abbrev WD := Str → List D → Rho → Prop
def fRaise (W : WD) (x : Str) (n : Nat) (okd : List D → Prop) (a : NF) : SF := fun ρ _ => a ρ fun ds ρ1 => ds.length = n ∧ okd ds ∧ W x ds ρ1
variable {C : Ct}
theorem hs_raise {p : Bool} {x : Str} {c : Addr} {fn : List Str} {okd : List D → Prop} {k n : Nat} {pp pos pos2 : Pos} {e : Expr} {es : List Expr} {a : NF} (G : XDn C.X.prog C.X.w C.X.K C.X.mg C.X.base x c fn okd k) (hn : fn.length = n) (hn2 : n < 1000) (hk : k + 1 ≤ C.lv) (tk : Takes C.X C.wx) (hxc : C.xc x = some (c, fn))
    (hg : Gl C.X x) (ha : HA C p (e :: es) a) (hdb : (x == ("__debug__" : Str)) = false := by decide) (he : starEach (e :: es) C.X.env = (false, eval e C.X.env) :: starEach es C.X.env := by rfl) (hpl : (backTo pos (starEach es C.X.env)).any (·.1) = false := by rfl) :
    HS C (.Raise (some (.Call (.Name x pp) (e :: es) [] pos)) none pos2) (fRaise C.W x n okd a) := by
  obtain ⟨t, ht, hs⟩ := ha
  obtain ⟨fI, fd, ps, iC, tI, F1, hb⟩ := G.ini
  refine ⟨_, ps_raise C.calm tk (pmk_oex G.T iC tI F1 (C.room.mono hk) hb .nil passL hg G.gC ht hdb he hpl), fun B F own H σ ρ E D I w _ z => ?_⟩
  refine hs B F own H σ ρ _ _ I w (fun ds ρ1 F1 own1 H1 vs r1 I1 x1 dv => ?_) z
  obtain ⟨hl, hok, hW⟩ := r1
  have hvl := dpa_len dv
  refine ⟨by omega, fun a ha => ?_⟩
  have hFa : F1 a = none := I1.no_F ha
  refine ⟨a, vs, ds, F1, by rw [List.append_nil], upd_same, hFa, fun b o hb => ?_, dv, by omega, hok, fun dx H' keep hdx ha' hd' => ?_⟩
  · rw [upd_ne (ne_of_none hb hFa)]
    exact I1.fh b o hb
  · have hda : dx ≠ a := fun z => by rw [z, upd_same] at hdx; cases hdx
    have hd1 : H1 dx = none := by rw [upd_ne hda] at hdx; exact hdx
    refine ⟨rfl, dx, _, ha', hd', hd1, ?_⟩
    have al : Al F1 H1 (upd F1 dx (.xd (fn.zip vs).reverse)) (upd (del H' a) dx (.xd (fn.zip vs).reverse)) := by
      have old : ∀ b o, H1 b = some o → (upd (del H' a) dx (.xd (fn.zip vs).reverse)) b = some o := fun b o h => by
        have hba : b ≠ a := ne_of_none h ha
        rw [upd_ne (ne_of_none h hd1), del_ne hba]
        exact keep b o hba (by rw [upd_ne hba]; exact h)
      refine ⟨same_upd (I1.no_F hd1), old, fun b u h => ?_, fun b o h => upd_ne (ne_of_none h hd1)⟩
      by_cases hb : b = dx
      · subst hb
        rw [upd_same] at h ⊢
        exact h
      · rw [upd_ne hb] at h
        exact old b u (I1.fh b u h)
    exact w.go _ own1 _ σ ρ1 x ds (.ref c) (some dx) (I1.al al) (x1.ff.trans al.ff) ⟨c, fn, dx, vs, hxc, rfl, rfl, upd_same, dpa_mono al.ff dv, by omega⟩ hW

theorem start_inv {K : PySem.W.Frag} {B F H : Hp} {N : List Str} {vs : List V} {ds : List D} {m : Nat} (hB : ∀ a o, B a = some o → F a = none ∧ H a = some o) (e : Same F H) (r : RpAll K F vs ds) (hl : N.length = ds.length + m) : SInv K B F (fun _ => none) H (L2.start N vs) (startR ds m) := by
  refine ⟨e, fun a o h => (hB a o h).2, fun a o h => ⟨(hB a o h).1, rfl⟩, fun a i h => (by cases h), ?_, fun i s u e1 e2 => ?_⟩
  · unfold startR L2.start
    rw [List.length_append, List.length_append, List.length_map, List.length_map, List.length_replicate, List.length_replicate, dpa_len r]
    omega
  · unfold startR at e1
    by_cases hi : i < ds.length
    · rw [List.getElem?_append_left (by simpa using hi), List.getElem?_map, List.getElem?_eq_getElem hi] at e1
      cases e1
      obtain ⟨v, hv, dv⟩ := dpa_get' r (List.getElem?_eq_getElem hi)
      refine ⟨v, ?_, dv⟩
      unfold L2.start at e2
      rw [List.getElem?_append_left (by simpa [dpa_len r] using hi), List.getElem?_map, hv] at e2
      exact (Option.some.inj e2).symm
    · rw [List.getElem?_append_right (by simpa using hi)] at e1
      have : s = .un := by
        obtain ⟨hlt, e3⟩ := List.getElem?_eq_some_iff.mp e1
        simpa using e3.symm
      subst this
      trivial
/-! ### defs that may raise -/
abbrev FX := List D → (D → Prop) → (Str → List D → Prop) → Prop
def spX (K : PySem.W.Frag) (xc : Str → Option (Addr × List Str)) (φ : FX) : Sp := fun vs H Q E => ∃ F ds R W, Same F H ∧ RpAll K F vs ds ∧ φ ds R W ∧ (∀ d F' H' v, R d → Al F H F' H' → Rp K F' v d → Q v H') ∧
  (∀ nm es cls d F' H', W nm es → Al F H F' H' → XOk K xc F' nm es cls d → E cls d H')
def fBodyX (n m : Nat) (b : WD → SF) : FX := fun ds R W => ds.length = n ∧ b (fun nm es _ => W nm es) (startR ds m) { nx := fun _ => R .none, rt := fun d _ => R d }
def ctOfX (P : Program) (w : World) (K : PySem.W.Frag) (mg : Str → Option Value) (base : Heap) (xc : Str → Option (Addr × List Str)) (N ps : List Str) (qual : Str) (st : Stmt) (f : Addr) (cdv : Value) (A : Around) (outer : List PySem.Env) (s : Shared) (H : Hp) (E : XK) (W : Str → List D → Prop) (k : Nat)
    (S : FnScope N ps (defScope st)) (hr : Room k (A.deeper (envOfC qual (defScope st) s.heap.objs.size f cdv))) : Ct where
  X := cxOf (L2.CX P w) P w K mg base N qual (defScope st) f cdv A outer s H E
  wx := fun cls d _ H => E cls d H
  W := fun nm es _ => W nm es
  xc := xc
  calm := rfl
  po := PassesOwn.leaving
  nd := S.nd
  lv := k
  room := hr
section
variable {P : Program} {w : World} {K : PySem.W.Frag} {mg : Str → Option Value} {base : Heap} {xc : Str → Option (Addr × List Str)}
theorem ctx_takes {N ps : List Str} {qual : Str} {st : Stmt} {f : Addr} {cdv : Value} {A : Around} {outer : List PySem.Env} {s : Shared} {H : Hp} {E : XK} {W : Str → List D → Prop} {k : Nat} {S : FnScope N ps (defScope st)} {hr : Room k (A.deeper (envOfC qual (defScope st) s.heap.objs.size f cdv))} :
    Takes (ctOfX P w K mg base xc N ps qual st f cdv A outer s H E W k S hr).X (ctOfX P w K mg base xc N ps qual st f cdv A outer s H E W k S hr).wx := takes_of rfl rfl rfl rfl
theorem fn_okX {x qual : Str} {st : Stmt} {f : Addr} {fd : FuncData} {N ps : List Str} {k n m : Nat} {b : WD → SF} (F : Fun K x qual st f fd) (S : FnScope N ps (defScope st)) (hn : ps.length = n) (hm : N.length = n + m)
    (hb : ∀ cdv A outer s H E W (hr : Room k (A.deeper (envOfC qual (defScope st) s.heap.objs.size f cdv))), HSs (ctOfX P w K mg base xc N ps qual st f cdv A outer s H E W k S hr) (defBody st) (b fun nm es _ => W nm es)) :
    FnOk P w K mg base (L2.CX P w) (k + 1) f fd ps (spX K xc (fBodyX n m b)) := by
  refine F.okX S (fun vs H Q E h => ?_) (fun cdv A outer s H vs Q E hr h => ?_)
  · obtain ⟨F, ds, R, W, e, r, ⟨hl, q⟩, kk⟩ := h
    rw [dpa_len r, hl, hn]
  · obtain ⟨F, ds, R, W, e, r, ⟨hl, q⟩, kk, kx⟩ := h
    obtain ⟨t, ht, hs⟩ := hb cdv A outer s H E W hr
    refine ⟨t, ht, ?_⟩
    let B : Hp := fun a => if F a = none then H a else none
    have hB : ∀ a o, B a = some o → F a = none ∧ H a = some o := fun a o e => by
      show F a = none ∧ H a = some o
      have e : (if F a = none then H a else none) = some o := e
      split at e
      · exact ⟨by assumption, e⟩
      · cases e
    have I0 : SInv K B F (fun _ => none) H (L2.start N vs) (startR ds m) := start_inv hB e r (by rw [hm, hl])
    have al : ∀ F' own' H' σ' ρ', SInv K B F' own' H' σ' ρ' → Same F F' → Al F H F' H' := fun F' own' H' σ' ρ' I s => by
      refine ⟨s, fun a o h => ?_, I.fh, fun a o h => ?_⟩
      · cases hf : F a with
        | none => exact I.bh a o (by show (if F a = none then H a else none) = some o; rw [if_pos hf]; exact h)
        | some u =>
          have := e a u hf
          rw [h] at this
          cases this
          exact I.fh a o (s a o hf)
      · cases hf : F a with
        | none => exact (I.bf a o (by show (if F a = none then H a else none) = some o; rw [if_pos hf]; exact h)).1
        | some u => exact s a u hf
    refine hs B F (fun _ => none) H _ _ _ _ I0 ⟨fun F' own' H' σ' ρ' nm es cls d I s xo hW => kx nm es cls d F' H' hW (al _ _ _ _ _ I s) xo⟩ ⟨?_, ?_, ?_, ?_⟩ q
    · exact fun F' own' H' σ' ρ' I s r => kk .none F' H' .non r (al _ _ _ _ _ I s) .non
    · exact fun F' own' H' σ' ρ' v d I s dv r => kk d F' H' v r (al _ _ _ _ _ I s) dv
    · exact fun F' own' H' σ' ρ' I s r => r.elim
    · exact fun F' own' H' σ' ρ' I s r => r.elim
theorem FnOk.specX {f : Addr} {fd : FuncData} {ps : List Str} {k : Nat} {φ ψ : FX} (h : FnOk P w K mg base (L2.CX P w) k f fd ps (spX K xc φ)) (hi : ∀ ds (R : D → Prop) (W : Str → List D → Prop), ψ ds R W → φ ds R W) : FnOk P w K mg base (L2.CX P w) k f fd ps (spX K xc ψ) :=
  h.imp fun vs H Q E ⟨F, ds, R, W, e, r, q, kk⟩ => ⟨F, ds, R, W, e, r, hi ds _ _ q, kk⟩
end
/-- a def that may raise, standing -/
structure DnX (P : Program) (w : World) (K : PySem.W.Frag) (mg : Str → Option Value) (base : Heap) (x : Str) (k : Nat) (ps : List Str) (sp : Sp) : Prop where
  ex : ∃ f fd, FnOk P w K mg base (L2.CX P w) k f fd ps sp ∧ mg x = some (.ref f) ∧ PySem.W.keepIn K (.ref f) = true ∧ Binds K fd ps []
def sCallX (W : WD) (φ : FX) (a : NF) : EF := fun ρ R => a ρ fun ds ρ1 => φ ds (fun d => R d ρ1) fun nm es => W nm es ρ1
theorem he_callX {p : Bool} {k : Nat} {ps : List Str} {φ : FX} {x : Str} {pp pos : Pos} {e : Expr} {es : List Expr} {a : NF} (G : DnX C.X.prog C.X.w C.X.K C.X.mg C.X.base x k ps (spX C.X.K C.xc φ)) (hk : k ≤ C.lv) (tk : Takes C.X C.wx) (hg : Gl C.X x)
    (ha : HA C p (e :: es) a) (hdb : (x == ("__debug__" : Str)) = false := by decide) (he : starEach (e :: es) C.X.env = (false, eval e C.X.env) :: starEach es C.X.env := by rfl) (hpl : (backTo pos (starEach es C.X.env)).any (·.1) = false := by rfl) :
    HE C p (.Call (.Name x pp) (e :: es) [] pos) (sCallX C.W φ a) := by
  obtain ⟨f, fd, G, hm, hkp, hb⟩ := G.ex
  obtain ⟨t, ht, hs⟩ := ha
  refine ⟨_, pe_callS G (C.room.mono hk) hg hm hkp hb (fun σ => passAt tk σ) ht hdb he hpl, fun B F own H σ ρ Q R I w k z => ?_⟩
  refine hs B F own H σ ρ _ _ I w (fun ds ρ1 F1 own1 H1 vs r1 I1 x1 d1 => ?_) z
  refine ⟨F1, ds, _, _, I1.fh, d1, r1, fun d F' H' v r al dv => ?_, fun nm es cls d F' H' hW al xo => ?_⟩
  · exact k d ρ1 F' own1 H' v r (I1.al al) (by simpa using x1.trans (al.ext true)) dv
  · exact w.go F' own1 H' σ ρ1 nm es cls d (I1.al al) (x1.ff.trans al.ff) xo hW

/-! ### try: .. except X as n: -/
def fTry (x : Str) (i : Nat) (b : WD → SF) (su : List D → SF) : SF := fun ρ E =>
  b (fun nm ds ρ' => nm = x ∧ i < ρ'.length ∧ su ds (ρ'.set i .un) { nx := fun ρ2 => E.nx (ρ2.set i .un), rt := E.rt, bk := fun ρ2 => E.bk (ρ2.set i .un), ct := fun ρ2 => E.ct (ρ2.set i .un) }) ρ E
def Ct.tr (C : Ct) (pn : List (Addr × Obj)) (xe : Value → Shared → Prop) (wx : WX) (W : WD) (po : PassesOwn (model C.X.prog C.X.w) C.X.A C.X.env xe) : Ct where
  X := C.X.tr pn xe
  wx := wx
  W := W
  xc := C.xc
  calm := C.calm
  po := po
  nd := C.nd
  lv := C.lv
  room := C.room
structure WOk1 (K : PySem.W.Frag) (xc : Str → Option (Addr × List Str)) (W : WD) (wx : WX) (B F : Hp) : Prop where
  go : ∀ F' own' H' σ' ρ' (nm : Str) (ds : List D) (cls : Value) (d : Option Addr), SInv K B F' own' H' σ' ρ' → Same F F' → XOk K xc F' nm ds cls d → W nm ds ρ' → wx cls d σ' H'
def tOfSs (K : PySem.W.Frag) (xc : Str → Option (Addr × List Str)) (f : WD → SF) (wx : WX) : TS := fun G σ H => ∃ B F own ρ E W, SInv K B F own H σ ρ ∧ WOk1 K xc W wx B F ∧ EndOk K B F E G ∧ f W ρ E
theorem HSs.canTr {pn : List (Addr × Obj)} {xe : Value → Shared → Prop} {wx : WX} {body : List Stmt} {b : WD → SF} {po : PassesOwn (model C.X.prog C.X.w) C.X.A C.X.env xe} (h : ∀ W, HSs (C.tr pn xe wx W po) body (b W)) : PSs (C.X.tr pn xe) body (tOfSs C.X.K C.xc b wx) := by
  refine ⟨fun pins s σ H G I z => ?_⟩
  obtain ⟨B, F, own, ρ, E, W, J, wo, eo, z⟩ := z
  obtain ⟨t, ht, hs⟩ := h W
  exact ht.run pins s σ H G I (hs B F own H σ ρ E G J ⟨wo.go⟩ eo z)
theorem SInv.setUn {K : PySem.W.Frag} {B F H : Hp} {own : Own} {σ : L2.St} {ρ : Rho} (I : SInv K B F own H σ ρ) (i : Nat) (v : Option V) : SInv K B F own H (σ.set i v) (ρ.set i .un) :=
  ⟨I.fh, I.bh, I.bf, I.ow, by rw [List.length_set, List.length_set]; exact I.len, fun j s u e1 e2 => by
    rw [List.getElem?_set] at e1 e2
    by_cases hij : i = j
    · subst hij
      rw [if_pos rfl] at e1
      split at e1
      · cases e1; trivial
      · cases e1
    · rw [if_neg hij] at e1 e2
      exact I.sl j s u e1 e2⟩
theorem hs_try {x n : Str} {c : Addr} {fn : List Str} {okd : List D → Prop} {k i : Nat} {body suite : List Stmt} {b₀ : Stmt} {np pos pos' : Pos} {b : WD → SF} {su : List D → SF} {ts : Addr → Value → Option Addr → TS} (G : XDn C.X.prog C.X.w C.X.K C.X.mg C.X.base x c fn okd k) (hxc : C.xc x = some (c, fn))
    (hs : C.X.stack = C.X.env :: C.X.outer) (hf : C.X.env.frame = some C.X.env.locals) (hi : C.X.N[i]? = some n) (hln : C.X.env.kindOf n = some .local) (hg : Gl C.X x) (hdb : (x == ("__debug__" : Str)) = false)
    (hb : ∀ (W : WD) (wx : WX) (pn : List (Addr × Obj)) (xe : Value → Shared → Prop) (tk : Takes (C.X.tr pn xe) wx) (po : PassesOwn (model C.X.prog C.X.w) C.X.A C.X.env xe), HSs (C.tr pn xe wx W po) body (b W))
    (hsu : ∀ (a : Addr) (oe : Obj) (cls : Value) (d : Option Addr) (pn : List (Addr × Obj)), Zc cls d oe → (∃ vs, oe.data = .fields vs) → PSs (C.X.suite a ((a, oe) :: pn)) (b₀ :: suite) (ts a cls d))
    (hse : ∀ B F own H σ ρ ds a cls d E G, SInv C.X.K B F own H σ ρ → WOk C B F → XOk C.X.K C.xc F x ds cls d → cls = .ref c → H a = none → i < σ.length → σ[i]? = some (some (.ref a)) → EndOk C.X.K B F E G → su ds ρ E → ts a cls d G σ H) :
    HS C (.Try body [.ExceptHandler (some (.Name x np)) (some n) (b₀ :: suite) pos'] [] [] pos) (fTry x i b su) := by
  refine ⟨_, ps_try_as (c := .ref c) (tb := tOfSs C.X.K C.xc b) (ts := ts) (Wout := fun _ _ _ _ => False) hs hf C.nd hi hln ⟨hg, hdb, .inl G.gC⟩ takes0 (fun wx pn xe tk po => HSs.canTr (po := po) fun W => hb W wx pn xe tk po) hsu, fun B F own H σ ρ E D I w eo z => ?_⟩
  refine ⟨B, F, own, ρ, E, _, I, ⟨fun F' own' H' σ' ρ' nm ds cls d J s xo hW => ?_⟩, eo, z⟩
  obtain ⟨rfl, hlen, hW⟩ := hW
  rw [J.len] at hlen
  obtain ⟨c', fn', dd, vs, e1, e2, e3, e4, e5, e6⟩ := id xo
  rw [hxc] at e1
  cases e1
  refine ⟨true, by rw [e2]; exact G.te, fun _ a ha => ?_, fun z => nomatch z⟩
  have eo' := eo.mono s
  refine hse B F' own' H' _ (ρ'.set i .un) ds a cls d _ _ (J.setUn i _) (w.mono s) xo e2 ha (by rw [List.length_set]; exact hlen) (by rw [List.getElem?_set, if_pos rfl, if_pos hlen]) ⟨?_, ?_, ?_, ?_⟩ hW
  · exact fun F2 own2 H2 σ2 ρ2 I2 s2 q => eo'.nx F2 own2 H2 _ _ (I2.setUn i none) s2 q
  · exact fun F2 own2 H2 σ2 ρ2 v d I2 s2 dv q => eo'.rt F2 own2 H2 σ2 ρ2 v d I2 s2 dv q
  · exact fun F2 own2 H2 σ2 ρ2 I2 s2 q => eo'.bk F2 own2 H2 _ _ (I2.setUn i none) s2 q
  · exact fun F2 own2 H2 σ2 ρ2 I2 s2 q => eo'.ct F2 own2 H2 _ _ (I2.setUn i none) s2 q
end TL
set_option Elab.async false
set_option linter.all false
set_option maxRecDepth 100000
set_option maxHeartbeats 4000000
namespace TL
open PySem PySem.Spec PyProof.Rows L2
variable {C : Ct}

/-! ### defs that are handed the state -/
def fBodyS (n m : Nat) (b : SF) : FF := fun ds R => ds.length + 1 = n ∧ ∀ p q, b (.st p q :: startR ds m) { nx := fun ρ => ρ[0]? = some (.st p q) ∧ R .none, rt := fun d ρ => ρ[0]? = some (.st p q) ∧ R d }
section
variable {P : Program} {w : World} {K : PySem.W.Frag} {mg : Str → Option Value} {base : Heap}
theorem fn_okS {xc : Str → Option (Addr × List Str)} {x qual : Str} {st : Stmt} {f : Addr} {fd : FuncData} {N ps : List Str} {k n m : Nat} {b : SF} (F : Fun K x qual st f fd) (S : FnScope N ps (defScope st)) (hn : ps.length = n) (hm : N.length = n + m)
    (hb : ∀ cdv A outer s H E (hr : Room k (A.deeper (envOfC qual (defScope st) s.heap.objs.size f cdv))), HSs (ctOf P w K mg base xc N ps qual st f cdv A outer s H E k S hr) (defBody st) b) :
    FnOk P w K mg base CX0 (k + 1) f fd ps (spS K (fBodyS n m b)) := by
  refine F.ok S (fun vs H Q E h => ?_) (fun cdv A outer s H vs Q E hr h => ?_)
  · obtain ⟨F, ds, R, p, q, us, rfl, e, _, _, _, r, ⟨hl, _⟩, kk⟩ := h
    rw [List.length_cons, dpa_len r, hl, hn]
  · obtain ⟨F, ds, R, p, q, us, rfl, e, fp, fq, sa, r, ⟨hl, z⟩, kk⟩ := h
    obtain ⟨t, ht, hs⟩ := hb cdv A outer s H E hr
    refine ⟨t, ht, ?_⟩
    let B : Hp := fun a => if F a = none ∧ a ≠ p ∧ a ≠ q then H a else none
    have hB : ∀ a o, B a = some o → (F a = none ∧ a ≠ p ∧ a ≠ q) ∧ H a = some o := fun a o e => by
      have e : (if F a = none ∧ a ≠ p ∧ a ≠ q then H a else none) = some o := e
      split at e
      · exact ⟨by assumption, e⟩
      · cases e
    have hB2 : ∀ a o, F a = none → a ≠ p → a ≠ q → H a = some o → B a = some o := fun a o h1 h2 h3 h => by
      show (if F a = none ∧ a ≠ p ∧ a ≠ q then H a else none) = some o
      rw [if_pos ⟨h1, h2, h3⟩]
      exact h
    let own : Own := fun a => if a = p ∨ a = q then some 0 else none
    have op : own p = some 0 := if_pos (.inl rfl)
    have oq : own q = some 0 := if_pos (.inr rfl)
    obtain ⟨ne, k0, ns, h1, h2, h3⟩ := id sa
    have I1 := start_inv (N := List.replicate (ds.length + m) "") (B := fun b => if F b = none then H b else none) (fun a o e => by
      split at e
      · exact ⟨by assumption, e⟩
      · cases e) e r (m := m) (by simp)
    have I0 : SInv K B F own H (L2.start N (.ref p :: us)) (.st p q :: startR ds m) := by
      have hst : L2.start N (.ref p :: us) = some (.ref p) :: L2.start (List.replicate (ds.length + m) "") us := by
        unfold L2.start
        rw [List.map_cons, List.cons_append, List.length_cons, List.length_replicate]
        have hz : N.length - (us.length + 1) = ds.length + m - us.length := by omega
        rw [hz]
      rw [hst]
      refine ⟨e, fun a o h => (hB a o h).2, fun a o h => ⟨(hB a o h).1.1, ?_⟩, fun a i h => ?_, by rw [List.length_cons, List.length_cons, I1.len], fun i s u e1 e2 => ?_⟩
      · obtain ⟨⟨_, n1, n2⟩, _⟩ := hB a o h
        exact if_neg (fun z => z.elim n1 n2)
      · have h : (if a = p ∨ a = q then some 0 else none) = some i := h
        split at h
        · rename_i hh
          rcases hh with hh | hh
          · subst hh; exact ⟨fp, _, h1⟩
          · subst hh; exact ⟨fq, _, h2⟩
        · cases h
      · rcases i with _ | i
        · simp at e1 e2
          subst e1 e2
          exact ⟨rfl, ne, op, oq, k0, ns, h1, h2, h3⟩
        · rw [List.getElem?_cons_succ] at e1 e2
          have q0 := I1.sl i s u e1 e2
          cases s with
          | un => trivial
          | fz d => exact q0
          | ow d => obtain ⟨_, _, _, o, _⟩ := q0; cases o
          | ow2 d => obtain ⟨_, _, _, o, _⟩ := q0; cases o
          | st a b => obtain ⟨_, _, o, _⟩ := q0; cases o
          | raw ns => exact q0
    have fin : ∀ F' own' H' σ' ρ' v d, SInv K B F' own' H' σ' ρ' → Same F F' → Rp K F' v d → ρ'[0]? = some (.st p q) → R d → Q v H' := fun F' own' H' σ' ρ' v d I s dv e0 rd => by
      obtain ⟨_, op', oq', sa'⟩ := I.at_st e0
      refine kk d F' H' v rd ⟨s, fun a o n1 n2 h => ?_, I.fh, fun a o h => ?_⟩ sa' dv
      · cases hf : F a with
        | none => exact I.bh a o (hB2 a o hf n1 n2 h)
        | some u =>
          have e2 := e a u hf
          rw [h] at e2
          cases e2
          exact I.fh a o (s a o hf)
      · cases hf : F a with
        | some u => exact s a u hf
        | none =>
          by_cases n1 : a = p
          · subst n1; exact (I.ow a _ op').1
          · by_cases n2 : a = q
            · subst n2; exact (I.ow a _ oq').1
            · exact (I.bf a o (hB2 a o hf n1 n2 h)).1
    refine hs B F own H _ _ _ _ I0 ⟨fun _ _ _ _ _ _ _ _ _ _ _ _ h => h.elim⟩ ⟨?_, ?_, ?_, ?_⟩ (z p q)
    · exact fun F' own' H' σ' ρ' I s r => fin F' own' H' σ' ρ' .non .none I s .non r.1 r.2
    · exact fun F' own' H' σ' ρ' v d I s dv r => fin F' own' H' σ' ρ' v d I s dv r.1 r.2
    · exact fun F' own' H' σ' ρ' I s r => r.elim
    · exact fun F' own' H' σ' ρ' I s r => r.elim
theorem FnOk.specS {f : Addr} {fd : FuncData} {ps : List Str} {k : Nat} {φ ψ : FF} (h : FnOk P w K mg base CX0 k f fd ps (spS K φ)) (hi : ∀ ds (R : D → Prop), ψ ds R → φ ds R) : FnOk P w K mg base CX0 k f fd ps (spS K ψ) :=
  h.imp fun vs H Q E ⟨F, ds, R, p, q, us, e0, e, fp, fq, sa, r, z, kk⟩ => ⟨F, ds, R, p, q, us, e0, e, fp, fq, sa, r, hi ds _ z, kk⟩
end

/-! ### the state is made -/
structure AlN (F H F' H' : Hp) (p q : Addr) : Prop where
  al : Al F H F' H'
  np : H p = none
  nq : H q = none
  fp : F' p = none
  fq : F' q = none
  st : StAt H' p q
def spStart (K : PySem.W.Frag) : Sp := fun vs H Q _ => ∃ (F : Hp) (a : Addr) (xs : List Int), vs = [.ref a] ∧ Same F H ∧ SqL K F a (xs.map V.int) ∧ xs.length ≤ 63 ∧ ∀ F' H' p q, AlN F H F' H' p q → Q (.ref p) H'
def fStart (i j : Nat) : SF := fun ρ E => (∃ xs : List Int, ρ[j]? = some (.raw xs) ∧ xs.length ≤ 63) ∧ ∀ p q, E.nx (ρ.set i (.st p q))
theorem hs_start {i j k : Nat} {x y : Str} {ps : List Str} {pp py pos : Pos} {st : Stmt} (G : Dn C.X.prog C.X.w C.X.K C.X.mg C.X.base x k ps (spStart C.X.K)) (mk : ∀ {te : TE}, PE C.X (.Call (.Name x pp) [.Name y py] [] pos) te → PS C.X st (tAsg te (L2.gName i))) (hk : k ≤ C.lv) (hg : Gl C.X x)
    (hy : PE C.X (.Name y py) (tVar j)) (hdb : (x == ("__debug__" : Str)) = false := by decide)
    (he : starEach [.Name y py] C.X.env = (false, eval (.Name y py) C.X.env) :: starEach [] C.X.env := by rfl) (hpl : (backTo pos (starEach [] C.X.env)).any (·.1) = false := by rfl) :
    HS C st (fStart i j) := by
  obtain ⟨f, fd, G, hm, hkp, hb⟩ := G.ex
  refine ⟨_, mk (pe_call G (C.room.mono hk) hg hm hkp hb .nil pass0 (pa_cons hy pa_nil he) hdb he hpl), fun B F own H σ ρ E D I w eo z => ?_⟩
  obtain ⟨⟨xs, e0, hx⟩, z⟩ := z
  have hi : j < σ.length := by rw [← I.len]; exact (List.getElem?_eq_some_iff.mp e0).1
  obtain ⟨a0, hv, dv⟩ := I.sl j _ _ e0 (List.getElem?_eq_getElem hi)
  refine ⟨.ref a0, by rw [List.getElem?_eq_getElem hi, hv], F, a0, xs, by rw [List.append_nil], I.fh, dv, hx, fun F' H' p q a => ?_⟩
  obtain ⟨ne, k0, ns, h1, h2, h3⟩ := a.st
  have I1 := I.al a.al
  have own_none : ∀ b, H b = none → own b = none := fun b n => by
    cases e : own b with
    | none => rfl
    | some j => obtain ⟨_, o, q⟩ := I.ow b j e; rw [n] at q; cases q
  have hB : ∀ b, H b = none → B b = none := fun b n => by
    cases e : B b with
    | none => rfl
    | some o => rw [I.bh b o e] at n; cases n
  refine eo.nx F' (giveAll own [p, q] i) H' _ _ ⟨I1.fh, I1.bh, fun b o e => ⟨(I1.bf b o e).1, ?_⟩, fun b j e => ?_, by rw [List.length_set, List.length_set]; exact I1.len, fun j s u e1 e2 => ?_⟩ a.al.ff (z p q)
  · have hn : b ∉ [p, q] := fun m => by
      rcases List.mem_cons.mp m with m | m
      · rw [m, hB p a.np] at e; cases e
      · rw [List.mem_singleton.mp m, hB q a.nq] at e; cases e
    show (if b ∈ [p, q] then some i else own b) = none
    rw [if_neg hn]
    exact (I1.bf b o e).2
  · have e : (if b ∈ [p, q] then some i else own b) = some j := e
    split at e
    · rename_i m
      rcases List.mem_cons.mp m with m | m
      · subst m; exact ⟨a.fp, _, h1⟩
      · rw [List.mem_singleton.mp m]; exact ⟨a.fq, _, h2⟩
    · exact I1.ow b j e
  · rcases set_get e1 with ⟨rfl, rfl⟩ | ⟨m, e1⟩
    · rcases set_get e2 with ⟨_, rfl⟩ | ⟨m, _⟩
      · exact ⟨rfl, ne, if_pos (by simp), if_pos (by simp), k0, ns, h1, h2, h3⟩
      · exact absurd rfl m
    · rcases set_get e2 with ⟨rfl, _⟩ | ⟨_, e2⟩
      · exact absurd rfl m
      · refine (I1.sl j s u e1 e2).own_mono fun b o => ?_
        show (if b ∈ [p, q] then some i else own b) = some j
        rw [if_neg fun mm => ?_]
        · exact o
        · rcases List.mem_cons.mp mm with mm | mm
          · rw [mm, own_none p a.np] at o; cases o
          · rw [List.mem_singleton.mp mm, own_none q a.nq] at o; cases o
end TL
set_option Elab.async false
set_option linter.all false
set_option maxRecDepth 100000
set_option maxHeartbeats 4000000
namespace TL
open PySem PySem.Spec PyProof.Rows L2
/-! The laws' drawing of numbers: _law_take. -/
def phiTake : FF := fun ds R => ∃ m : Int, ds = [.int m] ∧ m < 1000000 ∧ ∀ r : Int, (m < 2 → r = 0) → (2 ≤ m → 0 ≤ r ∧ r < m) → R (.int r)
def rLen (K : PySem.W.Frag) : List V → Hp → VK → Prop := fun xs H Q => ∃ p ys, xs = [V.ref p] ∧ (SqL K H p ys ∨ SqT K H p ys) ∧ Q (.int ys.length) H
def rInt1 : List V → Hp → VK → Prop := fun xs H Q => (∃ i, xs = [V.int i] ∧ Q (V.int i) H) ∨ ∃ k, xs = [V.bl k] ∧ Q (V.int (if k = true then 1 else 0)) H
def rAddI : R2 := rI0 fun i j => V.int (i + j)
def rMulI : R2 := rI CMul fun i j => V.int (i * j)
def rModI : R2 := rI (fun _ j => 0 < j) fun i j => V.int (i % j)
def rDivI : R2 := rI CDiv fun i j => V.int (i / j)
def tSt0 (K : PySem.W.Frag) : TE := tOp (rIxL K) (tVar 0) (tC (.int 0))
def tTake (K : PySem.W.Frag) : TS :=
  tSeq (tIfS (tTest (tOp (rI0 fun i j => V.bl (decide (i < j))) (tVar 1) (tC (.int 2)))) (tRet (tC (.int 0))) tNext)
    (tSeq (tAsg (tOp (rIxL K) (tVar 0) (tC (.int 1))) (L2.gName 2))
    (tSeq (tAsg (tOp rModI (tCB rInt1 (tCons (tSt0 K) tNil)) (tCB (rLen K) (tCons (tVar 2) tNil))) (L2.gName 3))
    (tSeq (tAsg (tOp (rIxL K) (tVar 2) (tVar 3)) (L2.gName 4))
    (tSeq (tIfS (tTest (tOp (rI0 fun i j => V.bl (decide (j ≤ i))) (tVar 4) (tC (.int 1000000000000000000))))
      (tSeq (tAsg (tOp rDivI (tVar 4) (tVar 1)) (L2.gSub (tVar 2) (tVar 3) rSetL)) (tRet (tOp rModI (tCB rInt1 (tCons (tVar 4) tNil)) (tVar 1)))) tNext)
    (tSeq (tAsg (tOp rAddI (tSt0 K) (tC (.int 1))) (L2.gSub (tVar 0) (tC (.int 0)) rSetL))
    (tSeq (tAsg (tOp rModI (tCB rInt1 (tCons (tOp rAddI (tOp rMulI (tVar 4) (tC (.int 48271))) (tOp rMulI (tSt0 K) (tC (.int 69621)))) tNil)) (tC (.int 2147483647))) (L2.gName 5))
    (tSeq (tAsg (tOp rModI (tCB rInt1 (tCons (tOp rAddI (tOp rMulI (tVar 5) (tC (.int 16807))) (tOp rMulI (tSt0 K) (tC (.int 7919)))) tNil)) (tC (.int 1000000007))) (L2.gName 5))
    (tRet (tOp rModI (tCB rInt1 (tCons (tOp rDivI (tVar 5) (tC (.int 7))) tNil)) (tVar 1)))))))))) 
theorem alS_refl {p q : Addr} {F H : Hp} (h : Same F H) : AlS p q F H F H := ⟨Same.refl _, fun _ _ _ _ h => h, h, fun _ _ _ => rfl⟩
theorem alS_upd {p q a : Addr} {F H : Hp} {o : HO} (h : Same F H) (ha : a = p ∨ a = q) (fa : F a = none) : AlS p q F H F (upd H a o) :=
  ⟨Same.refl _, fun b u h1 h2 h => by
    rw [upd_ne (fun z => by rcases ha with ha | ha <;> subst ha <;> simp_all)]
    exact h, fun b u e => by
    rw [upd_ne (ne_of_none e fa)]
    exact h b u e, fun _ _ _ => rfl⟩
theorem ixN_j {n j : Nat} (hj : j < n) : ixN n (j : Int) = some j := by
  unfold ixN
  rw [if_pos (Int.natCast_nonneg j), if_pos (Int.ofNat_lt.mpr hj), Int.toNat_natCast]
theorem ifT {c : Bool} {A B : Prop} (hc : c = true) (h : A) : if c = true then A else B := by rw [if_pos hc]; exact h
theorem ifF {c : Bool} {A B : Prop} (hc : c = false) (h : B) : if c = true then A else B := by rw [hc, if_neg Bool.false_ne_true]; exact h
theorem take_pure {K : PySem.W.Frag} {vs : List V} {H : Hp} {Q : VK} {E : XK} (h : spS K phiTake vs H Q E) : tTake K { nx := fun _ H' => Q .non H', rt := Q } (L2.start ["state", "most", "numbers_left", "at", "cell", "stirred"] vs) H := by
  obtain ⟨F, ds, R, p, q, us, rfl, e, fp, fq, sa, r, ⟨m, rfl, hm, hr⟩, kk⟩ := h
  obtain ⟨ne, k, ns, h1, h2, h3⟩ := id sa
  cases r with
  | cons a b =>
  cases b
  cases a
  refine ⟨_, rfl, _, _, rfl, rfl, _, rfl, ?_⟩
  by_cases c : m < 2
  · refine ifT (decide_eq_true c) ?_
    exact kk (.int 0) F H _ (hr 0 (fun _ => rfl) (fun z => by omega)) (alS_refl e) sa (.int 0)
  · refine ifF (decide_eq_false c) ?_
    have hlen : 0 < (ns.length : Int) := by
      have : 0 < ns.length := List.length_pos_iff.mpr h3
      omega
    obtain ⟨j, hj⟩ : ∃ j : Nat, k % (ns.length : Int) = (j : Int) := ⟨(k % (ns.length : Int)).toNat, (Int.toNat_of_nonneg (Int.emod_nonneg _ (by omega))).symm⟩
    have hjl : j < ns.length := by
      have := Int.emod_lt_of_pos k hlen
      omega
    have hget : (ns.map V.int)[j]? = some (V.int ns[j]) := by rw [List.getElem?_map, List.getElem?_eq_getElem hjl]; rfl
    have rng : ∀ x : Int, 0 ≤ x % m ∧ x % m < m := fun x => ⟨Int.emod_nonneg _ (by omega), Int.emod_lt_of_pos _ (by omega)⟩
    refine ⟨_, rfl, p, [.int k, .ref q], 1, .ref q, rfl, rfl, SqL.of h1, rfl, ?_⟩
    refine ⟨_, rfl, p, [.int k, .ref q], 0, .int k, rfl, rfl, SqL.of h1, rfl, .inl ⟨k, rfl, ?_⟩⟩
    refine ⟨_, rfl, q, ns.map V.int, rfl, .inl (SqL.of h2), k, _, rfl, rfl, by rw [List.length_map]; exact hlen, ?_⟩
    rw [List.length_map]
    dsimp only
    rw [hj]
    refine ⟨_, rfl, _, rfl, q, ns.map V.int, j, .int ns[j], rfl, rfl, SqL.of h2, atI_nat hget, ?_⟩
    refine ⟨_, rfl, _, _, rfl, rfl, _, rfl, ?_⟩
    by_cases c2 : (1000000000000000000 : Int) ≤ ns[j]
    · refine ifT (decide_eq_true c2) ?_
      refine ⟨_, rfl, _, rfl, _, _, rfl, rfl, ⟨by omega, by omega⟩, ?_⟩
      refine ⟨_, rfl, _, rfl, q, ns.map V.int, j, j, rfl, rfl, h2, ixN_j (by rw [List.length_map]; exact hjl), ?_⟩
      refine ⟨_, rfl, .inl ⟨ns[j], rfl, _, rfl, _, _, rfl, rfl, (show 0 < m by omega), ?_⟩⟩
      refine kk (.int (ns[j] % m)) F _ _ (hr _ (fun z => absurd z c) fun _ => rng _) (alS_upd e (.inr rfl) fq) ⟨ne, k, ns.set j (ns[j] / m), by rw [upd_ne ne]; exact h1, by rw [upd_same, List.map_set], by simpa using h3⟩ (.int _)
    · refine ifF (decide_eq_false c2) ?_
      refine ⟨_, rfl, p, [.int k, .ref q], 0, .int k, rfl, rfl, SqL.of h1, rfl, k, 1, rfl, rfl, ?_⟩
      refine ⟨_, rfl, p, [.int k, .ref q], 0, 0, rfl, rfl, h1, rfl, ?_⟩
      have sa2 : StAt (upd H p (.lst [.int (k + 1), .ref q])) p q := ⟨ne, k + 1, ns, upd_same, by rw [upd_ne (Ne.symm ne)]; exact h2, h3⟩
      have hp2 : SqL K (upd H p (.lst [.int (k + 1), .ref q])) p [.int (k + 1), .ref q] := SqL.of upd_same
      refine ⟨_, rfl, ns[j], 48271, rfl, rfl, .inr (by decide), ?_⟩
      refine ⟨_, rfl, p, [.int (k + 1), .ref q], 0, .int (k + 1), rfl, rfl, hp2, rfl, k + 1, 69621, rfl, rfl, .inr (by decide), ?_⟩
      refine ⟨_, _, rfl, rfl, .inl ⟨_, rfl, _, 2147483647, rfl, rfl, (by decide : (0 : Int) < 2147483647), ?_⟩⟩
      refine ⟨_, rfl, _, 16807, rfl, rfl, .inr (by decide), ?_⟩
      refine ⟨_, rfl, p, [.int (k + 1), .ref q], 0, .int (k + 1), rfl, rfl, hp2, rfl, k + 1, 7919, rfl, rfl, .inr (by decide), ?_⟩
      refine ⟨_, _, rfl, rfl, .inl ⟨_, rfl, _, 1000000007, rfl, rfl, (by decide : (0 : Int) < 1000000007), ?_⟩⟩
      refine ⟨_, rfl, _, 7, rfl, rfl, ⟨by decide, by decide⟩, .inl ⟨_, rfl, _, rfl, _, _, rfl, rfl, (show 0 < m by omega), ?_⟩⟩
      exact kk (.int _) F _ _ (hr _ (fun z => absurd z c) fun _ => rng _) (alS_upd e (.inl rfl) fp) sa2 (.int _)
end TL
set_option Elab.async false
set_option linter.all false
set_option maxRecDepth 100000
set_option maxHeartbeats 4000000
namespace TL
open PySem PySem.Spec PyProof.Rows L2
variable {C : Ct}
/-! ### the script -/
def nRaw (i : Nat) (a b : OF) : NF := fun ρ R => ∃ ns : List Int, ρ[i]? = some (.raw ns) ∧ a ρ fun lo ρ2 => b ρ2 fun hi ρ3 => R (cutD (ns.map .int) lo hi) ρ3
theorem hn_sliceRaw {i : Nat} {x : Str} {lo hi : Option Expr} {px p2 pos : Pos} {a b : OF} (h : PE C.X (.Name x px) (tVar i)) (h1 : HOp C true lo a) (h2 : HOp C true hi b) : HN C true (.Subscript (.Name x px) (.Slice lo hi none p2) pos) (nRaw i a b) := by
  obtain ⟨t1, ht1, hs1⟩ := h1
  obtain ⟨t2, ht2, hs2⟩ := h2
  refine ⟨_, pe_slice sl_list h ht1 ht2, fun B F own H σ ρ Q R I w k z => ?_⟩
  obtain ⟨ns, e0, z⟩ := z
  have hi : i < σ.length := by rw [← I.len]; exact (List.getElem?_eq_some_iff.mp e0).1
  obtain ⟨a0, hv, dv⟩ := I.sl i _ _ e0 (List.getElem?_eq_getElem hi)
  refine ⟨.ref a0, by rw [List.getElem?_eq_getElem hi, hv], ?_⟩
  refine hs1 B F own H σ ρ _ _ I w (fun lo ρ2 F2 own2 H2 r2 I2 x2 => ?_) z
  refine hs2 B F2 own2 H2 σ ρ2 _ _ I2 (w.mono x2.ff) (fun hi ρ3 F3 own3 H3 r3 I3 x3 => ?_) r2
  refine ⟨a0, ns.map V.int, rfl, sl_mono ((x2.ff.trans x3.ff).trans I3.fh) dv, fun p np => ?_⟩
  have al := Al.new (F := F3) (o := .lst (cutV (ns.map V.int) lo hi)) I3.fh np
  have ex := x2.trans x3
  refine k _ ρ3 F3 own3 _ p _ r3 (I3.al al) (by simpa using ex.trans (al.ext true)) ?_ upd_same (I3.no_F np) (I3.no_own np) (cut_rp (dp_ints' ns) lo hi)
  cases e : H p with
  | none => rfl
  | some o => obtain ⟨o', q⟩ := ex.hl p o e; rw [q] at np; cases np
theorem raw_start {K : PySem.W.Frag} {F H : Hp} {a : Addr} {ns : List Int} {m : Nat} (e : Same F H) (h : SqL K F a (ns.map V.int)) :
    SInv K (fun b => if F b = none then H b else none) F (fun _ => none) H (some (.ref a) :: List.replicate m none) (.raw ns :: List.replicate m .un) := by
  have hB : ∀ a o, (if F a = none then H a else none) = some o → F a = none ∧ H a = some o := fun a o e => by
    split at e
    · exact ⟨by assumption, e⟩
    · cases e
  refine ⟨e, fun a o h => (hB a o h).2, fun a o h => ⟨(hB a o h).1, rfl⟩, fun a i h => (by cases h), by simp, fun i s u e1 e2 => ?_⟩
  rcases i with _ | i
  · simp at e1 e2
    subst e1 e2
    exact ⟨a, rfl, h⟩
  · rw [List.getElem?_cons_succ] at e1
    have : s = .un := by
      obtain ⟨hlt, e3⟩ := List.getElem?_eq_some_iff.mp e1
      simpa using e3.symm
    subst this
    trivial
def bState1 : SF := fSetN 1 (nComp [2] (iSeq (sN (nRaw 0 oNo (oIs (sC (.int 63)))))) (gNm 2) tYs (s1 gAbs (sVar 2)))
def bState2 : SF := fIf (tBool (s2 uEq (s1r gLen (rOwn 1)) (sC (.int 0)))) (fSetK 1 (kN (nLst (aCons (sC (.int 0)) aNil)))) fNext
def eState2 : EndF := { nx := fun ρ => ∃ ms : List Int, ρ[1]? = some (.ow (ms.map .int)) ∧ ms ≠ [], rt := fun _ _ => False }
def eState1 : EndF := { nx := fun ρ => bState2 ρ eState2, rt := fun _ _ => False }
section
variable {P : Program} {w : World} {K : PySem.W.Frag} {mg : Str → Option Value} {base : Heap} {xc : Str → Option (Addr × List Str)}
theorem state_fn {st : Stmt} {f : Addr} {fd : FuncData} {s1 s2 : Stmt} {j : Nat} {q0 q1 q2 q3 : Pos} {qual : Str} {N : List Str} {k : Nat} (F : Fun K "_law_state" qual st f fd) (S : FnScope N ["script"] (defScope st)) (hN : N = (["script", "numbers_left", "cell"] : List Str))
    (hb : defBody st = [s1, s2, .Return (some (.List [.Constant (.int 0) j q0, .Name "numbers_left" q1] q2)) q3])
    (hv : ∀ X : Cx, X.N = N → X.env.scope = defScope st → PE X (.Name "numbers_left" q1) (tVar 1))
    (he : ∀ env : PySem.Env, starEach [.Name "numbers_left" q1] env = (false, eval (.Name "numbers_left" q1) env) :: starEach [] env) (he2 : ∀ env : PySem.Env, starEach [.Constant (.int 0) j q0, .Name "numbers_left" q1] env = (false, eval (.Constant (.int 0) j q0) env) :: starEach [.Name "numbers_left" q1] env)
    (h1 : ∀ cdv A outer s H E (hr : Room k (A.deeper (envOfC qual (defScope st) s.heap.objs.size f cdv))), HS (ctOf P w K mg base xc N ["script"] qual st f cdv A outer s H E k S hr) s1 bState1)
    (h2 : ∀ cdv A outer s H E (hr : Room k (A.deeper (envOfC qual (defScope st) s.heap.objs.size f cdv))), HS (ctOf P w K mg base xc N ["script"] qual st f cdv A outer s H E k S hr) s2 bState2)
    (hp : ∀ xs : List Int, xs.length ≤ 63 → bState1 [.raw xs, .un, .un] eState1) :
    FnOk P w K mg base CX0 (k + 1) f fd ["script"] (spStart K) := by
  subst hN
  refine F.ok S (fun vs H Q E h => ?_) (fun cdv A outer s H vs Q E hr h => ?_)
  · obtain ⟨F, a, xs, rfl, _⟩ := h
    rfl
  · obtain ⟨F0, a, xs, rfl, e, hs, hx, kk⟩ := h
    obtain ⟨t1, ht1, hs1⟩ := h1 cdv A outer s H E hr
    obtain ⟨t2, ht2, hs2⟩ := h2 cdv A outer s H E hr
    rw [hb]
    refine ⟨_, pss_cons ht1 (pss_cons ht2 (pss_one (ps_ret (pe_lst (pa_cons pe_int (pa_cons (hv _ rfl rfl) pa_nil (he _)) (he2 _)))))), ?_⟩
    have I0 := raw_start (m := 2) e hs
    have wk : ∀ B F, WOk (ctOf P w K mg base xc ["script", "numbers_left", "cell"] ["script"] qual st f cdv A outer s H E k S hr) B F := fun B F => ⟨fun _ _ _ _ _ _ _ _ _ _ _ _ h => h.elim⟩
    refine hs1 _ F0 _ H _ _ eState1 _ I0 (wk _ _) ⟨fun F1 own1 H1 σ1 ρ1 I1 x1 q1 => ?_, fun _ _ _ _ _ _ _ _ _ _ q => q.elim, fun _ _ _ _ _ _ _ q => q.elim, fun _ _ _ _ _ _ _ q => q.elim⟩ (hp xs hx)
    refine hs2 _ F1 _ H1 _ _ eState2 _ I1 (wk _ _) ⟨fun F2 own2 H2 σ2 ρ2 I2 x2 q2 => ?_, fun _ _ _ _ _ _ _ _ _ _ q => q.elim, fun _ _ _ _ _ _ _ q => q.elim, fun _ _ _ _ _ _ _ q => q.elim⟩ q1
    obtain ⟨ms, e1, hne⟩ := q2
    obtain ⟨q, us, hσ, oq, hq, dv⟩ := I2.at_ow e1
    have hus := dp_ints dv
    subst hus
    refine ⟨_, hσ, by show 2 ≤ sizeLine; rw [sizeLine_eq]; decide, fun p np => ?_⟩
    have xx := x1.trans x2
    have old : ∀ b o, H b = some o → H2 b = some o := fun b o h => by
      cases hf : F0 b with
      | some u =>
        have z := e b u hf
        rw [h] at z
        cases z
        exact I2.fh b o (xx b o hf)
      | none => exact I2.bh b o (by rw [if_pos hf]; exact h)
    have hpq : p ≠ q := fun z => by rw [z, hq] at np; cases np
    have Hn : ∀ b, H2 b = none → H b = none := fun b n => by
      cases z : H b with
      | none => rfl
      | some o => rw [old b o z] at n; cases n
    refine kk F2 _ p q ⟨⟨xx, fun b o h => ?_, fun b o h => ?_, fun b o h => ?_⟩, Hn p np, ?_, I2.no_F np, (I2.ow q _ oq).1, ⟨hpq, 0, ms, upd_same, by rw [upd_ne (Ne.symm hpq)]; exact hq, hne⟩⟩
    · rw [upd_ne (ne_of_none (old b o h) np)]
      exact old b o h
    · rw [upd_ne (ne_of_none (I2.fh b o h) np)]
      exact I2.fh b o h
    · cases hf : F0 b with
      | some u => exact xx b u hf
      | none => exact (I2.bf b o (by rw [if_pos hf]; exact h)).1
    · cases z : H q with
      | none => rfl
      | some o =>
        exfalso
        cases hf : F0 q with
        | some u =>
          have := xx q u hf
          rw [(I2.ow q _ oq).1] at this
          cases this
        | none =>
          have := (I2.bf q o (by rw [if_pos hf]; exact z)).2
          rw [oq] at this
          cases this
/-- the law itself -/
def spLaw (K : PySem.W.Frag) : Sp := fun vs H Q _ => ∃ (a : Addr) (ns : List Int), vs = [.ref a] ∧ SqL K H a (ns.map V.int) ∧ ns.length ≤ 63 ∧ ∀ H', Q (.bl true) H'
theorem law_fn {x qual : Str} {st : Stmt} {f : Addr} {fd : FuncData} {N : List Str} {k m : Nat} {b : SF} (F : Fun K x qual st f fd) (S : FnScope N ["script"] (defScope st)) (hm : N.length = 1 + m)
    (hb : ∀ cdv A outer s H E (hr : Room k (A.deeper (envOfC qual (defScope st) s.heap.objs.size f cdv))), HSs (ctOf P w K mg base xc N ["script"] qual st f cdv A outer s H E k S hr) (defBody st) b)
    (hp : ∀ ns : List Int, ns.length ≤ 63 → b (.raw ns :: List.replicate m .un) { nx := fun _ => False, rt := fun d _ => d = .bool true }) :
    FnOk P w K mg base CX0 (k + 1) f fd ["script"] (spLaw K) := by
  refine F.ok S (fun vs H Q E h => ?_) (fun cdv A outer s H vs Q E hr h => ?_)
  · obtain ⟨a, xs, rfl, _⟩ := h
    rfl
  · obtain ⟨a, ns, rfl, hs, hx, kk⟩ := h
    obtain ⟨t, ht, hs'⟩ := hb cdv A outer s H E hr
    refine ⟨t, ht, ?_⟩
    have hst : L2.start N [V.ref a] = some (.ref a) :: List.replicate m none := by
      unfold L2.start
      have hz : N.length - [V.ref a].length = m := by rw [hm]; simp
      rw [hz]
      rfl
    rw [hst]
    refine hs' _ (fun b => if b = a then H a else none) _ H _ _ { nx := fun _ => False, rt := fun d _ => d = .bool true } _ (raw_start (fun b o h => ?_) ?_) ⟨fun _ _ _ _ _ _ _ _ _ _ _ _ h => h.elim⟩ ⟨fun _ _ _ _ _ _ _ q => q.elim, fun F' own' H' σ' ρ' v d I _ dv q => ?_, fun _ _ _ _ _ _ _ q => q.elim, fun _ _ _ _ _ _ _ q => q.elim⟩ (hp ns hx)
    · have h : (if b = a then H a else none) = some o := h
      split at h
      · rename_i hh; subst hh; exact h
      · cases h
    · rcases hs with (h | ⟨o, h⟩) | h
      · exact .inl (.inl (by show (if a = a then H a else none) = _; rw [if_pos rfl]; exact h))
      · exact .inl (.inr ⟨o, by show (if a = a then H a else none) = _; rw [if_pos rfl]; exact h⟩)
      · exact .inr h
    · subst q
      cases dv
      exact kk H'
end
end TL
set_option Elab.async false
set_option linter.all false
set_option maxRecDepth 100000
set_option maxHeartbeats 4000000
/-! The plain side: what the combinators are on known data. -/
namespace TL
open PySem PySem.Spec PyProof.Rows L2

theorem sh_int (a : Int) : SeqAt.shaped (.int a) = true := rfl
theorem sh_bool (a : Bool) : SeqAt.shaped (.bool a) = true := rfl
theorem sh_none : SeqAt.shaped .none = true := rfl
theorem eqv_int (a b : Int) : PyData.eqv (.int a) (.int b) = decide (a = b) := rfl
theorem eqv_str (a b : Str) : PyData.eqv (.str a) (.str b) = decide (a = b) := by
  show (a == b) = decide (a = b)
  rw [Bool.eq_iff_iff]
  simp
section ops
variable {a b : Int} {x y : Str} {p q : Bool} {ds es : List D} {R : D → Prop} {S : List D → Prop} {d e : D}
theorem uEq_int : uEq (.int a) (.int b) R ↔ R (.bool (decide (a = b))) := by
  simp [uEq, gEqS, gEq, sh_int, eqv_int, eqv_str]
theorem uEq_str : uEq (.str x) (.str y) R ↔ R (.bool (decide (x = y))) := by
  simp [uEq, gEqS, gEq, sh_int, eqv_int, eqv_str]
theorem uNe_int : uNe (.int a) (.int b) R ↔ R (.bool (!decide (a = b))) := by
  simp [uNe, gNeS, gNe, sh_int, eqv_int, eqv_str]
theorem uNe_str : uNe (.str x) (.str y) R ↔ R (.bool (!decide (x = y))) := by
  simp [uNe, gNeS, gNe, sh_int, eqv_int, eqv_str]
theorem uLe_int : uLe (.int a) (.int b) R ↔ R (.bool (decide (a ≤ b))) := by
  simp [uLe, gLe, gI]
theorem gLt_int : gLt (.int a) (.int b) R ↔ R (.bool (decide (a < b))) := by
  simp [gLt, gI]
theorem gGt_int : gGt (.int a) (.int b) R ↔ R (.bool (decide (b < a))) := by
  simp [gGt, gI]
theorem gGe_int : gGe (.int a) (.int b) R ↔ R (.bool (decide (b ≤ a))) := by
  simp [gGe, gI]
theorem uAdd_int : uAdd (.int a) (.int b) R ↔ R (.int (a + b)) := by
  simp [uAdd, gAdd, gI, gAddS, gCatT, kCat]
theorem uAdd_str : uAdd (.str x) (.str y) R ↔ x.length + y.length ≤ sizeLine ∧ R (.str (x ++ y)) := by
  simp [uAdd, gAdd, gI, gAddS, gCatT, kCat]
theorem gSub_int : TL.gSub (.int a) (.int b) R ↔ R (.int (a - b)) := by
  simp [TL.gSub, gI]
theorem gMod_int : gMod (.int a) (.int b) R ↔ 0 < b ∧ R (.int (a % b)) := by
  simp [gMod, gIc]
theorem gAbs_int : gAbs (.int a) R ↔ R (.int (if a < 0 then -a else a)) := by
  simp [gAbs]
theorem gLen_list : gLen (.list ds) R ↔ R (.int ds.length) := by
  simp [gLen, seqD]
theorem gLen_tuple : gLen (.tuple ds) R ↔ R (.int ds.length) := by
  simp [gLen, seqD]
theorem gLen_str : gLen (.str x) R ↔ x.length ≤ sizeLine ∧ R (.int x.length) := by
  simp [gLen, seqD]
theorem kCat_list : kCat (.list ds) (.list es) S ↔ ds.length + es.length ≤ sizeLine ∧ S (ds ++ es) := by
  simp [kCat]
theorem gIx_list {i : Int} : gIx (.list ds) (.int i) R ↔ ∃ d, atI ds i = some d ∧ R d := by
  simp [gIx, seqD]
theorem gIx_tuple {i : Int} : gIx (.tuple ds) (.int i) R ↔ ∃ d, atI ds i = some d ∧ R d := by
  simp [gIx, seqD]
theorem gIx_str {i : Int} : gIx (.str x) (.int i) R ↔ x.length ≤ sizeLine ∧ ∃ c, atI x.cps.toList i = some c ∧ R (.str ⟨#[c]⟩) := by
  simp [gIx, seqD]
end ops

/-! ### comprehensions -/
def StepC (vs : List Nat) (g : GF) (tt : TF) (te : EF) (Rel : D → Option D → Prop) (ρ : Rho) (d : D) : Prop :=
  ∀ (A : D → Rho → Prop) (B : Rho → Prop), (∀ y, Rel d (some y) → ∀ ρ3, backR ρ vs ρ3 = ρ → A y ρ3) → (Rel d none → ∀ ρ2, backR ρ vs ρ2 = ρ → B ρ2) →
    g d (hideR vs ρ) fun ρ1 => tt ρ1 fun b ρ2 => if b = true then te ρ2 A else B ρ2
theorem comp_rel {vs : List Nat} {g : GF} {tt : TF} {te : EF} {Rel : D → Option D → Prop} {ρ : Rho} : ∀ (ds acc : List D) (R : List D → Rho → Prop), (∀ d ∈ ds, StepC vs g tt te Rel ρ d) → acc.length + ds.length ≤ sizeLine →
    (∀ os : List (Option D), Paired Rel ds os → R (acc ++ os.filterMap id) ρ) → compW vs g tt te ds acc ρ R
  | [], acc, R, _, _, h => by
    have q := h [] .nil
    simpa [compW] using q
  | d :: ds, acc, R, hs, hl, h => by
    rw [List.length_cons] at hl
    refine hs d List.mem_cons_self _ _ (fun y hy ρ3 e => ⟨by omega, ?_⟩) fun hn ρ2 e => ?_
    · rw [e]
      refine comp_rel ds (acc ++ [y]) R (fun d' h' => hs d' (List.mem_cons_of_mem _ h')) (by rw [List.length_append, List.length_singleton]; omega) fun os hp => ?_
      have q := h (some y :: os) (.cons hy hp)
      simpa using q
    · rw [e]
      refine comp_rel ds acc R (fun d' h' => hs d' (List.mem_cons_of_mem _ h')) (by omega) fun os hp => ?_
      have q := h (none :: os) (.cons hn hp)
      simpa using q
theorem paired_fn {F : D → Option D} : ∀ {ds : List D} {os : List (Option D)}, Paired (fun d o => o = F d) ds os → os.filterMap id = ds.filterMap F
  | _, _, .nil => rfl
  | _, _, .cons h t => by
    subst h
    rw [List.filterMap_cons, List.filterMap_cons, paired_fn t]
    rfl
theorem comp_fn {vs : List Nat} {g : GF} {tt : TF} {te : EF} {F : D → Option D} {ρ : Rho} {ds : List D} {R : List D → Rho → Prop} (hs : ∀ d ∈ ds, StepC vs g tt te (fun d o => o = F d) ρ d) (hl : ds.length ≤ sizeLine) (h : R (ds.filterMap F) ρ) : compW vs g tt te ds [] ρ R :=
  comp_rel ds [] R hs (by simpa using hl) fun os hp => by rw [List.nil_append, paired_fn hp]; exact h
/-- every item gives one -/
theorem comp_map {vs : List Nat} {g : GF} {tt : TF} {te : EF} {F : D → D} {ρ : Rho} {ds : List D} {R : List D → Rho → Prop} (hs : ∀ d ∈ ds, StepC vs g tt te (fun d o => o = some (F d)) ρ d) (hl : ds.length ≤ sizeLine) (h : R (ds.map F) ρ) : compW vs g tt te ds [] ρ R := by
  refine comp_fn (F := fun d => some (F d)) hs hl ?_
  rw [List.filterMap_eq_map'] <;> exact h
/-! ### loops -/
theorem for_inv {g : GF} {b : SF} {E : EndF} (Inv : Nat → Rho → Prop) : ∀ (ds : List D) (i0 : Nat) (ρ : Rho), Inv i0 ρ →
    (∀ i d ρ, ds[i]? = some d → Inv (i0 + i) ρ → ∀ E' : EndF, (∀ ρ', Inv (i0 + i + 1) ρ' → E'.nx ρ') → (∀ ρ', Inv (i0 + i + 1) ρ' → E'.ct ρ') → E'.rt = E.rt → E'.bk = E.nx → g d ρ fun ρ1 => b ρ1 E') →
    (∀ ρ, Inv (i0 + ds.length) ρ → E.nx ρ) → forW g b ds ρ E
  | [], i0, ρ, h0, _, h2 => h2 ρ (by simpa using h0)
  | d :: ds, i0, ρ, h0, h1, h2 => by
    have next : ∀ ρ', Inv (i0 + 0 + 1) ρ' → forW g b ds ρ' E := fun ρ' h => by
      refine for_inv Inv ds (i0 + 1) ρ' h (fun i d' ρ2 e hi => ?_) fun ρ2 hi => ?_
      · have q := h1 (i + 1) d' ρ2 (by simpa using e)
        rw [show i0 + (i + 1) = i0 + 1 + i by omega] at q
        exact q hi
      · refine h2 ρ2 ?_
        rw [List.length_cons, show i0 + (ds.length + 1) = i0 + 1 + ds.length by omega]
        exact hi
    exact h1 0 d ρ rfl h0 _ next next rfl rfl
end TL
set_option Elab.async false
set_option linter.all false
set_option maxRecDepth 100000
set_option maxHeartbeats 4000000
namespace TL
open PySem PySem.Spec PyProof.Rows L2
theorem cut_pre (xs : List D) (n : Nat) : cutD xs none (some (n : Int)) = xs.take n := by
  unfold cutD
  have e1 : HT.sIx xs.length 0 none = 0 := rfl
  have e2 : HT.sIx xs.length xs.length (some (n : Int)) = min n xs.length := by
    simp only [HT.sIx]
    rw [if_neg (by omega), Int.toNat_natCast]
  rw [e1, e2, List.drop_zero, Nat.sub_zero]
  rcases Nat.le_total n xs.length with h | h
  · rw [Nat.min_eq_left h]
  · rw [Nat.min_eq_right h, List.take_length, List.take_of_length_le h]
def absD : D → D
  | .int a => .int (if a < 0 then -a else a)
  | d => d
theorem state_plain (xs : List Int) (h : xs.length ≤ 63) : bState1 [.raw xs, .un, .un] eState1 := by
  refine ⟨xs, rfl, ?_⟩
  simp only [oNo, oIs, sC]
  refine ⟨63, rfl, _, rfl, ?_⟩
  rw [show (63 : Int) = ((63 : Nat) : Int) from rfl, cut_pre, List.take_of_length_le (by rw [List.length_map]; exact h)]
  have hl : (xs.map PyData.int).length ≤ sizeLine := by rw [List.length_map, sizeLine_eq]; omega
  refine comp_map (F := absD) (fun d hd A B hA hB => ?_) hl ?_
  · obtain ⟨a, _, rfl⟩ := List.mem_map.mp hd
    refine ⟨_, rfl, a, rfl, ?_⟩
    exact hA _ rfl _ rfl
  · rw [List.map_map]
    have e : xs.map (absD ∘ PyData.int) = (xs.map fun a => if a < 0 then -a else a).map PyData.int := by
      rw [List.map_map]
      rfl
    rw [e]
    generalize hms : (xs.map fun a : Int => if a < 0 then -a else a) = ms
    refine ⟨_, rfl, ?_⟩
    refine gLen_list.2 ?_
    refine uEq_int.2 ⟨_, rfl, ?_⟩
    by_cases c : ms = []
    · subst c
      refine ifT rfl ?_
      exact ⟨by rw [sizeLine_eq]; decide, [0], rfl, by simp⟩
    · refine ifF (decide_eq_false fun z => c ?_) ?_
      · have z2 : (ms.map PyData.int).length = 0 := by exact_mod_cast z
        rw [List.length_map] at z2
        exact List.eq_nil_of_length_eq_zero z2
      · exact ⟨ms, rfl, c⟩
end TL
set_option Elab.async false
set_option linter.all false
set_option maxRecDepth 100000
set_option maxHeartbeats 4000000
namespace TL
open PySem PySem.Spec PyProof.Rows L2
variable {P : Program} {w : World} {K : PySem.W.Frag} {mg : Str → Option Value} {base : Heap} {xc : Str → Option (Addr × List Str)}
/-- a law that calls defs that may raise; it raises nothing itself -/
theorem law_fnX {x qual : Str} {st : Stmt} {f : Addr} {fd : FuncData} {N : List Str} {k m : Nat} {b : SF} (F : Fun K x qual st f fd) (S : FnScope N ["script"] (defScope st)) (hm : N.length = 1 + m)
    (hb : ∀ cdv A outer s H E (hr : Room k (A.deeper (envOfC qual (defScope st) s.heap.objs.size f cdv))), HSs (ctOfX P w K mg base xc N ["script"] qual st f cdv A outer s H E (fun _ _ => False) k S hr) (defBody st) b)
    (hp : ∀ ns : List Int, ns.length ≤ 63 → b (.raw ns :: List.replicate m .un) { nx := fun _ => False, rt := fun d _ => d = .bool true }) :
    FnOk P w K mg base (L2.CX P w) (k + 1) f fd ["script"] (spLaw K) := by
  refine F.okX S (fun vs H Q E h => ?_) (fun cdv A outer s H vs Q E hr h => ?_)
  · obtain ⟨a, xs, rfl, _⟩ := h
    rfl
  · obtain ⟨a, ns, rfl, hs, hx, kk⟩ := h
    obtain ⟨t, ht, hs'⟩ := hb cdv A outer s H E hr
    refine ⟨t, ht, ?_⟩
    have hst : L2.start N [V.ref a] = some (.ref a) :: List.replicate m none := by
      unfold L2.start
      have hz : N.length - [V.ref a].length = m := by rw [hm]; simp
      rw [hz]
      rfl
    rw [hst]
    refine hs' _ (fun b => if b = a then H a else none) _ H _ _ { nx := fun _ => False, rt := fun d _ => d = .bool true } _ (raw_start (fun b o h => ?_) ?_) ⟨fun _ _ _ _ _ _ _ _ _ _ _ _ h => h.elim⟩ ⟨fun _ _ _ _ _ _ _ q => q.elim, fun F' own' H' σ' ρ' v d I _ dv q => ?_, fun _ _ _ _ _ _ _ q => q.elim, fun _ _ _ _ _ _ _ q => q.elim⟩ (hp ns hx)
    · have h : (if b = a then H a else none) = some o := h
      split at h
      · rename_i hh; subst hh; exact h
      · cases h
    · rcases hs with (h | ⟨o, h⟩) | h
      · exact .inl (.inl (by show (if a = a then H a else none) = _; rw [if_pos rfl]; exact h))
      · exact .inl (.inr ⟨o, by show (if a = a then H a else none) = _; rw [if_pos rfl]; exact h⟩)
      · exact .inr h
    · subst q
      cases dv
      exact kk H'
end TL
set_option Elab.async false
set_option linter.all false
set_option maxRecDepth 100000
set_option maxHeartbeats 4000000
/-! Plain facts of texts: one-sign separators, numbers. -/
namespace TL
open PySem PySem.Spec PyProof.Rows L2

theorem pre_one {s c : Nat} {r : List Nat} : pre [s] (c :: r) = decide (c = s) := by
  show ([c] == [s]) = decide (c = s)
  rw [Bool.eq_iff_iff]
  simp
theorem spl_ne {S : List Nat} : ∀ (L : List Nat) (k : Nat) (acc : List Nat), spl S k acc L ≠ []
  | [], k, acc => by rw [spl_nil]; simp
  | c :: r, 0, acc => by
    cases h : pre S (c :: r) with
    | true => rw [spl_hit h]; simp
    | false => rw [spl_miss h]; exact spl_ne r 0 _
  | c :: r, k + 1, acc => by
    rw [spl_pass, List.drop_succ_cons, ← spl_pass]
    exact spl_ne r k acc
theorem join_spl {s : Nat} : ∀ (L acc : List Nat), joinL [s] (spl [s] 0 acc L) = acc ++ L
  | [], acc => by rw [spl_nil]; simp [joinL]
  | c :: r, acc => by
    by_cases h : c = s
    · subst h
      rw [spl_hit (by rw [pre_one]; simp)]
      have ih := join_spl (s := c) r []
      obtain ⟨q, t, e⟩ := List.exists_cons_of_ne_nil (spl_ne (S := [c]) r 0 [])
      show joinL [c] (acc :: spl [c] 0 [] r) = _
      rw [e] at ih ⊢
      show acc ++ ([c] ++ joinL [c] (q :: t)) = _
      rw [ih]
      simp
    · rw [spl_miss (by rw [pre_one]; simpa using h), join_spl r (acc ++ [c])]
      simp
theorem spl_free {s : Nat} : ∀ (L acc : List Nat), s ∉ acc → ∀ p ∈ spl [s] 0 acc L, s ∉ p
  | [], acc, h, p, hp => by
    rw [spl_nil] at hp
    rw [List.mem_singleton.mp hp]
    exact h
  | c :: r, acc, h, p, hp => by
    by_cases hc : c = s
    · subst hc
      rw [spl_hit (by rw [pre_one]; simp)] at hp
      rcases List.mem_cons.mp hp with rfl | hp
      · exact h
      · exact spl_free r [] (by simp) p hp
    · rw [spl_miss (by rw [pre_one]; simpa using hc)] at hp
      exact spl_free r (acc ++ [c]) (by simp [h]; exact fun e => hc e.symm) p hp
/-- a separator of one sign -/
structure Sep1 (y : Str) (s : Nat) : Prop where
  tl : tl y = [s]
  lt : s < 256
theorem Sep1.k {y : Str} {s : Nat} (h : Sep1 y s) : y.cps.all (· < 256) = true := by
  rw [← Array.all_toList]
  have e : y.cps.toList = [s] := h.tl
  rw [e]
  simpa using h.lt
theorem Sep1.len {y : Str} {s : Nat} (h : Sep1 y s) : y.length = 1 := by rw [len_tl, h.tl]; rfl
theorem Sep1.split {y : Str} {s : Nat} (h : Sep1 y s) (x : Str) : (Txt.split x y).map TL.tl = spl [s] 0 [] (TL.tl x) := by
  rw [split_spl x y (by rw [h.tl]; simp) (kind_ok h.k), h.tl]
theorem Sep1.join_split {y : Str} {s : Nat} (h : Sep1 y s) (x : Str) : Txt.join y (Txt.split x y) = x := by
  refine ext_tl ?_
  rw [join_eq, tl_join, h.split, h.tl, join_spl, List.nil_append]
theorem Sep1.ne {y : Str} {s : Nat} (h : Sep1 y s) (x : Str) : Txt.split x y ≠ [] := fun e => by
  have q := h.split x
  rw [e] at q
  exact spl_ne _ _ _ q.symm
theorem Sep1.free {y : Str} {s : Nat} (h : Sep1 y s) {x p : Str} (hp : p ∈ Txt.split x y) : s ∉ TL.tl p :=
  spl_free (TL.tl x) [] (by simp) _ (by rw [← h.split]; exact List.mem_map_of_mem hp)
theorem Sep1.split_join {y : Str} {s : Nat} (h : Sep1 y s) {ps : List Str} (hne : ps ≠ []) (hp : ∀ p ∈ ps, s ∉ TL.tl p) : Txt.split (Txt.join y ps) y = ps :=
  TL.split_join h.tl h.k hne hp
theorem joinL_len {s : Nat} : ∀ {ps : List (List Nat)}, ps ≠ [] → (joinL [s] ps).length + 1 = (ps.map fun p => p.length + 1).sum
  | [], h => absurd rfl h
  | [p], _ => by simp [joinL]
  | p :: q :: r, _ => by
    have ih := joinL_len (s := s) (ps := q :: r) (by simp)
    show (p ++ ([s] ++ joinL [s] (q :: r))).length + 1 = _
    rw [List.map_cons, List.sum_cons, ← ih]
    simp
    omega
theorem Sep1.join_len {y : Str} {s : Nat} (h : Sep1 y s) {ps : List Str} (hne : ps ≠ []) : (Txt.join y ps).length + 1 = (ps.map fun p => p.length + 1).sum := by
  rw [len_tl, join_eq, tl_join, h.tl, joinL_len (by simpa using hne), List.map_map]
  have e : ∀ qs : List Str, qs.map ((fun p => p.length + 1) ∘ TL.tl) = qs.map fun p => p.length + 1 := fun qs => List.map_congr_left fun p _ => by
    show (TL.tl p).length + 1 = _
    rw [len_tl]
  rw [e]
theorem sum_ge (ps : List Str) : ps.length ≤ (ps.map fun p => p.length + 1).sum := by
  induction ps with
  | nil => simp
  | cons a t ih => rw [List.map_cons, List.sum_cons, List.length_cons]; omega
theorem sum_mem {ps : List Str} {p : Str} (h : p ∈ ps) : p.length + 1 ≤ (ps.map fun p => p.length + 1).sum := by
  induction ps with
  | nil => cases h
  | cons a t ih =>
    rw [List.map_cons, List.sum_cons]
    rcases List.mem_cons.mp h with rfl | h
    · omega
    · have := ih h; omega
theorem Sep1.split_sum {y : Str} {s : Nat} (h : Sep1 y s) (x : Str) : ((Txt.split x y).map fun p => p.length + 1).sum = x.length + 1 := by
  rw [← h.join_len (h.ne x), h.join_split]
theorem Sep1.split_len {y : Str} {s : Nat} (h : Sep1 y s) (x : Str) : (Txt.split x y).length ≤ x.length + 1 := by
  rw [← h.split_sum]
  exact sum_ge _
theorem Sep1.part_len {y : Str} {s : Nat} (h : Sep1 y s) {x p : Str} (hp : p ∈ Txt.split x y) : p.length ≤ x.length := by
  have := sum_mem hp
  rw [h.split_sum] at this
  omega
theorem sp10 : Sep1 "\n" 10 := ⟨rfl, by decide⟩
theorem sp32 : Sep1 " " 32 := ⟨rfl, by decide⟩

/-! ### numbers -/
def nS (n : Nat) : Str := Str.ofString (toString ((n : Nat) : Int))
theorem tl_nS (n : Nat) : tl (nS n) = numL n := tl_num n
theorem nS_int (i : Int) (h : 0 ≤ i) : (Str.ofString (toString i)) = nS i.toNat := by
  unfold nS
  rw [Int.toNat_of_nonneg h]
theorem nS_len {n k : Nat} (hk : 0 < k) (h : n < 10 ^ k) : (nS n).length ≤ k := by
  rw [len_tl, tl_nS]
  exact numL_len hk h
/-- the number that a text writes, at most three signs, no sign too many -/
def numO (w : Str) : Option Nat :=
  if 1 ≤ (tl w).length ∧ (tl w).length ≤ 3 ∧ (∀ c ∈ tl w, 48 ≤ c ∧ c ≤ 57) ∧ ((tl w).head? = some 48 → tl w = [48]) then some (NumText.digitsVal (tl w)) else none
theorem num1 {a : Nat} (ha : 48 ≤ a ∧ a ≤ 57) : numL (a - 48) = [a] := by
  rw [numL_lt (by omega), show 48 + (a - 48) = a by omega]
theorem num2 {a b : Nat} (ha : 48 ≤ a ∧ a ≤ 57) (h0 : a ≠ 48) (hb : 48 ≤ b ∧ b ≤ 57) : numL ((a - 48) * 10 + (b - 48)) = [a, b] := by
  rw [numL_step (by omega), show ((a - 48) * 10 + (b - 48)) / 10 = a - 48 by omega, num1 ha, show 48 + ((a - 48) * 10 + (b - 48)) % 10 = b by omega]
  rfl
theorem num3 {a b c : Nat} (ha : 48 ≤ a ∧ a ≤ 57) (h0 : a ≠ 48) (hb : 48 ≤ b ∧ b ≤ 57) (hc : 48 ≤ c ∧ c ≤ 57) : numL (((a - 48) * 10 + (b - 48)) * 10 + (c - 48)) = [a, b, c] := by
  rw [numL_step (by omega), show (((a - 48) * 10 + (b - 48)) * 10 + (c - 48)) / 10 = (a - 48) * 10 + (b - 48) by omega, num2 ha h0 hb, show 48 + (((a - 48) * 10 + (b - 48)) * 10 + (c - 48)) % 10 = c by omega]
  rfl
theorem numO_some {w : Str} {n : Nat} (h : numO w = some n) : n < 1000 ∧ w = nS n := by
  unfold numO at h
  split at h
  · rename_i hh
    obtain ⟨h1, h2, h3, h4⟩ := hh
    have e := Option.some.inj h
    have key : n < 1000 ∧ tl w = numL n := by
      match hw : tl w, h1, h2, h3, h4 with
      | [a], _, _, h3, h4 =>
        rw [hw] at e
        have ha := h3 a (by simp)
        have hv : n = a - 48 := by rw [← e]; simp [NumText.digitsVal]
        subst hv
        exact ⟨by omega, (num1 ha).symm⟩
      | [a, b], _, _, h3, h4 =>
        rw [hw] at e
        have ha := h3 a (by simp)
        have hb := h3 b (by simp)
        have h0 : a ≠ 48 := fun z => by subst z; simp at h4
        have hv : n = (a - 48) * 10 + (b - 48) := by rw [← e]; simp [NumText.digitsVal]
        subst hv
        exact ⟨by omega, (num2 ha h0 hb).symm⟩
      | [a, b, c], _, _, h3, h4 =>
        rw [hw] at e
        have ha := h3 a (by simp)
        have hb := h3 b (by simp)
        have hc := h3 c (by simp)
        have h0 : a ≠ 48 := fun z => by subst z; simp at h4
        have hv : n = ((a - 48) * 10 + (b - 48)) * 10 + (c - 48) := by rw [← e]; simp [NumText.digitsVal]
        subst hv
        exact ⟨by omega, (num3 ha h0 hb hc).symm⟩
      | [], h1, _, _, _ => simp at h1
      | _ :: _ :: _ :: _ :: _, _, h2, _, _ => simp at h2
    exact ⟨key.1, ext_tl (by rw [key.2, tl_nS])⟩
  · cases h
theorem numL_head {n : Nat} : (numL n).head? = some 48 → numL n = [48] := by
  induction n using Nat.strongRecOn with
  | _ n ih =>
    intro h
    by_cases c : n < 10
    · rw [numL_lt c] at h ⊢
      simp at h
      rw [show n = 0 by omega]
    · exfalso
      rw [numL_step (by omega)] at h
      have ne := numL_ne (n / 10)
      obtain ⟨q, t, eq⟩ := List.exists_cons_of_ne_nil ne
      rw [show (numL (n / 10) ++ [48 + n % 10]).head? = (numL (n / 10)).head? by rw [eq]; rfl] at h
      have e := ih (n / 10) (by omega) h
      have v := congrArg NumText.digitsVal e
      rw [numL_val] at v
      simp [NumText.digitsVal] at v
      omega
theorem numO_nS {n : Nat} (h : n < 1000) : numO (nS n) = some n := by
  unfold numO
  rw [tl_nS, if_pos ⟨List.length_pos_iff.mpr (numL_ne n), numL_len (by decide) (by simpa using h), numL_digits n, numL_head⟩, numL_val]
def numIn (w : Str) (lo hi : Int) : Option Nat :=
  match numO w with
  | some n => if lo ≤ (n : Int) ∧ (n : Int) ≤ hi then some n else none
  | none => none
def numD (w : Str) (lo hi : Int) : D := match numIn w lo hi with | some n => .int n | none => .none
theorem numIn_some {w : Str} {lo hi : Int} {n : Nat} (h : numIn w lo hi = some n) : n < 1000 ∧ w = nS n ∧ lo ≤ (n : Int) ∧ (n : Int) ≤ hi := by
  unfold numIn at h
  split at h
  · rename_i m hm
    split at h
    · rename_i hh
      cases h
      obtain ⟨a, b⟩ := numO_some hm
      exact ⟨a, b, hh⟩
    · cases h
  · cases h
theorem numIn_nS {n : Nat} {lo hi : Int} (h : n < 1000) (h1 : lo ≤ (n : Int)) (h2 : (n : Int) ≤ hi) : numIn (nS n) lo hi = some n := by
  unfold numIn
  rw [numO_nS h]
  simp [h1, h2]
end TL
set_option Elab.async false
set_option linter.all false
set_option maxRecDepth 100000
set_option maxHeartbeats 4000000
/-! The combinators on known slots, for simp. -/
namespace TL
open PySem PySem.Spec PyProof.Rows L2
section
variable {ρ : Rho} {E : EndF} {R : D → Rho → Prop} {S : List D → Rho → Prop} {T : Bool → Rho → Prop} {U : Rho → Prop} {i j : Nat} {f g : EF} {h a : NF} {c c' : TF} {s s' : SF}
@[simp] theorem ev_seq : fSeq s s' ρ E ↔ s ρ { E with nx := fun ρ' => s' ρ' E } := Iff.rfl
@[simp] theorem ev_next : fNext ρ E ↔ E.nx ρ := Iff.rfl
@[simp] theorem ev_brk : fBreak ρ E ↔ E.bk ρ := Iff.rfl
@[simp] theorem ev_cont : fCont ρ E ↔ E.ct ρ := Iff.rfl
@[simp] theorem ev_if : fIf c s s' ρ E ↔ c ρ fun b ρ1 => if b = true then s ρ1 E else s' ρ1 E := Iff.rfl
@[simp] theorem ev_ret : fRet f ρ E ↔ f ρ E.rt := Iff.rfl
@[simp] theorem ev_retn : fRetN ρ E ↔ E.rt .none ρ := Iff.rfl
@[simp] theorem ev_set : fSet i f ρ E ↔ f ρ fun d ρ1 => E.nx (ρ1.set i (.fz d)) := Iff.rfl
@[simp] theorem ev_setN : fSetN i h ρ E ↔ h ρ fun ds ρ1 => E.nx (ρ1.set i (.ow ds)) := Iff.rfl
@[simp] theorem ev_setK {k : KF} : fSetK i k ρ E ↔ k ρ fun s ρ1 => E.nx (ρ1.set i s) := Iff.rfl
@[simp] theorem ev_parK {k k' : KF} : fParK i j k k' ρ E ↔ k ρ fun s ρ1 => k' ρ1 fun u ρ2 => E.nx ((ρ2.set i s).set j u) := Iff.rfl
@[simp] theorem ev_kE {Q : Sl → Rho → Prop} : kE f ρ Q ↔ f ρ fun d ρ1 => Q (.fz d) ρ1 := Iff.rfl
@[simp] theorem ev_kN {Q : Sl → Rho → Prop} : kN h ρ Q ↔ h ρ fun ds ρ1 => Q (.ow ds) ρ1 := Iff.rfl
@[simp] theorem ev_app : fApp i f ρ E ↔ (∃ es, ρ[i]? = some (.ow es)) ∧ f ρ fun d ρ1 => ∃ ds, ρ1[i]? = some (.ow ds) ∧ ds.length < sizeLine ∧ E.nx (ρ1.set i (.ow (ds ++ [d]))) := Iff.rfl
@[simp] theorem ev_frz : fFrz i s ρ E ↔ ∃ ds, ρ[i]? = some (.ow ds) ∧ s (ρ.set i (.fz (.list ds))) E := Iff.rfl
@[simp] theorem ev_var : sVar i ρ R ↔ ∃ d, ρ[i]? = some (.fz d) ∧ R d ρ := Iff.rfl
@[simp] theorem ev_c {d : D} : sC d ρ R ↔ R d ρ := Iff.rfl
@[simp] theorem ev_own {Q : D → Prop} : rOwn i ρ Q ↔ ∃ ds, ρ[i]? = some (.ow ds) ∧ Q (.list ds) := Iff.rfl
@[simp] theorem ev_of {Q : D → Prop} : rOf f ρ Q ↔ f ρ fun d _ => Q d := Iff.rfl
@[simp] theorem ev_s1 {g1 : G1} : s1 g1 f ρ R ↔ f ρ fun x ρ1 => g1 x fun z => R z ρ1 := Iff.rfl
@[simp] theorem ev_s2 {g2 : G2} : s2 g2 f g ρ R ↔ f ρ fun x ρ1 => g ρ1 fun y ρ2 => g2 x y fun z => R z ρ2 := Iff.rfl
@[simp] theorem ev_s1r {g1 : G1} {r : RF} : s1r g1 r ρ R ↔ r ρ fun x => g1 x fun z => R z ρ := Iff.rfl
@[simp] theorem ev_sN : sN h ρ R ↔ h ρ fun ds ρ' => R (.list ds) ρ' := Iff.rfl
@[simp] theorem ev_aNil : aNil ρ S ↔ S [] ρ := Iff.rfl
@[simp] theorem ev_aCons : aCons f h ρ S ↔ f ρ fun d ρ1 => h ρ1 fun ds ρ2 => S (d :: ds) ρ2 := Iff.rfl
@[simp] theorem ev_tup : sTup h ρ R ↔ h ρ fun ds ρ1 => ds.length ≤ sizeLine ∧ R (.tuple ds) ρ1 := Iff.rfl
@[simp] theorem ev_lst : nLst h ρ S ↔ h ρ fun ds ρ1 => ds.length ≤ sizeLine ∧ S ds ρ1 := Iff.rfl
@[simp] theorem ev_tBool : tBool f ρ T ↔ f ρ fun d ρ1 => ∃ b, d = .bool b ∧ T b ρ1 := Iff.rfl
@[simp] theorem ev_chain {g1 g2 : G2} {f3 : EF} : sChain g1 g2 f g f3 ρ R ↔ f ρ fun x ρ1 => g ρ1 fun y ρ2 => g1 x y fun z => ∃ b, z = .bool b ∧ (if b = true then f3 ρ2 fun w ρ3 => g2 y w fun z2 => R z2 ρ3 else R (.bool false) ρ2) := Iff.rfl
@[simp] theorem ev_tand : tAnd2 c c' ρ T ↔ c ρ fun b ρ1 => if b = true then c' ρ1 T else T false ρ1 := Iff.rfl
@[simp] theorem ev_tor : tOr2 c c' ρ T ↔ c ρ fun b ρ1 => if b = true then T true ρ1 else c' ρ1 T := Iff.rfl
@[simp] theorem ev_tnot : tNot1 c ρ T ↔ c ρ fun b ρ1 => T (!b) ρ1 := Iff.rfl
@[simp] theorem ev_sand : sAnd2 f g ρ R ↔ f ρ fun d ρ1 => ∃ b, d = .bool b ∧ (if b = true then g ρ1 R else R (.bool false) ρ1) := Iff.rfl
@[simp] theorem ev_sor : sOr2 f g ρ R ↔ f ρ fun d ρ1 => ∃ b, d = .bool b ∧ (if b = true then R (.bool true) ρ1 else g ρ1 R) := Iff.rfl
@[simp] theorem ev_snot : sNot1 f ρ R ↔ f ρ fun d ρ1 => ∃ b, d = .bool b ∧ R (.bool (!b)) ρ1 := Iff.rfl
@[simp] theorem ev_sif : sIf c f g ρ R ↔ c ρ fun b ρ1 => if b = true then f ρ1 R else g ρ1 R := Iff.rfl
@[simp] theorem ev_yes : tYs ρ T ↔ T true ρ := Iff.rfl
@[simp] theorem ev_call {φ : FF} : sCall φ h ρ R ↔ h ρ fun ds ρ1 => φ ds fun d => R d ρ1 := Iff.rfl
@[simp] theorem ev_callX {W : WD} {φ : FX} : sCallX W φ h ρ R ↔ h ρ fun ds ρ1 => φ ds (fun d => R d ρ1) fun nm es => W nm es ρ1 := Iff.rfl
@[simp] theorem ev_raise {W : WD} {x : Str} {n : Nat} {okd : List D → Prop} : fRaise W x n okd h ρ E ↔ h ρ fun ds ρ1 => ds.length = n ∧ okd ds ∧ W x ds ρ1 := Iff.rfl
@[simp] theorem ev_callS {φ : FF} : sCallS i φ h ρ R ↔ ∃ p q, ρ[i]? = some (.st p q) ∧ h ρ fun ds ρ1 => ρ1[i]? = some (.st p q) ∧ φ ds fun d => R d ρ1 := Iff.rfl
@[simp] theorem ev_iSeq : iSeq f ρ S ↔ f ρ fun d ρ1 => ∃ ds, seqD d = some ds ∧ S ds ρ1 := Iff.rfl
@[simp] theorem ev_iSeqR {r : RF} : iSeqR r ρ S ↔ r ρ fun d => ∃ ds, seqD d = some ds ∧ S ds ρ := Iff.rfl
@[simp] theorem ev_iTxt : iTxt f ρ S ↔ f ρ fun d ρ1 => ∃ z : Str, d = .str z ∧ S (z.cps.toList.map fun c => PyData.str ⟨#[c]⟩) ρ1 := Iff.rfl
@[simp] theorem ev_rngA : iRngA h ρ S ↔ h ρ fun ds ρ1 => ∃ j : Int, ds = [.int j] ∧ (-(2 ^ 62) ≤ j ∧ j < 2 ^ 62) ∧ S (rngD 0 j) ρ1 := Iff.rfl
@[simp] theorem ev_rngB : iRngB h ρ S ↔ h ρ fun ds ρ1 => ∃ i j : Int, ds = [.int i, .int j] ∧ (-(2 ^ 62) ≤ i ∧ i < 2 ^ 62 ∧ -(2 ^ 62) ≤ j ∧ j < 2 ^ 62) ∧ S (rngD i j) ρ1 := Iff.rfl
@[simp] theorem ev_nm {d : D} : gNm i d ρ U ↔ U (ρ.set i (.fz d)) := Iff.rfl
@[simp] theorem ev_n1 {n : N1} : n1 n f ρ S ↔ f ρ fun x ρ1 => n x fun z => S z ρ1 := Iff.rfl
@[simp] theorem ev_n2 {n : N2} : n2 n f g ρ S ↔ f ρ fun x ρ1 => g ρ1 fun y ρ2 => n x y fun z => S z ρ2 := Iff.rfl
@[simp] theorem ev_oNo {Q : Option Int → Rho → Prop} : oNo ρ Q ↔ Q none ρ := Iff.rfl
@[simp] theorem ev_oIs {Q : Option Int → Rho → Prop} : oIs f ρ Q ↔ f ρ fun d ρ1 => ∃ i, d = .int i ∧ Q (some i) ρ1 := Iff.rfl
@[simp] theorem ev_sl {o1 o2 : OF} : nSlL f o1 o2 ρ S ↔ f ρ fun x ρ1 => o1 ρ1 fun lo ρ2 => o2 ρ2 fun hi ρ3 => ∃ ds, x = .list ds ∧ S (cutD ds lo hi) ρ3 := Iff.rfl
@[simp] theorem ev_m1 {g2 : G2} {r : RF} : sM1 g2 f r ρ R ↔ f ρ fun x ρ1 => (∃ a, x = .str a) ∧ r ρ1 fun y => g2 x y fun z => R z ρ1 := Iff.rfl
@[simp] theorem ev_split : nSplit f g ρ S ↔ f ρ fun x ρ1 => (∃ a, x = .str a) ∧ g ρ1 fun y ρ2 => ∃ a b : Str, x = .str a ∧ y = .str b ∧ (b.length == 0) = false ∧ a.length + 2 ≤ sizeLine ∧ S ((Txt.split a b).map .str) ρ2 := Iff.rfl
end
@[simp] theorem seq_l {ds : List D} : seqD (.list ds) = some ds := rfl
@[simp] theorem seq_t {ds : List D} : seqD (.tuple ds) = some ds := rfl
section
variable {R : D → Prop} {a b : Int} {x y : Str} {ds : List D} {S : List D → Prop}
@[simp] theorem q_isi_int {T : String} : gIsi T (.int a) R ↔ ∃ k, kitB "int" T = some k ∧ R (.bool k) := by
  unfold gIsi
  simp [tyD]
@[simp] theorem q_isi_tup {T : String} : gIsi T (.tuple ds) R ↔ ∃ k, kitB "tuple" T = some k ∧ R (.bool k) := by
  unfold gIsi
  simp [tyD]
@[simp] theorem q_isi_list {T : String} : gIsi T (.list ds) R ↔ ∃ k, kitB "list" T = some k ∧ R (.bool k) := by
  unfold gIsi
  simp [tyD]
@[simp] theorem kit_ii : kitB "int" "int" = some true := by decide +kernel
@[simp] theorem kit_ib : kitB "int" "bool" = some false := by decide +kernel
@[simp] theorem kit_tt : kitB "tuple" "tuple" = some true := by decide +kernel
@[simp] theorem kit_ti : kitB "tuple" "int" = some false := by decide +kernel
@[simp] theorem kit_li : kitB "list" "int" = some false := by decide +kernel
@[simp] theorem q_eq_int : uEq (.int a) (.int b) R ↔ R (.bool (decide (a = b))) := uEq_int
@[simp] theorem q_eq_str : uEq (.str x) (.str y) R ↔ R (.bool (decide (x = y))) := uEq_str
@[simp] theorem q_ne_int : uNe (.int a) (.int b) R ↔ R (.bool (!decide (a = b))) := uNe_int
@[simp] theorem q_ne_str : uNe (.str x) (.str y) R ↔ R (.bool (!decide (x = y))) := uNe_str
@[simp] theorem q_le_int : uLe (.int a) (.int b) R ↔ R (.bool (decide (a ≤ b))) := uLe_int
@[simp] theorem q_lt_int : gLt (.int a) (.int b) R ↔ R (.bool (decide (a < b))) := gLt_int
@[simp] theorem q_gt_int : gGt (.int a) (.int b) R ↔ R (.bool (decide (b < a))) := gGt_int
@[simp] theorem q_ge_int : gGe (.int a) (.int b) R ↔ R (.bool (decide (b ≤ a))) := gGe_int
@[simp] theorem q_add_int : uAdd (.int a) (.int b) R ↔ R (.int (a + b)) := uAdd_int
@[simp] theorem q_add_str : uAdd (.str x) (.str y) R ↔ x.length + y.length ≤ sizeLine ∧ R (.str (x ++ y)) := uAdd_str
@[simp] theorem q_sub_int : TL.gSub (.int a) (.int b) R ↔ R (.int (a - b)) := gSub_int
@[simp] theorem q_len_list : gLen (.list ds) R ↔ R (.int ds.length) := gLen_list
@[simp] theorem q_len_tuple : gLen (.tuple ds) R ↔ R (.int ds.length) := gLen_tuple
@[simp] theorem q_len_str : gLen (.str x) R ↔ x.length ≤ sizeLine ∧ R (.int x.length) := gLen_str
@[simp] theorem q_cat {es : List D} : kCat (.list ds) (.list es) S ↔ ds.length + es.length ≤ sizeLine ∧ S (ds ++ es) := kCat_list
@[simp] theorem q_ix_list : gIx (.list ds) (.int a) R ↔ ∃ d, atI ds a = some d ∧ R d := gIx_list
@[simp] theorem q_ix_tuple : gIx (.tuple ds) (.int a) R ↔ ∃ d, atI ds a = some d ∧ R d := gIx_tuple
@[simp] theorem q_neg : gNeg (.int a) R ↔ R (.int (-a)) := by simp [gNeg]
@[simp] theorem q_tupOf : gTupOf (.list ds) R ↔ R (.tuple ds) := by simp [gTupOf]
@[simp] theorem q_listOf : kList (.list ds) S ↔ S ds := by simp [kList]
@[simp] theorem q_listOfT : kList (.tuple ds) S ↔ S ds := by simp [kList]
@[simp] theorem q_isN {d : D} : gIsN d .none R ↔ R (.bool (isN d)) := by simp [gIsN]
@[simp] theorem q_isNi : isN (.int a) = false := rfl
@[simp] theorem q_isNn : isN .none = true := rfl
@[simp] theorem q_isB {p q : Bool} : gIsB (.bool p) (.bool q) R ↔ R (.bool (decide (p = q))) := by simp [gIsB]
@[simp] theorem q_str : gStrOf (.int a) R ↔ a.natAbs.log2 < 1920 ∧ R (.str (toString a)) := by simp [gStrOf]
end
@[simp] theorem at_0 {d : D} {ds : List D} : atI (d :: ds) 0 = some d := atI_nat (j := 0) rfl
@[simp] theorem at_1 {d e : D} {ds : List D} : atI (d :: e :: ds) 1 = some e := atI_nat (j := 1) rfl
@[simp] theorem at_2 {d e f : D} {ds : List D} : atI (d :: e :: f :: ds) 2 = some f := atI_nat (j := 2) rfl
end TL
set_option Elab.async false
set_option linter.all false
set_option maxRecDepth 100000
set_option maxHeartbeats 4000000
/-! What is read, step by step: Ev an expression's value, Tv a test's, Lv a list's, Iv what a loop runs over. -/
namespace TL
open PySem PySem.Spec PyProof.Rows L2
def Ev (f : EF) (ρ : Rho) (d : D) : Prop := ∀ R : D → Rho → Prop, R d ρ → f ρ R
def Rv (f : RF) (ρ : Rho) (d : D) : Prop := ∀ R : D → Prop, R d → f ρ R
def Tv (c : TF) (ρ : Rho) (b : Bool) : Prop := ∀ T : Bool → Rho → Prop, T b ρ → c ρ T
def Lv (n : NF) (ρ : Rho) (ds : List D) : Prop := ∀ S : List D → Rho → Prop, S ds ρ → n ρ S
def Ov (o : OF) (ρ : Rho) (i : Option Int) : Prop := ∀ S : Option Int → Rho → Prop, S i ρ → o ρ S
def V1 (g : G1) (x d : D) : Prop := ∀ R : D → Prop, R d → g x R
def V2 (g : G2) (x y d : D) : Prop := ∀ R : D → Prop, R d → g x y R
def VN1 (g : N1) (x : D) (ds : List D) : Prop := ∀ R : List D → Prop, R ds → g x R
def VN2 (g : N2) (x y : D) (ds : List D) : Prop := ∀ R : List D → Prop, R ds → g x y R
section
variable {ρ : Rho} {E : EndF} {i j : Nat} {f g h : EF} {n m : NF} {c c' : TF} {s s' : SF} {d e x y z : D} {ds es : List D} {b b' : Bool} {r : RF}
theorem Ev.eq (k : Ev f ρ d) (q : d = e) : Ev f ρ e := q ▸ k
theorem Tv.eq (k : Tv c ρ b) (q : b = b') : Tv c ρ b' := q ▸ k
theorem Lv.eq (k : Lv n ρ ds) (q : ds = es) : Lv n ρ es := q ▸ k
theorem ev_v (k : ρ[i]? = some (.fz d)) : Ev (sVar i) ρ d := fun R q => ⟨d, k, q⟩
theorem ev_k : Ev (sC d) ρ d := fun R q => q
theorem ev_1 {g1 : G1} (k : Ev f ρ x) (q : V1 g1 x d) : Ev (s1 g1 f) ρ d := fun R z => k _ (q _ z)
theorem ev_2 {g2 : G2} (k : Ev f ρ x) (k' : Ev g ρ y) (q : V2 g2 x y d) : Ev (s2 g2 f g) ρ d := fun R z => k _ (k' _ (q _ z))
theorem ev_1r {g1 : G1} (k : Rv r ρ x) (q : V1 g1 x d) : Ev (s1r g1 r) ρ d := fun R z => k _ (q _ z)
theorem ev_N (k : Lv n ρ ds) : Ev (sN n) ρ (.list ds) := fun R z => k _ z
theorem ev_T (k : Lv n ρ ds) (l : ds.length ≤ sizeLine) : Ev (sTup n) ρ (.tuple ds) := fun R z => k _ ⟨l, z⟩
theorem lv_0 : Lv aNil ρ [] := fun R z => z
theorem lv_c (k : Ev f ρ d) (k' : Lv n ρ ds) : Lv (aCons f n) ρ (d :: ds) := fun R z => k _ (k' _ z)
theorem lv_l (k : Lv n ρ ds) (l : ds.length ≤ sizeLine) : Lv (nLst n) ρ ds := fun R z => k _ ⟨l, z⟩
theorem lv_1 {g1 : N1} (k : Ev f ρ x) (q : VN1 g1 x ds) : Lv (n1 g1 f) ρ ds := fun R z => k _ (q _ z)
theorem lv_2 {g2 : N2} (k : Ev f ρ x) (k' : Ev g ρ y) (q : VN2 g2 x y ds) : Lv (n2 g2 f g) ρ ds := fun R z => k _ (k' _ (q _ z))
theorem lv_seq (k : Ev f ρ d) (q : seqD d = some ds) : Lv (iSeq f) ρ ds := fun R z => k _ ⟨ds, q, z⟩
theorem lv_seqR (k : Rv r ρ d) (q : seqD d = some ds) : Lv (iSeqR r) ρ ds := fun R z => k _ ⟨ds, q, z⟩
theorem lv_txt {w : Str} (k : Ev f ρ (.str w)) : Lv (iTxt f) ρ ((tl w).map fun c => .str ⟨#[c]⟩) := fun R z => k _ ⟨w, rfl, z⟩
theorem lv_rA {j : Int} (k : Lv n ρ [.int j]) (q : -(2 ^ 62) ≤ j ∧ j < 2 ^ 62) : Lv (iRngA n) ρ (rngD 0 j) := fun R z => k _ ⟨j, rfl, q, z⟩
theorem lv_rB {i j : Int} (k : Lv n ρ [.int i, .int j]) (q : -(2 ^ 62) ≤ i ∧ i < 2 ^ 62 ∧ -(2 ^ 62) ≤ j ∧ j < 2 ^ 62) : Lv (iRngB n) ρ (rngD i j) := fun R z => k _ ⟨i, j, rfl, q, z⟩
theorem rv_own (k : ρ[i]? = some (.ow ds)) : Rv (rOwn i) ρ (.list ds) := fun R z => ⟨ds, k, z⟩
theorem rv_of (k : Ev f ρ d) : Rv (rOf f) ρ d := fun R z => k _ z
theorem ov_no : Ov oNo ρ none := fun R z => z
theorem ov_is {i : Int} (k : Ev f ρ (.int i)) : Ov (oIs f) ρ (some i) := fun R z => k _ ⟨i, rfl, z⟩
theorem lv_sl {o o' : OF} {lo hi : Option Int} (k : Ev f ρ (.list ds)) (k1 : Ov o ρ lo) (k2 : Ov o' ρ hi) : Lv (nSlL f o o') ρ (cutD ds lo hi) := fun R z => k _ (k1 _ (k2 _ ⟨ds, rfl, z⟩))
theorem ev_m {g2 : G2} {a : Str} (k : Ev f ρ (.str a)) (k' : Rv r ρ y) (q : V2 g2 (.str a) y d) : Ev (sM1 g2 f r) ρ d := fun R z => k _ ⟨⟨a, rfl⟩, k' _ (q _ z)⟩
theorem lv_split {a b : Str} (k : Ev f ρ (.str a)) (k' : Ev g ρ (.str b)) (q : (b.length == 0) = false) (l : a.length + 2 ≤ sizeLine) : Lv (nSplit f g) ρ ((Txt.split a b).map .str) :=
  fun R z => k _ ⟨⟨a, rfl⟩, k' _ ⟨a, b, rfl, rfl, q, l, z⟩⟩
theorem ev_f {φ : FF} (k : Lv n ρ ds) (q : ∀ R : D → Prop, R d → φ ds R) : Ev (sCall φ n) ρ d := fun R z => k _ (q _ z)
/-! tests -/
theorem tv_b (k : Ev f ρ (.bool b)) : Tv (tBool f) ρ b := fun R z => k _ ⟨b, rfl, z⟩
theorem tv_y : Tv tYs ρ true := fun R z => z
theorem tv_n (k : Tv c ρ b) : Tv (tNot1 c) ρ (!b) := fun R z => k _ z
theorem tv_o (k : Tv c ρ b) (k' : b = false → Tv c' ρ b') : Tv (tOr2 c c') ρ (b || b') := fun R z => k _ (by
  cases b with
  | true => exact z
  | false => exact k' rfl _ (by simpa using z))
theorem tv_a (k : Tv c ρ b) (k' : b = true → Tv c' ρ b') : Tv (tAnd2 c c') ρ (b && b') := fun R z => k _ (by
  cases b with
  | false => exact z
  | true => exact k' rfl _ (by simpa using z))
theorem ev_and (k : Ev f ρ (.bool b)) (k' : b = true → Ev g ρ (.bool b')) : Ev (sAnd2 f g) ρ (.bool (b && b')) := fun R z => k _ ⟨b, rfl, by
  cases b with
  | false => exact z
  | true => exact k' rfl _ (by simpa using z)⟩
theorem ev_or (k : Ev f ρ (.bool b)) (k' : b = false → Ev g ρ (.bool b')) : Ev (sOr2 f g) ρ (.bool (b || b')) := fun R z => k _ ⟨b, rfl, by
  cases b with
  | true => exact z
  | false => exact k' rfl _ (by simpa using z)⟩
theorem ev_not (k : Ev f ρ (.bool b)) : Ev (sNot1 f) ρ (.bool (!b)) := fun R z => k _ ⟨b, rfl, z⟩
theorem ev_ch {g1 g2 : G2} (k : Ev f ρ x) (k' : Ev g ρ y) (q : V2 g1 x y (.bool b)) (k2 : b = true → Ev h ρ z ∧ V2 g2 y z (.bool b')) : Ev (sChain g1 g2 f g h) ρ (.bool (b && b')) :=
  fun R w => k _ (k' _ (q _ ⟨b, rfl, by
    cases b with
    | false => exact w
    | true => exact (k2 rfl).1 _ ((k2 rfl).2 _ (by simpa using w))⟩))
theorem ev_if_ (k : Tv c ρ b) (k1 : b = true → Ev f ρ d) (k2 : b = false → Ev g ρ d) : Ev (sIf c f g) ρ d := fun R z => k _ (by
  cases b with
  | true => exact k1 rfl _ z
  | false => exact k2 rfl _ z)
/-! statements -/
theorem st_if (k : Tv c ρ b) (k1 : b = true → s ρ E) (k2 : b = false → s' ρ E) : fIf c s s' ρ E := k _ (by
  cases b with
  | true => exact k1 rfl
  | false => exact k2 rfl)
theorem st_ret (k : Ev f ρ d) (q : E.rt d ρ) : fRet f ρ E := k _ q
theorem st_set (k : Ev f ρ d) (q : E.nx (ρ.set i (.fz d))) : fSet i f ρ E := k _ q
theorem st_setN (k : Lv n ρ ds) (q : E.nx (ρ.set i (.ow ds))) : fSetN i n ρ E := k _ q
theorem st_app (k : Ev f ρ d) (e : ρ[i]? = some (.ow ds)) (l : ds.length < sizeLine) (q : E.nx (ρ.set i (.ow (ds ++ [d])))) : fApp i f ρ E := ⟨⟨ds, e⟩, k _ ⟨ds, e, l, q⟩⟩
theorem st_frz (e : ρ[i]? = some (.ow ds)) (q : s (ρ.set i (.fz (.list ds))) E) : fFrz i s ρ E := ⟨ds, e, q⟩
theorem st_for {it : NF} {gt : GF} (k : Lv it ρ ds) (q : forW gt s ds ρ E) : fFor it gt s ρ E := k _ q
theorem st_raise {W : WD} {w : Str} {n' : Nat} {okd : List D → Prop} (k : Lv n ρ ds) (l : ds.length = n') (o : okd ds) (q : W w ds ρ) : fRaise W w n' okd n ρ E := k _ ⟨l, o, q⟩
/-- a comprehension: which items, and of each what it gives -/
theorem lv_comp {vs : List Nat} {it : NF} {gt : GF} {tt : TF} (F : D → Option D) (k : Lv it ρ ds) (l : ds.length ≤ sizeLine)
    (q : ∀ d ∈ ds, StepC vs gt tt f (fun d o => o = F d) ρ d) : Lv (nComp vs it gt tt f) ρ (ds.filterMap F) := fun S z => k _ (comp_fn q l z)
theorem lv_map {vs : List Nat} {it : NF} {gt : GF} (F : D → D) (k : Lv it ρ ds) (l : ds.length ≤ sizeLine)
    (q : ∀ d ∈ ds, ∀ A : D → Rho → Prop, (∀ ρ3, backR ρ vs ρ3 = ρ → A (F d) ρ3) → gt d (hideR vs ρ) fun ρ1 => f ρ1 A) : Lv (nComp vs it gt tYs f) ρ (ds.map F) :=
  fun S z => k _ (comp_map (F := F) (fun d hd A B hA hB => q d hd A fun ρ3 e => hA _ rfl ρ3 e) l z)
/-- one name as target -/
theorem lv_map1 {v : Nat} {it : NF} (F : D → D) (k : Lv it ρ ds) (l : ds.length ≤ sizeLine) (hb : ∀ d, (((hideR [v] ρ).set v (.fz d)).set v (resF ρ[v]?)) = ρ)
    (q : ∀ d ∈ ds, Ev f ((hideR [v] ρ).set v (.fz d)) (F d)) : Lv (nComp [v] it (gNm v) tYs f) ρ (ds.map F) :=
  lv_map F k l fun d hd A hA => q d hd _ (hA _ (hb d))
theorem filt_map {α β : Type} (P : α → Bool) (F : α → β) : ∀ l : List α, (l.filter P).map F = l.filterMap fun d => if P d = true then some (F d) else none
  | [] => rfl
  | a :: t => by
    cases h : P a with
    | true => simp [h, filt_map P F t]
    | false => simp [h, filt_map P F t]
theorem lv_comp1 {v : Nat} {it : NF} {tt : TF} (P : D → Bool) (F : D → D) (k : Lv it ρ ds) (l : ds.length ≤ sizeLine) (hb : ∀ d, (((hideR [v] ρ).set v (.fz d)).set v (resF ρ[v]?)) = ρ)
    (p : ∀ d ∈ ds, Tv tt ((hideR [v] ρ).set v (.fz d)) (P d)) (q : ∀ d ∈ ds, P d = true → Ev f ((hideR [v] ρ).set v (.fz d)) (F d)) : Lv (nComp [v] it (gNm v) tt f) ρ ((ds.filter P).map F) := by
  rw [filt_map]
  refine lv_comp _ k l fun d hd A B hA hB => p d hd _ ?_
  cases h : P d with
  | true =>
    rw [if_pos rfl]
    exact q d hd h _ (hA _ (by show some (F d) = if P d = true then some (F d) else none; rw [if_pos h]) _ (hb d))
  | false =>
    rw [if_neg Bool.false_ne_true]
    exact hB (by show none = if P d = true then some (F d) else none; rw [h]; rfl) _ (hb d)
end
/-! operators -/
section
variable {a b : Int} {x y : Str} {ds es : List D} {d e : D}
theorem v_isiI {T : String} {k : Bool} (q : kitB "int" T = some k := by decide +kernel) : V1 (gIsi T) (.int a) (.bool k) := fun R z => ⟨_, k, rfl, q, z⟩
theorem v_isiT {T : String} {k : Bool} (q : kitB "tuple" T = some k := by decide +kernel) : V1 (gIsi T) (.tuple ds) (.bool k) := fun R z => ⟨_, k, rfl, q, z⟩
theorem v_isiL {T : String} {k : Bool} (q : kitB "list" T = some k := by decide +kernel) : V1 (gIsi T) (.list ds) (.bool k) := fun R z => ⟨_, k, rfl, q, z⟩
theorem v_eqI : V2 uEq (.int a) (.int b) (.bool (decide (a = b))) := fun R z => uEq_int.2 z
theorem v_eqS : V2 uEq (.str x) (.str y) (.bool (decide (x = y))) := fun R z => uEq_str.2 z
theorem v_neI : V2 uNe (.int a) (.int b) (.bool (!decide (a = b))) := fun R z => uNe_int.2 z
theorem v_neS : V2 uNe (.str x) (.str y) (.bool (!decide (x = y))) := fun R z => uNe_str.2 z
theorem v_eqD (h1 : SeqAt.shaped d = true) (h2 : SeqAt.shaped e = true) : V2 uEq d e (.bool (PyData.eqv d e)) := fun R z => .inr ⟨h1, h2, z⟩
theorem v_neD (h1 : SeqAt.shaped d = true) (h2 : SeqAt.shaped e = true) : V2 uNe d e (.bool (!PyData.eqv d e)) := fun R z => .inr ⟨h1, h2, z⟩
theorem v_leI : V2 uLe (.int a) (.int b) (.bool (decide (a ≤ b))) := fun R z => uLe_int.2 z
theorem v_ltI : V2 gLt (.int a) (.int b) (.bool (decide (a < b))) := fun R z => gLt_int.2 z
theorem v_gtI : V2 gGt (.int a) (.int b) (.bool (decide (b < a))) := fun R z => gGt_int.2 z
theorem v_geI : V2 gGe (.int a) (.int b) (.bool (decide (b ≤ a))) := fun R z => gGe_int.2 z
theorem v_addI : V2 uAdd (.int a) (.int b) (.int (a + b)) := fun R z => uAdd_int.2 z
theorem v_addS (l : x.length + y.length ≤ sizeLine) : V2 uAdd (.str x) (.str y) (.str (x ++ y)) := fun R z => uAdd_str.2 ⟨l, z⟩
theorem v_subI : V2 TL.gSub (.int a) (.int b) (.int (a - b)) := fun R z => gSub_int.2 z
theorem v_lenL : V1 gLen (.list ds) (.int ds.length) := fun R z => gLen_list.2 z
theorem v_lenT : V1 gLen (.tuple ds) (.int ds.length) := fun R z => gLen_tuple.2 z
theorem v_lenS (l : x.length ≤ sizeLine) : V1 gLen (.str x) (.int x.length) := fun R z => gLen_str.2 ⟨l, z⟩
theorem v_cat (l : ds.length + es.length ≤ sizeLine) : VN2 kCat (.list ds) (.list es) (ds ++ es) := fun R z => kCat_list.2 ⟨l, z⟩
theorem v_ixL (q : atI ds a = some d) : V2 gIx (.list ds) (.int a) d := fun R z => gIx_list.2 ⟨d, q, z⟩
theorem v_ixT (q : atI ds a = some d) : V2 gIx (.tuple ds) (.int a) d := fun R z => gIx_tuple.2 ⟨d, q, z⟩
theorem v_ixS {c : Nat} (l : x.length ≤ sizeLine) (q : atI (tl x) a = some c) : V2 gIx (.str x) (.int a) (.str ⟨#[c]⟩) := fun R z => gIx_str.2 ⟨l, c, q, z⟩
theorem v_neg : V1 gNeg (.int a) (.int (-a)) := fun R z => ⟨a, rfl, z⟩
theorem v_tupL : V1 gTupOf (.list ds) (.tuple ds) := fun R z => ⟨ds, rfl, z⟩
theorem v_listL : VN1 kList (.list ds) ds := fun R z => ⟨ds, rfl, z⟩
theorem v_listT : VN1 kList (.tuple ds) ds := fun R z => ⟨ds, rfl, z⟩
theorem v_isN : V2 gIsN d .none (.bool (isN d)) := fun R z => ⟨rfl, z⟩
theorem v_isB {p q : Bool} : V2 gIsB (.bool p) (.bool q) (.bool (decide (p = q))) := fun R z => ⟨p, q, rfl, rfl, z⟩
theorem v_str (l : a.natAbs.log2 < 1920) : V1 gStrOf (.int a) (.str (toString a)) := fun R z => ⟨a, rfl, l, z⟩
theorem v_intI : V1 gIntOf (.int a) (.int a) := fun R z => .inl ⟨a, rfl, z⟩
theorem v_intB {p : Bool} : V1 gIntOf (.bool p) (.int (if p then 1 else 0)) := fun R z => .inr (.inl ⟨p, rfl, z⟩)
theorem v_intS {n : Int} (q : intText? x = some n) (l : x.length ≤ 640) : V1 gIntOf (.str x) (.int n) := fun R z => .inr (.inr ⟨x, n, rfl, q, l, z⟩)
theorem v_all {bs : List Bool} (q : blsD ds = some bs) : V1 gAll (.list ds) (.bool (bs.all id)) := fun R z => ⟨ds, bs, rfl, q, z⟩
theorem v_any {bs : List Bool} (q : blsD ds = some bs) : V1 gAny (.list ds) (.bool (bs.any id)) := fun R z => ⟨ds, bs, rfl, q, z⟩
theorem v_sum {ns : List Int} (q : intsD ds = some ns) : V1 gSum (.list ds) (.int ns.sum) := fun R z => ⟨ds, ns, rfl, q, z⟩
theorem v_inC {c : Nat} {neg : Bool} : V2 (uIn neg) (.str ⟨#[c]⟩) (.str y) (.bool (if neg then !decide (c ∈ tl y) else decide (c ∈ tl y))) := fun R z => .inl ⟨c, y, rfl, rfl, z⟩
theorem v_join {ys : List Str} (l : (ys.map (·.length)).sum + ys.length * x.length ≤ 16777216) : V2 gJoin (.str x) (.list (ys.map .str)) (.str (Txt.join x ys)) := fun R z => ⟨x, _, ys, rfl, rfl, strsD_map _, l, z⟩
end
theorem log2_small {i : Int} (h : i.natAbs < 1000000) : i.natAbs.log2 < 1920 := by
  by_cases z : i.natAbs = 0
  · rw [z]; decide
  · exact (Nat.log2_lt z).2 (Nat.lt_of_lt_of_le h (by
      have e : (1000000 : Nat) ≤ 2 ^ 1920 := by decide +kernel
      exact e))
end TL
set_option Elab.async false
set_option linter.all false
set_option maxRecDepth 100000
set_option maxHeartbeats 4000000
/-! k54: what each def promises. -/
namespace TL
open PySem PySem.Spec PyProof.Rows L2
/-- groups: a place and the greater places tied to it -/
def GOk (n : Nat) : Nat → List (Nat × List Nat) → Prop
  | _, [] => True
  | low, g :: gs => low ≤ g.1 ∧ g.1 < n ∧ g.2 ≠ [] ∧ (∀ b ∈ g.2, g.1 < b ∧ b < n) ∧ g.2.Pairwise (· < ·) ∧ GOk n (g.1 + 1) gs
def prsN (gs : List (Nat × List Nat)) : List (Nat × Nat) := gs.flatMap fun g => g.2.map fun b => (g.1, b)
def prD (p : Nat × Nat) : D := .tuple [.int p.1, .int p.2]
def webD (n : Nat) (gs : List (Nat × List Nat)) : D := .tuple [.str "web", .int n, .tuple ((prsN gs).map prD)]
def natsD (l : List Nat) : List D := l.map fun a : Nat => .int (a : Int)
def lk (gs : List (Nat × List Nat)) (k : Nat) : List Nat := ((prsN gs).filter fun p => p.1 = k).map (·.2)
/-- the lines of a web -/
def linesG (n : Nat) (gs : List (Nat × List Nat)) : List Str := Txt.join " " ["web", nS n] :: gs.map fun g => Txt.join " " (nS g.1 :: "-" :: g.2.map nS)
def textG (n : Nat) (gs : List (Nat × List Nat)) : Str := Txt.join "\n" (linesG n gs ++ [("" : Str)])
def plc (ws : List Str) (k : Nat) : Nat := ((ws.take k).map fun w => w.length + 1).sum + if k < ws.length then 1 else 0
/-- a line's further words -/
def goM (ws : List Str) (many : Int) : Nat → Nat → List Str → Except Nat (List Nat)
  | _, _, [] => .ok []
  | k, last, w :: r => match numIn w ((last : Int) + 1) (many - 1) with
    | none => .error (plc ws k)
    | some v => match goM ws many (k + 1) v r with
      | .error p => .error p
      | .ok l => .ok (v :: l)
def lineM (ws : List Str) (low many : Int) : Except Nat (Nat × List Nat) :=
  match ws with
  | [] => .error 1
  | w0 :: r => match numIn w0 low (many - 1) with
    | none => .error 1
    | some f => match r with
      | [] => .error (plc ws 1)
      | w1 :: r2 => if w1 = "-" then (match r2 with
          | [] => .error (plc ws 2)
          | _ => match goM ws many 2 f r2 with
            | .error p => .error p
            | .ok l => .ok (f, l)) else .error (plc ws 1)
def goW (many : Int) : Nat → Nat → List (List Str) → Except (Nat × Nat) (List (Nat × List Nat))
  | _, _, [] => .ok []
  | k, low, ws :: r => match lineM ws low many with
    | .error p => .error (k + 1, p)
    | .ok g => match goW many (k + 1) (g.1 + 1) r with
      | .error e => .error e
      | .ok l => .ok (g :: l)
def wordsS (x : Str) : List Str := Txt.split x " "
def rowsM (rows : List (List Str)) : Except (Nat × Nat) (Nat × List (Nat × List Nat)) :=
  match rows with
  | [] => .error (1, 1)
  | r0 :: rest => match r0 with
    | [] => .error (1, 1)
    | w0 :: r => if w0 = "web" then (match r with
        | [] => .error (1, plc r0 1)
        | w1 :: more => match numIn w1 0 24 with
          | none => .error (1, plc r0 1)
          | some n => match more with
            | _ :: _ => .error (1, plc r0 2)
            | [] => match goW n 1 0 rest with
              | .error e => .error e
              | .ok gs => .ok (n, gs)) else .error (1, 1)
def readM (x : Str) : Except (Nat × Nat) (Nat × List (Nat × List Nat)) :=
  let ls := Txt.split x "\n"
  if ls.getLast? = some ("" : Str) then rowsM (ls.dropLast.map wordsS) else .error (ls.length, (ls.getLast?.getD "").length + 1)
def okd_BadText : List D → Prop := fun ds => ∃ i j : Int, ds = [.int i, .int j] ∧ i.natAbs < 1000000 ∧ j.natAbs < 1000000
def big : Nat := 200000
def szW (ws : List Str) : Nat := (ws.map fun w => w.length + 1).sum
def strsT (ws : List Str) : D := .list (ws.map .str)
def p_is_whole : FF := fun ds R => ∃ v lo hi : Int, ds = [.int v, .int lo, .int hi] ∧ R (.bool (decide (lo ≤ v) && decide (v ≤ hi)))
def p_is_web : FF := fun ds R => ∃ n gs, n ≤ 24 ∧ GOk n 0 gs ∧ ds = [webD n gs] ∧ R (.bool true)
def p_near : FF := fun ds R => ∃ n gs, n ≤ 24 ∧ GOk n 0 gs ∧ ds = [webD n gs] ∧ ∀ rows : List (List Nat), rows.length = n → (∀ k row, rows[k]? = some row → row.filter (fun j => decide (k < j)) = lk gs k ∧ row.length ≤ 2000) → R (.list (rows.map fun r => .list (natsD r)))
def p_show_web : FF := fun ds R => ∃ n gs, n ≤ 24 ∧ GOk n 0 gs ∧ ds = [webD n gs] ∧ R (.str (textG n gs))
def p_number_in : FF := fun ds R => ∃ w lo hi, ds = [.str w, .int lo, .int hi] ∧ w.length ≤ big ∧ R (numD w lo hi)
def p_place_of : FF := fun ds R => ∃ ws, ∃ k : Nat, ds = [strsT ws, .int k] ∧ ws ≠ [] ∧ k ≤ big ∧ szW ws ≤ big ∧ R (.int (plc ws k))
def p_lines_of : FX := fun ds R W => ∃ x, ds = [.str x] ∧ x.length ≤ 100000 ∧
  ((Txt.split x "\n").getLast? = some ("" : Str) → R (.list ((Txt.split x "\n").dropLast.map fun l => strsT (wordsS l)))) ∧
  ((Txt.split x "\n").getLast? ≠ some ("" : Str) → W "BadText" [.int (Txt.split x "\n").length, .int (((Txt.split x "\n").getLast?.getD "").length + 1 : Nat)])
def p_read_line : FX := fun ds R W => ∃ (num : Nat) (ws : List Str) (low many : Int), ds = [.int num, strsT ws, .int low, .int many] ∧ ws ≠ [] ∧ num ≤ big ∧ szW ws ≤ big ∧
  match lineM ws low many with | .error p => W "BadText" [.int num, .int p] | .ok g => R (.tuple [.int g.1, .list (natsD g.2)])
def asc (x : Str) : Prop := ∀ c ∈ tl x, c < 128
def p_read_web : FX := fun ds R W => ∃ x, ds = [.str x] ∧ x.length ≤ 100000 ∧ asc x ∧ match readM x with | .error e => W "BadText" [.int e.1, .int e.2] | .ok q => R (webD q.1 q.2)
def p__law_take : FF := phiTake
def p__law_pick : FF := fun ds R => ∃ es : List D, ds = [.list es] ∧ es ≠ [] ∧ es.length < 1000 ∧ ∀ d ∈ es, R d
def p__law_number : FF := p_number_in
def p__law_place : FF := p_place_of
def p__law_line : FF := fun ds R => ∃ (ws : List Str) (low many : Int), ds = [strsT ws, .int low, .int many] ∧ ws ≠ [] ∧ szW ws ≤ big ∧
  match lineM ws low many with | .error p => R (.int p) | .ok g => R (.list ((g.2.map fun b => (g.1, b)).map prD))
def p__law_read : FF := fun ds R => ∃ x, ds = [.str x] ∧ x.length ≤ 100000 ∧ asc x ∧ match readM x with | .error e => R (.tuple [.int e.1, .int e.2]) | .ok q => R (webD q.1 q.2)
def p__law_holds : FF := fun ds R => ∃ x, ds = [.str x] ∧ x.length ≤ 100000 ∧ asc x ∧ R (.bool true)
def p__law_bent : FF := fun ds R => ∃ x, ds = [.str x] ∧ x.length ≤ 20000 ∧ asc x ∧ ∀ y : Str, y.length ≤ 3 * x.length + 40 → asc y → R (.str y)
def su__law_holds : List D → SF := fun ds ρ E => ∃ (i j : Int) (due : D), ds = [.int i, .int j] ∧ ρ[1]? = some (.fz due) ∧ SeqAt.shaped due = true ∧ E.rt (.bool (PyData.eqv (.tuple [.int i, .int j]) due)) ρ
end TL
set_option Elab.async false
set_option linter.all false
set_option maxRecDepth 100000
set_option maxHeartbeats 4000000
namespace TL
open PySem PySem.Spec PyProof.Rows L2
abbrev N_is_whole : List Str := ["value", "low", "high"]
def b_is_whole : SF :=
 (fRet (sAnd2 (s1 (gIsi "int") (sVar 0)) (sAnd2 (sNot1 (s1 (gIsi "bool") (sVar 0))) (sChain uLe uLe (sVar 1) (sVar 0) (sVar 2)))))
abbrev N_is_web : List Str := ["value", "tie", "k"]
def b_is_web : SF :=
 (fSeq (fIf (tOr2 (tNot1 (tBool (s1 (gIsi "tuple") (sVar 0)))) (tOr2 (tBool (s2 uNe (s1 gLen (sVar 0)) (sC (.int 3)))) (tOr2 (tBool (s2 uNe (s2 gIx (sVar 0) (sC (.int 0))) (sC (.str "web")))) (tNot1 (tBool (sCall p_is_whole (aCons (s2 gIx (sVar 0) (sC (.int 1))) (aCons (sC (.int 0)) (aCons (sC (.int 24)) aNil)))))))))
 (fRet (sC (.bool false)))
 fNext)
 (fSeq (fIf (tNot1 (tBool (s1 (gIsi "tuple") (s2 gIx (sVar 0) (sC (.int 2))))))
 (fRet (sC (.bool false)))
 fNext)
 (fSeq (fFor (iSeq (s2 gIx (sVar 0) (sC (.int 2)))) (gNm 1)
 (fSeq (fIf (tOr2 (tNot1 (tBool (s1 (gIsi "tuple") (sVar 1)))) (tOr2 (tBool (s2 uNe (s1 gLen (sVar 1)) (sC (.int 2)))) (tNot1 (tBool (s1 gAll (sN (nComp [2] (iSeq (sVar 1)) (gNm 2) tYs (sCall p_is_whole (aCons (sVar 2) (aCons (sC (.int 0)) (aCons (s2 gSub (s2 gIx (sVar 0) (sC (.int 1))) (sC (.int 1))) aNil)))))))))))
 (fRet (sC (.bool false)))
 fNext)
 (fIf (tBool (s2 gGe (s2 gIx (sVar 1) (sC (.int 0))) (s2 gIx (sVar 1) (sC (.int 1)))))
 (fRet (sC (.bool false)))
 fNext)))
 (fRet (s2 uEq (sN (n1 kList (s2 gIx (sVar 0) (sC (.int 2))))) (sN (n1 kSortSet (s2 gIx (sVar 0) (sC (.int 2))))))))))
abbrev N_near : List Str := ["web", "found", "a", "b", "k", "row"]
def b_near : SF :=
 (fSeq (fSetK 1 (kN2 (nComp2 [4] (iRngA (aCons (s2 gIx (sVar 0) (sC (.int 1))) aNil)) (gNm 4) (nLst aNil))))
 (fSeq (fFor (iSeq (s2 gIx (sVar 0) (sC (.int 2)))) (gTp 2 (gsCons (gNm 2) (gsCons (gNm 3) gsNil)))
 (fSeq (fApp2 1 (sVar 2) (sVar 3))
 (fApp2 1 (sVar 3) (sVar 2))))
 (fFrz2 1 (fRet (sN (nComp [5] (iSeq (sVar 1)) (gNm 5) tYs (sN (n1 kSorted (sVar 5)))))))))
abbrev N_show_web : List Str := ["web", "lines", "rows", "k", "some", "j", "line"]
def b_show_web : SF :=
 (fSeq (fParK 1 2 (kN (nLst (aCons (s2 uAdd (sC (.str "web ")) (s1 gStrOf (s2 gIx (sVar 0) (sC (.int 1))))) aNil))) (kE (sCall p_near (aCons (sVar 0) aNil))))
 (fSeq (fFor (iRngA (aCons (s2 gIx (sVar 0) (sC (.int 1))) aNil)) (gNm 3)
 (fSeq (fSet 4 (sN (nComp [5] (iSeq (s2 gIx (sVar 2) (sVar 3))) (gNm 5) (tBool (s2 gGt (sVar 5) (sVar 3))) (sVar 5))))
 (fIf (tBool (s2 uNe (sVar 4) (sN (nLst aNil))))
 (fApp 1 (sM1 gJoin (sC (.str " ")) (rOf (sN (n2 kCat (sN (nLst (aCons (s1 gStrOf (sVar 3)) (aCons (sC (.str "-")) aNil)))) (sN (nComp [5] (iSeq (sVar 4)) (gNm 5) tYs (s1 gStrOf (sVar 5)))))))))
 fNext)))
 (fRet (sM1 gJoin (sC (.str "")) (rOf (sN (nComp [6] (iSeqR (rOwn 1)) (gNm 6) tYs (s2 uAdd (sVar 6) (sC (.str "\n"))))))))))
abbrev N_number_in : List Str := ["word", "low", "high", "sign"]
def b_number_in : SF :=
 (fSeq (fIf (tOr2 (tNot1 (tBool (sChain uLe uLe (sC (.int 1)) (s1 gLen (sVar 0)) (sC (.int 3))))) (tNot1 (tBool (s1 gAll (sN (nComp [3] (iTxt (sVar 0)) (gNm 3) tYs (s2 (uIn false) (sVar 3) (sC (.str "0123456789")))))))))
 (fRet (sC .none))
 fNext)
 (fSeq (fIf (tOr2 (tAnd2 (tBool (s2 uEq (s2 gIx (sVar 0) (sC (.int 0))) (sC (.str "0")))) (tBool (s2 uNe (sVar 0) (sC (.str "0"))))) (tNot1 (tBool (sChain uLe uLe (sVar 1) (s1 gIntOf (sVar 0)) (sVar 2)))))
 (fRet (sC .none))
 fNext)
 (fRet (s1 gIntOf (sVar 0)))))
abbrev N_place_of : List Str := ["words", "k"]
def b_place_of : SF :=
 (fRet (s2 uAdd (s2 uAdd (s1 gLen (sM1 gJoin (sC (.str " ")) (rOf (sN (nSlL (sVar 0) oNo (oIs (sVar 1))))))) (sC (.int 1))) (s1 gIntOf (sChain gLt gLt (sC (.int 0)) (sVar 1) (s1 gLen (sVar 0))))))
abbrev N_lines_of : List Str := ["text", "lines", "line"]
def b_lines_of (W : WD) : SF :=
 (fSeq (fSet 1 (sN (nSplit (sVar 0) (sC (.str "\n")))))
 (fSeq (fIf (tBool (s2 uNe (s2 gIx (sVar 1) (s1 gNeg (sC (.int 1)))) (sC (.str ""))))
 (fRaise W "BadText" 2 okd_BadText (aCons (s1 gLen (sVar 1)) (aCons (s2 uAdd (s1 gLen (s2 gIx (sVar 1) (s1 gNeg (sC (.int 1))))) (sC (.int 1))) aNil)))
 fNext)
 (fRet (sN (nComp [2] (iSeq (sN (nSlL (sVar 1) oNo (oIs (s1 gNeg (sC (.int 1))))))) (gNm 2) tYs (sN (nSplit (sVar 2) (sC (.str " ")))))))))
abbrev N_read_line : List Str := ["number", "words", "low", "many", "first", "found", "last", "k", "one"]
def b_read_line (W : WD) : SF :=
 (fSeq (fSet 4 (sCall p_number_in (aCons (s2 gIx (sVar 1) (sC (.int 0))) (aCons (sVar 2) (aCons (s2 gSub (sVar 3) (sC (.int 1))) aNil)))))
 (fSeq (fIf (tBool (s2 gIsN (sVar 4) (sC .none)))
 (fRaise W "BadText" 2 okd_BadText (aCons (sVar 0) (aCons (sC (.int 1)) aNil)))
 fNext)
 (fSeq (fIf (tOr2 (tBool (s2 gLt (s1 gLen (sVar 1)) (sC (.int 2)))) (tBool (s2 uNe (s2 gIx (sVar 1) (sC (.int 1))) (sC (.str "-")))))
 (fRaise W "BadText" 2 okd_BadText (aCons (sVar 0) (aCons (sCall p_place_of (aCons (sVar 1) (aCons (sC (.int 1)) aNil))) aNil)))
 fNext)
 (fSeq (fParK 5 6 (kN (nLst aNil)) (kE (sVar 4)))
 (fSeq (fFor (iRngB (aCons (sC (.int 2)) (aCons (sL lMax (aCons (sC (.int 3)) (aCons (s1 gLen (sVar 1)) aNil))) aNil))) (gNm 7)
 (fSeq (fSet 8 (sIf (tBool (s2 gLt (sVar 7) (s1 gLen (sVar 1)))) (sCall p_number_in (aCons (s2 gIx (sVar 1) (sVar 7)) (aCons (s2 uAdd (sVar 6) (sC (.int 1))) (aCons (s2 gSub (sVar 3) (sC (.int 1))) aNil)))) (sC .none)))
 (fSeq (fIf (tBool (s2 gIsN (sVar 8) (sC .none)))
 (fRaise W "BadText" 2 okd_BadText (aCons (sVar 0) (aCons (sCall p_place_of (aCons (sVar 1) (aCons (sVar 7) aNil))) aNil)))
 fNext)
 (fSeq (fApp 5 (sVar 8))
 (fSet 6 (sVar 8))))))
 (fFrz 5 (fRet (sTup (aCons (sVar 4) (aCons (sVar 5) aNil))))))))))
abbrev N_read_web : List Str := ["text", "lines", "many", "pairs", "low", "k", "first", "some", "one"]
def b_read_web (W : WD) : SF :=
 (fSeq (fSet 1 (sCallX W p_lines_of (aCons (sVar 0) aNil)))
 (fSeq (fIf (tOr2 (tBool (s2 uEq (sVar 1) (sN (nLst aNil)))) (tBool (s2 uNe (s2 gIx (s2 gIx (sVar 1) (sC (.int 0))) (sC (.int 0))) (sC (.str "web")))))
 (fRaise W "BadText" 2 okd_BadText (aCons (sC (.int 1)) (aCons (sC (.int 1)) aNil)))
 fNext)
 (fSeq (fSet 2 (sIf (tBool (s2 gGt (s1 gLen (s2 gIx (sVar 1) (sC (.int 0)))) (sC (.int 1)))) (sCall p_number_in (aCons (s2 gIx (s2 gIx (sVar 1) (sC (.int 0))) (sC (.int 1))) (aCons (sC (.int 0)) (aCons (sC (.int 24)) aNil)))) (sC .none)))
 (fSeq (fIf (tOr2 (tBool (s2 gIsN (sVar 2) (sC .none))) (tBool (s2 gGt (s1 gLen (s2 gIx (sVar 1) (sC (.int 0)))) (sC (.int 2)))))
 (fRaise W "BadText" 2 okd_BadText (aCons (sC (.int 1)) (aCons (sCall p_place_of (aCons (s2 gIx (sVar 1) (sC (.int 0))) (aCons (sIf (tBool (s2 gIsN (sVar 2) (sC .none))) (sC (.int 1)) (sC (.int 2))) aNil))) aNil)))
 fNext)
 (fSeq (fParK 3 4 (kN (nLst aNil)) (kE (sC (.int 0))))
 (fSeq (fFor (iRngB (aCons (sC (.int 1)) (aCons (s1 gLen (sVar 1)) aNil))) (gNm 5)
 (fSeq (fAsg (sCallX W p_read_line (aCons (s2 uAdd (sVar 5) (sC (.int 1))) (aCons (s2 gIx (sVar 1) (sVar 5)) (aCons (sVar 4) (aCons (sVar 2) aNil))))) (gTp 2 (gsCons (gNm 6) (gsCons (gNm 7) gsNil))))
 (fSeq (fExt 3 (sN (nComp [8] (iSeq (sVar 7)) (gNm 8) tYs (sTup (aCons (sVar 6) (aCons (sVar 8) aNil))))))
 (fSet 4 (s2 uAdd (sVar 6) (sC (.int 1)))))))
 (fRet (sTup (aCons (sC (.str "web")) (aCons (sVar 2) (aCons (s1r gTupOf (rOwn 3)) aNil)))))))))))
abbrev N__law_state : List Str := ["script", "numbers_left", "cell"]
abbrev N__law_take : List Str := ["state", "most", "numbers_left", "at", "cell", "stirred"]
abbrev N__law_pick : List Str := ["state", "row"]
def b__law_pick : SF :=
 (fRet (s2 gIx (sVar 1) (sCallS 0 p__law_take (aCons (s1 gLen (sVar 1)) aNil))))
abbrev N__law_number : List Str := ["word", "low", "high", "sign"]
def b__law_number : SF :=
 (fSeq (fIf (tOr2 (tBool (s2 uEq (sVar 0) (sC (.str "")))) (tOr2 (tBool (s2 gGt (s1 gLen (sVar 0)) (sC (.int 3)))) (tOr2 (tBool (s2 gGt (s1 gLen (sN (nComp [3] (iTxt (sVar 0)) (gNm 3) (tBool (s2 (uIn true) (sVar 3) (sC (.str "0123456789")))) (sVar 3)))) (sC (.int 0)))) (tOr2 (tBool (s2 uNe (s1 gStrOf (s1 gIntOf (sVar 0))) (sVar 0))) (tNot1 (tBool (sChain uLe uLe (sVar 1) (s1 gIntOf (sVar 0)) (sVar 2))))))))
 (fRet (sC .none))
 fNext)
 (fRet (s1 gIntOf (sVar 0))))
abbrev N__law_place : List Str := ["words", "k", "word"]
def b__law_place : SF :=
 (fSeq (fIf (tBool (s2 gGe (sVar 1) (s1 gLen (sVar 0))))
 (fRet (s2 uAdd (s1 gLen (sM1 gJoin (sC (.str " ")) (rOf (sVar 0)))) (sC (.int 1))))
 fNext)
 (fRet (s2 uAdd (s1 gSum (sN (nComp [2] (iSeq (sN (nSlL (sVar 0) oNo (oIs (sVar 1))))) (gNm 2) tYs (s2 uAdd (s1 gLen (sVar 2)) (sC (.int 1)))))) (sC (.int 1)))))
abbrev N__law_line : List Str := ["words", "low", "many", "first", "last", "found", "k", "one"]
def b__law_line : SF :=
 (fSeq (fSet 3 (sCall p__law_number (aCons (s2 gIx (sVar 0) (sC (.int 0))) (aCons (sVar 1) (aCons (s2 gSub (sVar 2) (sC (.int 1))) aNil)))))
 (fSeq (fIf (tBool (s2 gIsN (sVar 3) (sC .none)))
 (fRet (sC (.int 1)))
 fNext)
 (fSeq (fIf (tOr2 (tBool (s2 gLt (s1 gLen (sVar 0)) (sC (.int 2)))) (tOr2 (tBool (s2 uNe (s2 gIx (sVar 0) (sC (.int 1))) (sC (.str "-")))) (tBool (s2 uEq (s1 gLen (sVar 0)) (sC (.int 2))))))
 (fRet (sCall p__law_place (aCons (sVar 0) (aCons (sIf (tOr2 (tBool (s2 gLt (s1 gLen (sVar 0)) (sC (.int 2)))) (tBool (s2 uNe (s2 gIx (sVar 0) (sC (.int 1))) (sC (.str "-"))))) (sC (.int 1)) (sC (.int 2))) aNil))))
 fNext)
 (fSeq (fParK 4 5 (kE (sVar 3)) (kN (nLst aNil)))
 (fSeq (fFor (iRngB (aCons (sC (.int 2)) (aCons (s1 gLen (sVar 0)) aNil))) (gNm 6)
 (fSeq (fSet 7 (sCall p__law_number (aCons (s2 gIx (sVar 0) (sVar 6)) (aCons (s2 uAdd (sVar 4) (sC (.int 1))) (aCons (s2 gSub (sVar 2) (sC (.int 1))) aNil)))))
 (fSeq (fIf (tBool (s2 gIsN (sVar 7) (sC .none)))
 (fRet (sCall p__law_place (aCons (sVar 0) (aCons (sVar 6) aNil))))
 fNext)
 (fSeq (fApp 5 (sTup (aCons (sVar 3) (aCons (sVar 7) aNil))))
 (fSet 4 (sVar 7))))))
 (fFrz 5 (fRet (sVar 5))))))))
abbrev N__law_read : List Str := ["text", "lines", "rows", "many", "pairs", "low", "k", "told", "line"]
def b__law_read : SF :=
 (fSeq (fSet 1 (sN (nSplit (sVar 0) (sC (.str "\n")))))
 (fSeq (fIf (tBool (s2 uNe (s2 gIx (sVar 1) (s1 gNeg (sC (.int 1)))) (sC (.str ""))))
 (fRet (sTup (aCons (s1 gLen (sVar 1)) (aCons (s2 uAdd (s1 gLen (s2 gIx (sVar 1) (s1 gNeg (sC (.int 1))))) (sC (.int 1))) aNil))))
 fNext)
 (fSeq (fSet 2 (sN (nComp [8] (iSeq (sN (nSlL (sVar 1) oNo (oIs (s1 gNeg (sC (.int 1))))))) (gNm 8) tYs (sN (nSplit (sVar 8) (sC (.str " ")))))))
 (fSeq (fIf (tOr2 (tBool (s2 uEq (sVar 2) (sN (nLst aNil)))) (tBool (s2 uNe (s2 gIx (s2 gIx (sVar 2) (sC (.int 0))) (sC (.int 0))) (sC (.str "web")))))
 (fRet (sTup (aCons (sC (.int 1)) (aCons (sC (.int 1)) aNil))))
 fNext)
 (fSeq (fSet 3 (sIf (tBool (s2 gGt (s1 gLen (s2 gIx (sVar 2) (sC (.int 0)))) (sC (.int 1)))) (sCall p__law_number (aCons (s2 gIx (s2 gIx (sVar 2) (sC (.int 0))) (sC (.int 1))) (aCons (sC (.int 0)) (aCons (sC (.int 24)) aNil)))) (sC .none)))
 (fSeq (fIf (tOr2 (tBool (s2 gIsN (sVar 3) (sC .none))) (tBool (s2 gGt (s1 gLen (s2 gIx (sVar 2) (sC (.int 0)))) (sC (.int 2)))))
 (fRet (sTup (aCons (sC (.int 1)) (aCons (sCall p__law_place (aCons (s2 gIx (sVar 2) (sC (.int 0))) (aCons (sIf (tBool (s2 gIsN (sVar 3) (sC .none))) (sC (.int 1)) (sC (.int 2))) aNil))) aNil))))
 fNext)
 (fSeq (fParK 4 5 (kE (sN (nLst aNil))) (kE (sC (.int 0))))
 (fSeq (fFor (iRngB (aCons (sC (.int 1)) (aCons (s1 gLen (sVar 2)) aNil))) (gNm 6)
 (fSeq (fSet 7 (sCall p__law_line (aCons (s2 gIx (sVar 2) (sVar 6)) (aCons (sVar 5) (aCons (sVar 3) aNil)))))
 (fSeq (fIf (tBool (s1 (gIsi "int") (sVar 7)))
 (fRet (sTup (aCons (s2 uAdd (sVar 6) (sC (.int 1))) (aCons (sVar 7) aNil))))
 fNext)
 (fParK 4 5 (kE (sN (n2 kCat (sVar 4) (sVar 7)))) (kE (s2 uAdd (s2 gIx (s2 gIx (sVar 7) (sC (.int 0))) (sC (.int 0))) (sC (.int 1))))))))
 (fRet (sTup (aCons (sC (.str "web")) (aCons (sVar 3) (aCons (s1 gTupOf (sVar 4)) aNil)))))))))))))
abbrev N__law_holds : List Str := ["text", "due", "told", "error"]
def b__law_holds : SF :=
 (fSeq (fSet 1 (sCall p__law_read (aCons (sVar 0) aNil)))
 (fTry "BadText" 3 (fun W => (fSeq (fSet 2 (sCallX W p_read_web (aCons (sVar 0) aNil)))
 (fRet (sAnd2 (s1 (gIsi "tuple") (sVar 2)) (sAnd2 (s2 uEq (sVar 2) (sVar 1)) (sAnd2 (s2 gIsB (sCall p_is_web (aCons (sVar 2) aNil)) (sC (.bool true))) (s2 uEq (sCall p_show_web (aCons (sVar 2) aNil)) (sVar 0)))))))) su__law_holds))
abbrev N__law_bent : List Str := ["state", "text", "odd", "lines", "k", "way", "words", "w", "told"]
def b__law_bent : SF :=
 (fSeq (fSet 2 (sN (nLst (aCons (sC (.str "0")) (aCons (sC (.str "1")) (aCons (sC (.str "7")) (aCons (sC (.str "23")) (aCons (sC (.str "24")) (aCons (sC (.str "00")) (aCons (sC (.str "-")) (aCons (sC (.str "web")) (aCons (sC (.str "")) (aCons (sC (.str "x")) (aCons (sC (.str "\n")) (aCons (sC (.str "100")) (aCons (sC (.str "-1")) (aCons (sC (.str "2")) aNil)))))))))))))))))
 (fSeq (fSetK 3 (kN (nSplit (sVar 1) (sC (.str "\n")))))
 (fSeq (fParK 4 5 (kE (sCallS 0 p__law_take (aCons (s1r gLen (rOwn 3)) aNil))) (kE (sCallS 0 p__law_take (aCons (sC (.int 8)) aNil))))
 (fSeq (fSetK 6 (kN (nSplit (s2r gIx (rOwn 3) (rOf (sVar 4))) (sC (.str " ")))))
 (fSeq (fSet 7 (sCallS 0 p__law_take (aCons (s1r gLen (rOwn 6)) aNil)))
 (fSeq (fIf (tBool (s2 gLt (sVar 5) (sC (.int 3))))
 (fSetIx 6 (sCallS 0 p__law_pick (aCons (sVar 2) aNil)) (sVar 7))
 fNext)
 (fSeq (fIf (tBool (s2 uEq (sVar 5) (sC (.int 3))))
 (fIns 6 (aCons (sVar 7) (aCons (sCallS 0 p__law_pick (aCons (sVar 2) aNil)) aNil)))
 fNext)
 (fSeq (fIf (tBool (s2 uEq (sVar 5) (sC (.int 4))))
 (fExpr (sPopAt 6 (sVar 7)))
 fNext)
 (fSeq (fSetIx 3 (sM1 gJoin (sC (.str " ")) (rOwn 6)) (sVar 4))
 (fSeq (fIf (tBool (s2 uEq (sVar 5) (sC (.int 5))))
 (fIns 3 (aCons (sCallS 0 p__law_take (aCons (s1r gLen (rOwn 3)) aNil)) (aCons (s2r gIx (rOwn 3) (rOf (sVar 4))) aNil)))
 fNext)
 (fSeq (fIf (tBool (s2 uEq (sVar 5) (sC (.int 6))))
 (fExpr (sPopAt 3 (sVar 4)))
 fNext)
 (fSeq (fSet 8 (sM1 gJoin (sC (.str "\n")) (rOwn 3)))
 (fRet (sIf (tBool (s2 uEq (sVar 5) (sC (.int 7)))) (sSl (sVar 8) oNo (oIs (s1 gNeg (sC (.int 1))))) (sVar 8)))))))))))))))
abbrev N_law : List Str := ["script", "state", "turn", "many", "dense", "text", "pairs", "a", "row", "web", "more", "bent", "edges", "b", "one"]
def b_law (W : WD) : SF :=
 (fSeq (fStart 1 0)
 (fSeq (fFor (iRngA (aCons (sC (.int 5)) aNil)) (gNm 2)
 (fSeq (fParK 3 4 (kE (sCallS 1 p__law_take (aCons (sCallS 1 p__law_pick (aCons (sN (nLst (aCons (sC (.int 5)) (aCons (sC (.int 9)) (aCons (sC (.int 25)) aNil))))) aNil)) aNil))) (kE (sCallS 1 p__law_pick (aCons (sN (nLst (aCons (sC (.int 2)) (aCons (sC (.int 3)) (aCons (sC (.int 6)) aNil))))) aNil))))
 (fSeq (fParK 5 6 (kE (s2 uAdd (s2 uAdd (sC (.str "web ")) (s1 gStrOf (sVar 3))) (sC (.str "\n")))) (kE (sN (nLst aNil))))
 (fSeq (fFor (iRngA (aCons (sVar 3) aNil)) (gNm 7)
 (fSeq (fSet 8 (sN (nComp [13] (iRngB (aCons (s2 uAdd (sVar 7) (sC (.int 1))) (aCons (sVar 3) aNil))) (gNm 13) (tBool (s2 uEq (sCallS 1 p__law_take (aCons (sVar 4) aNil)) (sC (.int 0)))) (sVar 13))))
 (fSeq (fSet 6 (sN (n2 kCat (sVar 6) (sN (nComp [13] (iSeq (sVar 8)) (gNm 13) tYs (sTup (aCons (sVar 7) (aCons (sVar 13) aNil))))))))
 (fIf (tBool (s2 uNe (sVar 8) (sN (nLst aNil))))
 (fSet 5 (s2 uAdd (s2 uAdd (sVar 5) (sM1 gJoin (sC (.str " ")) (rOf (sN (n2 kCat (sN (nLst (aCons (s1 gStrOf (sVar 7)) (aCons (sC (.str "-")) aNil)))) (sN (nComp [13] (iSeq (sVar 8)) (gNm 13) tYs (s1 gStrOf (sVar 13))))))))) (sC (.str "\n"))))
 fNext))))
 (fSeq (fSet 9 (sTup (aCons (sC (.str "web")) (aCons (sVar 3) (aCons (s1 gTupOf (sVar 6)) aNil)))))
 (fSeq (fIf (tOr2 (tBool (s2 uNe (sCall p_show_web (aCons (sVar 9) aNil)) (sVar 5))) (tBool (s2 uNe (sCallX W p_read_web (aCons (sVar 5) aNil)) (sVar 9))))
 (fRet (sC (.bool false)))
 fNext)
 (fFor (iRngA (aCons (sC (.int 7)) aNil)) (gNm 10)
 (fSeq (fSet 11 (sCallS 1 p__law_bent (aCons (sVar 5) aNil)))
 (fIf (tOr2 (tNot1 (tBool (sCall p__law_holds (aCons (sVar 11) aNil)))) (tNot1 (tBool (sCall p__law_holds (aCons (sCallS 1 p__law_bent (aCons (sVar 11) aNil)) aNil)))))
 (fRet (sC (.bool false)))
 fNext)))))))))
 (fSeq (fSet 12 (sN (nLst (aCons (sC (.str "")) (aCons (sC (.str "\n")) (aCons (sC (.str "web")) (aCons (sC (.str "web\n")) (aCons (sC (.str "web 3\n")) (aCons (sC (.str "web 25\n")) (aCons (sC (.str "web 3 4\n")) (aCons (sC (.str "web 03\n")) (aCons (sC (.str "web 3\n0 -\n")) (aCons (sC (.str "web 3\n0 - 1 1\n")) (aCons (sC (.str "web 3\n1 - 2\n0 - 1\n")) aNil))))))))))))))
 (fRet (s1 gAll (sN (nComp [14] (iSeq (sN (n2 kCat (sVar 12) (sN (nLst (aCons (sC (.str "web 3\n0\n")) (aCons (sC (.str "web 3\n0 - 0\n")) (aCons (sC (.str "web 3\n0 - 3\n")) (aCons (sC (.str "web 3\n0 -  1\n")) (aCons (sC (.str "web  3\n")) (aCons (sC (.str "web 3\n\n")) (aCons (sC (.str "web 0\n")) aNil)))))))))))) (gNm 14) tYs (sCall p__law_holds (aCons (sVar 14) aNil)))))))))
end TL
set_option Elab.async false
set_option linter.all false
set_option maxRecDepth 100000
set_option maxHeartbeats 4000000
namespace TL
open PySem PySem.Spec PyProof.Rows L2
def topS (i : Nat) : Stmt := PySem.Challenge.pw_countedwebs_k54_webs_as_text.main.body.getD i (.Pass ⟨0, 0, 0, 0⟩)
section
variable {P : Program} {w : World} {K : PySem.W.Frag} {mg : Str → Option Value} {base : Heap} {xc : Str → Option (Addr × List Str)}
def initOf : Stmt → Stmt
  | .ClassDef _ _ _ (i :: _) _ _ _ _ _ _ _ => i
  | s => s
abbrev sI_BadText : Stmt := initOf (topS 2)
abbrev NI_BadText : List Str := ["self", "line", "place", "__class__"]
abbrev PI_BadText : List Str := ["self", "line", "place"]
theorem scI_BadText : NdefX.NScope NI_BadText PI_BadText ["__class__"] (defScope sI_BadText) := NdefX.nscope_by (by decide +kernel)
def nfI_BadText (cc c : Addr) : NdefX.NF := ⟨"__init__", "BadText.__init__", defArgs sI_BadText, defBody sI_BadText, defScope sI_BadText, [("__class__", cc)], c⟩
theorem init_BadText {f cc C c : Addr} {fd : FuncData} (bl : Bl mg) (U : SupFn P K mg NI_BadText PI_BadText (nfI_BadText cc c) f cc C fd)
    (h1 : PySem.W.findIn K (.ref C) "line" = some none) (h2 : PySem.W.findIn K (.ref C) "place" = some none) : FnOk P w K mg base (L2.CX P w) 1 f fd PI_BadText (spInit K C ["line", "place"] okd_BadText) := by
  refine init2 (pl := fun env => do return (← importBound (.Call (.Name "super" ⟨7, 8, 7, 13⟩) [] [] ⟨7, 8, 7, 15⟩) env).getD true) (k := 0) (f1 := s2 uAdd (s2 uAdd (s2 uAdd (s2 uAdd (sC (.str "the line ")) (s1 gStrOf (sVar 1))) (sC (.str " does not read from the word "))) (s1 gStrOf (sVar 2))) (sC (.str " on"))) U rfl rfl rfl (fun L => rfl) (fun L => rfl) (fun L => rfl) (fun L => rfl) (fun L => rfl) (fun L => rfl) (fun X q e1 e2 => ?_) (fun X e1 e2 => ?_) (fun X e1 e2 => ?_) h1 h2 (fun A outer s H E hr => ?_) (fun d d' h => ?_)
  · exact pe_var (by rw [e1]; rfl) (by rw [e2]; exact .inl rfl)
  · exact pe_var (by rw [e1]; rfl) (by rw [e2]; exact .inl rfl)
  · exact pe_var (by rw [e1]; rfl) (by rw [e2]; exact .inl rfl)
  · exact he_two (p := true) (q := true) (fun a b => pe_op op_addU a b) o_addU (he_two (p := true) (q := true) (fun a b => pe_op op_addU a b) o_addU (he_two (p := true) (q := true) (fun a b => pe_op op_addU a b) o_addU (he_two (p := true) (q := true) (fun a b => pe_op op_addU a b) o_addU he_str (he_callT call_str_int boot_str o_str (by rfl) bl.str (hx_var (pv 1)))) he_str) (he_callT call_str_int boot_str o_str (by rfl) bl.str (hx_var (pv 2)))) he_str
  · obtain ⟨i, j, e, hi, hj⟩ := h
    cases e
    have l1 := int_text_len_1921 (log2_small hi)
    have l2 := int_text_len_1921 (log2_small hj)
    have al : ∀ x y : Str, (x ++ y).length = x.length + y.length := fun x y => Str.length_append x y
    have a1 : (Str.ofString "the line ").length = 9 := rfl
    have a2 : (Str.ofString " does not read from the word ").length = 29 := by decide +kernel
    have a3 : (Str.ofString " on").length = 3 := rfl
    refine ⟨_, rfl, i, rfl, log2_small hi, uAdd_str.2 ⟨?_, uAdd_str.2 ⟨?_, ?_⟩⟩⟩
    · rw [sizeLine_eq]; omega
    · rw [sizeLine_eq, al]; omega
    refine ⟨_, rfl, j, rfl, log2_small hj, uAdd_str.2 ⟨?_, uAdd_str.2 ⟨?_, trivial⟩⟩⟩
    · rw [sizeLine_eq, al, al]; omega
    · rw [sizeLine_eq, al, al, al]; omega
-- is_whole
abbrev s_is_whole : Stmt := topS 5
abbrev P_is_whole : List Str := ["value", "low", "high"]
theorem sc_is_whole : FnScope N_is_whole P_is_whole (defScope s_is_whole) := ⟨rfl, rfl, rfl, by decide +kernel, rfl, by decide +kernel, by decide +kernel⟩
theorem h_is_whole {f : Addr} {cdv : Value} {A : Around} {outer : List PySem.Env} {s : Shared} {H : Hp} {E : XK} (bl : Bl mg)
  
  (hr : Room 0 (A.deeper (envOfC "is_whole" (defScope s_is_whole) s.heap.objs.size f cdv))) :
  HSs (ctOf P w K mg base xc N_is_whole P_is_whole "is_whole" s_is_whole f cdv A outer s H E 0 sc_is_whole hr) (defBody s_is_whole) b_is_whole :=
 (hss_one (hs_ret (he_and (p := true) (q := true) (he_isi boot_int (by rfl) bl.isinstance (by rfl) bl.int (hx_var (pv 0))) (he_and (p := true) (q := true) (he_not (he_isi boot_bool (by rfl) bl.isinstance (by rfl) bl.bool (hx_var (pv 0)))) (he_b1 (he_chain (p1 := true) (p2 := true) (p3 := true) op_leU op_leU o_leU o_leU (hx_var (pv 1)) (hx_var (pv 0)) (hx_var (pv 2))))))))
-- is_web
abbrev s_is_web : Stmt := topS 6
abbrev P_is_web : List Str := ["value"]
theorem sc_is_web : FnScope N_is_web P_is_web (defScope s_is_web) := ⟨rfl, rfl, rfl, by decide +kernel, rfl, by decide +kernel, by decide +kernel⟩
theorem h_is_web {f : Addr} {cdv : Value} {A : Around} {outer : List PySem.Env} {s : Shared} {H : Hp} {E : XK} (bl : Bl mg)
  (d_is_whole : Dn P w K mg base "is_whole" 1 P_is_whole (spF K p_is_whole))
  (mg_MOST_PLACES : MgInt mg "MOST_PLACES" 24)
  (hr : Room 1 (A.deeper (envOfC "is_web" (defScope s_is_web) s.heap.objs.size f cdv))) :
  HSs (ctOf P w K mg base xc N_is_web P_is_web "is_web" s_is_web f cdv A outer s H E 1 sc_is_web hr) (defBody s_is_web) b_is_web :=
 (hss_cons (hs_if (HW.ht (hw_or (p := true) (q := true) (ht_not (ht_val (he_isi boot_tuple (by rfl) bl.isinstance (by rfl) bl.tuple (hx_var (pv 0))))) (hw_or (p := true) (q := true) (ht_two (p := true) (q := true) (fun a b => pt_cmpR op_neU a b (nomark _)) o_neU (he_callB c_len boot_len o_len (by rfl) bl.len (hx_var (pv 0))) he_int) (hw_or (p := true) (q := true) (ht_two (p := true) (q := true) (fun a b => pt_cmpR op_neU a b (nomark _)) o_neU (he_two (p := true) (q := true) (fun a b => pe_ix ix_seq a b (fun _ _ => rfl)) o_ix (hx_var (pv 0)) he_int) he_str) (hw_or1 (ht_not (ht_val (he_callD d_is_whole (Nat.le_of_ble_eq_true rfl) (by rfl) (ha_cons (p := true) (q := true) (he_two (p := true) (q := true) (fun a b => pe_ix ix_seq a b (fun _ _ => rfl)) o_ix (hx_var (pv 0)) he_int) (ha_cons (p := true) (q := true) he_int (ha_cons (p := true) (q := true) (he_c (pe_globI (by rfl) mg_MOST_PLACES) (fun _ => .int _)) ha_nil)))))))))))
 (hss_one (hs_ret he_bool))
 hss_nil)
 (hss_cons (hs_if (ht_not (ht_val (he_isi boot_tuple (by rfl) bl.isinstance (by rfl) bl.tuple (he_two (p := true) (q := true) (fun a b => pe_ix ix_seq a b (fun _ _ => rfl)) o_ix (hx_var (pv 0)) he_int))))
 (hss_one (hs_ret he_bool))
 hss_nil)
 (hss_cons (hs_for (vs := [1]) (hi_seq (he_two (p := true) (q := true) (fun a b => pe_ix ix_seq a b (fun _ _ => rfl)) o_ix (hx_var (pv 0)) he_int)) (hg_name (pg_name (i := 1) sc_is_web.nd rfl (.inl rfl)) (by decide))
 (hss_cons (hs_if (HW.ht (hw_or (p := true) (q := true) (ht_not (ht_val (he_isi boot_tuple (by rfl) bl.isinstance (by rfl) bl.tuple (hx_var (pv 1))))) (hw_or (p := true) (q := true) (ht_two (p := true) (q := true) (fun a b => pt_cmpR op_neU a b (nomark _)) o_neU (he_callB c_len boot_len o_len (by rfl) bl.len (hx_var (pv 1))) he_int) (hw_or1 (ht_not (ht_val (he_callB (cr_all rfl) boot_all o_all (by rfl) bl.all (hx_new (by exact hn_comp (p := true) (q := true) (p2 := true) (p3 := true) (hi_seq (hx_var (pv 1))) (blkOk_by (own := [("k", 2)]) (N := N_is_web) (sc := defScope s_is_web) (by decide +kernel)) rfl (fun _ _ _ _ _ => (hg_name (pg_name (i := 2) sc_is_web.nd rfl (.inl rfl)) (by decide))) (fun _ _ _ _ _ => hts_nil) (fun _ _ _ _ _ => (he_callD d_is_whole (Nat.le_of_ble_eq_true rfl) (by rfl) (ha_cons (p := true) (q := true) (hx_var (pv 2)) (ha_cons (p := true) (q := true) he_int (ha_cons (p := true) (q := true) (he_two (p := true) (q := true) (fun a b => pe_op op_sub a b) o_sub (he_two (p := true) (q := true) (fun a b => pe_ix ix_seq a b (fun _ _ => rfl)) o_ix (hx_var (pv 0)) he_int) he_int) ha_nil))))))))))))))
 (hss_one (hs_ret he_bool))
 hss_nil)
 (hss_one (hs_if (ht_two (p := true) (q := true) (fun a b => pt_cmpR op_ge a b (nomark _)) o_ge (he_two (p := true) (q := true) (fun a b => pe_ix ix_seq a b (fun _ _ => rfl)) o_ix (hx_var (pv 1)) he_int) (he_two (p := true) (q := true) (fun a b => pe_ix ix_seq a b (fun _ _ => rfl)) o_ix (hx_var (pv 1)) he_int))
 (hss_one (hs_ret he_bool))
 hss_nil))))
 (hss_one (hs_ret (he_two (p := true) (q := true) (fun a b => pe_cmpR op_eqU a b (nomark _)) o_eqU (hx_new (hn_callT call_list_of boot_list o_list (by rfl) bl.list (he_two (p := true) (q := true) (fun a b => pe_ix ix_seq a b (fun _ _ => rfl)) o_ix (hx_var (pv 0)) he_int))) (hx_new (hn_sortset bl (by rfl) (by rfl) (he_two (p := true) (q := true) (fun a b => pe_ix ix_seq a b (fun _ _ => rfl)) o_ix (hx_var (pv 0)) he_int)))))))))
-- near
abbrev s_near : Stmt := topS 7
abbrev P_near : List Str := ["web"]
theorem sc_near : FnScope N_near P_near (defScope s_near) := ⟨rfl, rfl, rfl, by decide +kernel, rfl, by decide +kernel, by decide +kernel⟩
theorem h_near {f : Addr} {cdv : Value} {A : Around} {outer : List PySem.Env} {s : Shared} {H : Hp} {E : XK} (bl : Bl mg)
  
  (hr : Room 0 (A.deeper (envOfC "near" (defScope s_near) s.heap.objs.size f cdv))) :
  HSs (ctOf P w K mg base xc N_near P_near "near" s_near f cdv A outer s H E 0 sc_near hr) (defBody s_near) b_near :=
 (hss_cons (hs_setcomp2_of (fun a b c d => ps_setLc (i := 1) rfl sc_near.nd rfl rfl (sw_true rfl rfl rfl (by decide +kernel)) a (blkOk_by (own := [("k", 4)]) (N := N_near) (sc := defScope s_near) (by decide +kernel)) b c d) (hi_rng1 (by rfl) bl.range (ha_cons (p := true) (q := true) (he_two (p := true) (q := true) (fun a b => pe_ix ix_seq a b (fun _ _ => rfl)) o_ix (hx_var (pv 0)) he_int) ha_nil)) rfl (fun _ _ _ _ _ => (hg_name (pg_name (i := 4) sc_near.nd rfl (.inl rfl)) (by decide))) (fun _ _ _ _ _ => (hn_lst ha_nil)))
 (hss_cons (hs_for (vs := [2, 3]) (hi_seq (he_two (p := true) (q := true) (fun a b => pe_ix ix_seq a b (fun _ _ => rfl)) o_ix (hx_var (pv 0)) he_int)) (hg_tup (hgs_cons (hg_name (pg_name (i := 2) sc_near.nd rfl (.inl rfl)) (by decide)) (hgs_cons (hg_name (pg_name (i := 3) sc_near.nd rfl (.inl rfl)) (by decide)) hgs_nil)))
 (hss_cons (hs_append2 (pv 1) (hx_var (pv 2)) (hx_var (pv 3)) (fun _ _ => rfl))
 (hss_one (hs_append2 (pv 1) (hx_var (pv 3)) (hx_var (pv 2)) (fun _ _ => rfl)))))
 (hss_frz2 (i := 1) (hss_one (hs_ret (hx_new (by exact hn_comp (p := true) (q := true) (p2 := true) (p3 := true) (hi_seq (hx_var (pv 1))) (blkOk_by (own := [("row", 5)]) (N := N_near) (sc := defScope s_near) (by decide +kernel)) rfl (fun _ _ _ _ _ => (hg_name (pg_name (i := 5) sc_near.nd rfl (.inl rfl)) (by decide))) (fun _ _ _ _ _ => hts_nil) (fun _ _ _ _ _ => (hx_new (hn_callB c_sorted boot_sorted o_sorted (by rfl) bl.sorted (hx_var (pv 5))))))))))))
-- show_web
abbrev s_show_web : Stmt := topS 9
abbrev P_show_web : List Str := ["web"]
theorem sc_show_web : FnScope N_show_web P_show_web (defScope s_show_web) := ⟨rfl, rfl, rfl, by decide +kernel, rfl, by decide +kernel, by decide +kernel⟩
theorem h_show_web {f : Addr} {cdv : Value} {A : Around} {outer : List PySem.Env} {s : Shared} {H : Hp} {E : XK} (bl : Bl mg)
  (d_near : Dn P w K mg base "near" 1 P_near (spF K p_near))
  (hr : Room 1 (A.deeper (envOfC "show_web" (defScope s_show_web) s.heap.objs.size f cdv))) :
  HSs (ctOf P w K mg base xc N_show_web P_show_web "show_web" s_show_web f cdv A outer s H E 1 sc_show_web hr) (defBody s_show_web) b_show_web :=
 (hss_cons (hs_parK_of (fun a b => ps_par (i := 1) (j := 2) rfl sc_show_web.nd rfl rfl (by decide) rfl rfl (pa_cons a (pa_cons b pa_nil)) (by rfl)) (hk_n (hn_lst (ha_cons (p := true) (q := true) (he_two (p := true) (q := true) (fun a b => pe_op op_addU a b) o_addU he_str (he_callT call_str_int boot_str o_str (by rfl) bl.str (he_two (p := true) (q := true) (fun a b => pe_ix ix_seq a b (fun _ _ => rfl)) o_ix (hx_var (pv 0)) he_int))) ha_nil))) (hk_e (he_callD d_near (Nat.le_of_ble_eq_true rfl) (by rfl) (ha_cons (p := true) (q := true) (hx_var (pv 0)) ha_nil))))
 (hss_cons (hs_for (vs := [3]) (hi_rng1 (by rfl) bl.range (ha_cons (p := true) (q := true) (he_two (p := true) (q := true) (fun a b => pe_ix ix_seq a b (fun _ _ => rfl)) o_ix (hx_var (pv 0)) he_int) ha_nil)) (hg_name (pg_name (i := 3) sc_show_web.nd rfl (.inr rfl)) (by decide))
 (hss_cons (hs_setcompF_of (fun a b c d => ps_setLc (i := 4) rfl sc_show_web.nd rfl rfl (sw_true rfl rfl rfl (by decide +kernel)) a (blkOk_by (own := [("j", 5)]) (N := N_show_web) (sc := defScope s_show_web) (by decide +kernel)) b c d) (hi_seq (he_two (p := true) (q := true) (fun a b => pe_ix ix_seq a b (fun _ _ => rfl)) o_ix (hx_var (pv 2)) (hx_var (pv 3)))) rfl (fun _ _ _ _ _ => (hg_name (pg_name (i := 5) sc_show_web.nd rfl (.inl rfl)) (by decide))) (fun _ _ _ _ _ => (hts_one (ht_two (p := true) (q := true) (fun a b => pt_cmpR op_gt a b (nomark _)) o_gt (hx_var (pv 5)) (hx_var (pv 3))))) (fun _ _ _ _ _ => (hx_var (pv 5))))
 (hss_one (hs_if (ht_two (p := true) (q := true) (fun a b => pt_cmpR op_neU a b (nomark _)) o_neU (hx_var (pv 4)) (hx_new (hn_lst ha_nil)))
 (hss_one (hs_append (pv 1) (he_join (p := true) he_str (hx_r (hx_new (hn_two (p := true) (q := true) (fun a b => pe_op op_cat a b) o_cat (hx_new (hn_lst (ha_cons (p := true) (q := true) (he_callT call_str_int boot_str o_str (by rfl) bl.str (hx_var (pv 3))) (ha_cons (p := true) (q := true) he_str ha_nil)))) (hx_new (by exact hn_comp (p := true) (q := true) (p2 := true) (p3 := true) (hi_seq (hx_var (pv 4))) (blkOk_by (own := [("j", 5)]) (N := N_show_web) (sc := defScope s_show_web) (by decide +kernel)) rfl (fun _ _ _ _ _ => (hg_name (pg_name (i := 5) sc_show_web.nd rfl (.inl rfl)) (by decide))) (fun _ _ _ _ _ => hts_nil) (fun _ _ _ _ _ => (he_callT call_str_int boot_str o_str (by rfl) bl.str (hx_var (pv 5))))))))))))
 hss_nil))))
 (hss_one (hs_ret (he_join (p := true) he_str (hx_r (hx_new (by exact hn_comp (p := true) (q := false) (p2 := true) (p3 := true) (hi_seqR (hx_own (pv 1))) (blkOk_by (own := [("line", 6)]) (N := N_show_web) (sc := defScope s_show_web) (by decide +kernel)) rfl (fun _ _ _ _ _ => (hg_name (pg_name (i := 6) sc_show_web.nd rfl (.inl rfl)) (by decide))) (fun _ _ _ _ _ => hts_nil) (fun _ _ _ _ _ => (he_two (p := true) (q := true) (fun a b => pe_op op_addU a b) o_addU (hx_var (pv 6)) he_str))))))))))
-- number_in
abbrev s_number_in : Stmt := topS 10
abbrev P_number_in : List Str := ["word", "low", "high"]
theorem sc_number_in : FnScope N_number_in P_number_in (defScope s_number_in) := ⟨rfl, rfl, rfl, by decide +kernel, rfl, by decide +kernel, by decide +kernel⟩
theorem h_number_in {f : Addr} {cdv : Value} {A : Around} {outer : List PySem.Env} {s : Shared} {H : Hp} {E : XK} (bl : Bl mg)
  
  (hr : Room 0 (A.deeper (envOfC "number_in" (defScope s_number_in) s.heap.objs.size f cdv))) :
  HSs (ctOf P w K mg base xc N_number_in P_number_in "number_in" s_number_in f cdv A outer s H E 0 sc_number_in hr) (defBody s_number_in) b_number_in :=
 (hss_cons (hs_if (HW.ht (hw_or (p := true) (q := true) (ht_not (ht_chain (p1 := true) (p2 := true) (p3 := true) op_leU op_leU o_leU o_leU he_int (he_callB c_len boot_len o_len (by rfl) bl.len (hx_var (pv 0))) he_int)) (hw_or1 (ht_not (ht_val (he_callB (cr_all rfl) boot_all o_all (by rfl) bl.all (hx_new (by exact hn_comp (p := true) (q := true) (p2 := true) (p3 := true) (hi_txt (hx_var (pv 0))) (blkOk_by (own := [("sign", 3)]) (N := N_number_in) (sc := defScope s_number_in) (by decide +kernel)) rfl (fun _ _ _ _ _ => (hg_name (pg_name (i := 3) sc_number_in.nd rfl (.inl rfl)) (by decide))) (fun _ _ _ _ _ => hts_nil) (fun _ _ _ _ _ => (he_two (p := true) (q := true) (fun a b => pe_cmpR op_inU a b (by with_unfolding_all rfl)) o_inU (hx_var (pv 3)) he_str))))))))))
 (hss_one (hs_ret he_none))
 hss_nil)
 (hss_cons (hs_if (HW.ht (hw_or (p := true) (q := true) (HW.ht (hw_and (p := true) (q := true) (ht_two (p := true) (q := true) (fun a b => pt_cmpR op_eqU a b (nomark _)) o_eqU (he_two (p := true) (q := true) (fun a b => pe_ix ix_seq a b (fun _ _ => rfl)) o_ix (hx_var (pv 0)) he_int) he_str) (hw_and1 (ht_two (p := true) (q := true) (fun a b => pt_cmpR op_neU a b (nomark _)) o_neU (hx_var (pv 0)) he_str)))) (hw_or1 (ht_not (ht_chain (p1 := true) (p2 := true) (p3 := true) op_leU op_leU o_leU o_leU (hx_var (pv 1)) (he_callT c_int boot_int o_int (by rfl) bl.int (hx_var (pv 0))) (hx_var (pv 2)))))))
 (hss_one (hs_ret he_none))
 hss_nil)
 (hss_one (hs_ret (he_callT c_int boot_int o_int (by rfl) bl.int (hx_var (pv 0)))))))
-- place_of
abbrev s_place_of : Stmt := topS 11
abbrev P_place_of : List Str := ["words", "k"]
theorem sc_place_of : FnScope N_place_of P_place_of (defScope s_place_of) := ⟨rfl, rfl, rfl, by decide +kernel, rfl, by decide +kernel, by decide +kernel⟩
theorem h_place_of {f : Addr} {cdv : Value} {A : Around} {outer : List PySem.Env} {s : Shared} {H : Hp} {E : XK} (bl : Bl mg)
  
  (hr : Room 0 (A.deeper (envOfC "place_of" (defScope s_place_of) s.heap.objs.size f cdv))) :
  HSs (ctOf P w K mg base xc N_place_of P_place_of "place_of" s_place_of f cdv A outer s H E 0 sc_place_of hr) (defBody s_place_of) b_place_of :=
 (hss_one (hs_ret (he_two (p := true) (q := true) (fun a b => pe_op op_addU a b) o_addU (he_two (p := true) (q := true) (fun a b => pe_op op_addU a b) o_addU (he_callB c_len boot_len o_len (by rfl) bl.len (he_join (p := true) he_str (hx_r (hx_new (hn_slice (p := true) (q := true) (r := true) (hx_var (pv 0)) ho_none (ho_some (hx_var (pv 1)))))))) he_int) (he_callT c_int boot_int o_int (by rfl) bl.int (he_chain (p1 := true) (p2 := true) (p3 := true) op_lt op_lt o_lt o_lt he_int (hx_var (pv 1)) (he_callB c_len boot_len o_len (by rfl) bl.len (hx_var (pv 0))))))))
-- lines_of
abbrev s_lines_of : Stmt := topS 12
abbrev P_lines_of : List Str := ["text"]
theorem sc_lines_of : FnScope N_lines_of P_lines_of (defScope s_lines_of) := ⟨rfl, rfl, rfl, by decide +kernel, rfl, by decide +kernel, by decide +kernel⟩
theorem h_lines_of {f : Addr} {cdv : Value} {A : Around} {outer : List PySem.Env} {s : Shared} {H : Hp} {E : XK} {W : Str → List D → Prop} (bl : Bl mg)
  {c_BadText : Addr} (x_BadText : XDn P w K mg base "BadText" c_BadText (["line", "place"] : List Str) okd_BadText 1) (hxc_BadText : xc "BadText" = some (c_BadText, (["line", "place"] : List Str)))
  (hr : Room 2 (A.deeper (envOfC "lines_of" (defScope s_lines_of) s.heap.objs.size f cdv))) :
  HSs (ctOfX P w K mg base xc N_lines_of P_lines_of "lines_of" s_lines_of f cdv A outer s H E W 2 sc_lines_of hr) (defBody s_lines_of) (b_lines_of fun nm es _ => W nm es) :=
 (hss_cons (hs_set_of (fun h => ps_set (i := 1) sc_lines_of.nd rfl (.inl rfl) h) (hx_new (hn_split (p := true) (q := true) (hx_var (pv 0)) he_str)))
 (hss_cons (hs_if (ht_two (p := true) (q := true) (fun a b => pt_cmpR op_neU a b (nomark _)) o_neU (he_two (p := true) (q := true) (fun a b => pe_ix ix_seq a b (fun _ _ => rfl)) o_ix (hx_var (pv 1)) (he_one (fun h => ⟨_, pe_un un_neg h, fun _ _ _ z => z⟩) o_neg he_int)) he_str)
 (hss_one (hs_raise x_BadText rfl (by decide) (Nat.le_of_ble_eq_true rfl) ctx_takes hxc_BadText (by rfl) (ha_cons (p := true) (q := true) (he_callB c_len boot_len o_len (by rfl) bl.len (hx_var (pv 1))) (ha_cons (p := true) (q := true) (he_two (p := true) (q := true) (fun a b => pe_op op_addU a b) o_addU (he_callB c_len boot_len o_len (by rfl) bl.len (he_two (p := true) (q := true) (fun a b => pe_ix ix_seq a b (fun _ _ => rfl)) o_ix (hx_var (pv 1)) (he_one (fun h => ⟨_, pe_un un_neg h, fun _ _ _ z => z⟩) o_neg he_int))) he_int) ha_nil))))
 hss_nil)
 (hss_one (hs_ret (hx_new (by exact hn_comp (p := true) (q := true) (p2 := true) (p3 := true) (hi_seq (hx_new (hn_slice (p := true) (q := true) (r := true) (hx_var (pv 1)) ho_none (ho_some (he_one (fun h => ⟨_, pe_un un_neg h, fun _ _ _ z => z⟩) o_neg he_int))))) (blkOk_by (own := [("line", 2)]) (N := N_lines_of) (sc := defScope s_lines_of) (by decide +kernel)) rfl (fun _ _ _ _ _ => (hg_name (pg_name (i := 2) sc_lines_of.nd rfl (.inl rfl)) (by decide))) (fun _ _ _ _ _ => hts_nil) (fun _ _ _ _ _ => (hx_new (hn_split (p := true) (q := true) (hx_var (pv 2)) he_str)))))))))
-- read_line
abbrev s_read_line : Stmt := topS 13
abbrev P_read_line : List Str := ["number", "words", "low", "many"]
theorem sc_read_line : FnScope N_read_line P_read_line (defScope s_read_line) := ⟨rfl, rfl, rfl, by decide +kernel, rfl, by decide +kernel, by decide +kernel⟩
theorem h_read_line {f : Addr} {cdv : Value} {A : Around} {outer : List PySem.Env} {s : Shared} {H : Hp} {E : XK} {W : Str → List D → Prop} (bl : Bl mg)
  (d_number_in : Dn P w K mg base "number_in" 1 P_number_in (spF K p_number_in))
  (d_place_of : Dn P w K mg base "place_of" 1 P_place_of (spF K p_place_of))
  {c_BadText : Addr} (x_BadText : XDn P w K mg base "BadText" c_BadText (["line", "place"] : List Str) okd_BadText 1) (hxc_BadText : xc "BadText" = some (c_BadText, (["line", "place"] : List Str)))
  (hr : Room 2 (A.deeper (envOfC "read_line" (defScope s_read_line) s.heap.objs.size f cdv))) :
  HSs (ctOfX P w K mg base xc N_read_line P_read_line "read_line" s_read_line f cdv A outer s H E W 2 sc_read_line hr) (defBody s_read_line) (b_read_line fun nm es _ => W nm es) :=
 (hss_cons (hs_set_of (fun h => ps_set (i := 4) sc_read_line.nd rfl (.inl rfl) h) (he_callD d_number_in (Nat.le_of_ble_eq_true rfl) (by rfl) (ha_cons (p := true) (q := true) (he_two (p := true) (q := true) (fun a b => pe_ix ix_seq a b (fun _ _ => rfl)) o_ix (hx_var (pv 1)) he_int) (ha_cons (p := true) (q := true) (hx_var (pv 2)) (ha_cons (p := true) (q := true) (he_two (p := true) (q := true) (fun a b => pe_op op_sub a b) o_sub (hx_var (pv 3)) he_int) ha_nil)))))
 (hss_cons (hs_if (ht_two (p := true) (q := true) (fun a b => pt_cmpR op_isN a b (nomark _)) o_isN (hx_var (pv 4)) he_none)
 (hss_one (hs_raise x_BadText rfl (by decide) (Nat.le_of_ble_eq_true rfl) ctx_takes hxc_BadText (by rfl) (ha_cons (p := true) (q := true) (hx_var (pv 0)) (ha_cons (p := true) (q := true) he_int ha_nil))))
 hss_nil)
 (hss_cons (hs_if (HW.ht (hw_or (p := true) (q := true) (ht_two (p := true) (q := true) (fun a b => pt_cmpR op_lt a b (nomark _)) o_lt (he_callB c_len boot_len o_len (by rfl) bl.len (hx_var (pv 1))) he_int) (hw_or1 (ht_two (p := true) (q := true) (fun a b => pt_cmpR op_neU a b (nomark _)) o_neU (he_two (p := true) (q := true) (fun a b => pe_ix ix_seq a b (fun _ _ => rfl)) o_ix (hx_var (pv 1)) he_int) he_str))))
 (hss_one (hs_raise x_BadText rfl (by decide) (Nat.le_of_ble_eq_true rfl) ctx_takes hxc_BadText (by rfl) (ha_cons (p := true) (q := true) (hx_var (pv 0)) (ha_cons (p := true) (q := true) (he_callD d_place_of (Nat.le_of_ble_eq_true rfl) (by rfl) (ha_cons (p := true) (q := true) (hx_var (pv 1)) (ha_cons (p := true) (q := true) he_int ha_nil))) ha_nil))))
 hss_nil)
 (hss_cons (hs_parK_of (fun a b => ps_par (i := 5) (j := 6) rfl sc_read_line.nd rfl rfl (by decide) rfl rfl (pa_cons a (pa_cons b pa_nil)) (by rfl)) (hk_n (hn_lst ha_nil)) (hk_e (hx_var (pv 4))))
 (hss_cons (hs_for (vs := [7]) (hi_rng2 (by rfl) bl.range (ha_cons (p := true) (q := true) he_int (ha_cons (p := true) (q := true) (he_callBL (call_max2 rfl) boot_max o_max2 (by rfl) bl.max (ha_cons (p := true) (q := true) he_int (ha_cons (p := true) (q := true) (he_callB c_len boot_len o_len (by rfl) bl.len (hx_var (pv 1))) ha_nil))) ha_nil))) (hg_name (pg_name (i := 7) sc_read_line.nd rfl (.inl rfl)) (by decide))
 (hss_cons (hs_set_of (fun h => ps_set (i := 8) sc_read_line.nd rfl (.inl rfl) h) (he_if (p := true) (q := true) (r := true) (ht_two (p := true) (q := true) (fun a b => pt_cmpR op_lt a b (nomark _)) o_lt (hx_var (pv 7)) (he_callB c_len boot_len o_len (by rfl) bl.len (hx_var (pv 1)))) (he_callD d_number_in (Nat.le_of_ble_eq_true rfl) (by rfl) (ha_cons (p := true) (q := true) (he_two (p := true) (q := true) (fun a b => pe_ix ix_seq a b (fun _ _ => rfl)) o_ix (hx_var (pv 1)) (hx_var (pv 7))) (ha_cons (p := true) (q := true) (he_two (p := true) (q := true) (fun a b => pe_op op_addU a b) o_addU (hx_var (pv 6)) he_int) (ha_cons (p := true) (q := true) (he_two (p := true) (q := true) (fun a b => pe_op op_sub a b) o_sub (hx_var (pv 3)) he_int) ha_nil)))) he_none))
 (hss_cons (hs_if (ht_two (p := true) (q := true) (fun a b => pt_cmpR op_isN a b (nomark _)) o_isN (hx_var (pv 8)) he_none)
 (hss_one (hs_raise x_BadText rfl (by decide) (Nat.le_of_ble_eq_true rfl) ctx_takes hxc_BadText (by rfl) (ha_cons (p := true) (q := true) (hx_var (pv 0)) (ha_cons (p := true) (q := true) (he_callD d_place_of (Nat.le_of_ble_eq_true rfl) (by rfl) (ha_cons (p := true) (q := true) (hx_var (pv 1)) (ha_cons (p := true) (q := true) (hx_var (pv 7)) ha_nil))) ha_nil))))
 hss_nil)
 (hss_cons (hs_append (pv 5) (hx_var (pv 8)))
 (hss_one (hs_set_of (fun h => ps_set (i := 6) sc_read_line.nd rfl (.inl rfl) h) (hx_var (pv 8))))))))
 (hss_frz (i := 5) (hss_one (hs_ret (he_tup (ha_cons (p := true) (q := true) (hx_var (pv 4)) (ha_cons (p := true) (q := true) (hx_var (pv 5)) ha_nil)))))))))))
-- read_web
abbrev s_read_web : Stmt := topS 14
abbrev P_read_web : List Str := ["text"]
theorem sc_read_web : FnScope N_read_web P_read_web (defScope s_read_web) := ⟨rfl, rfl, rfl, by decide +kernel, rfl, by decide +kernel, by decide +kernel⟩
theorem h_read_web {f : Addr} {cdv : Value} {A : Around} {outer : List PySem.Env} {s : Shared} {H : Hp} {E : XK} {W : Str → List D → Prop} (bl : Bl mg)
  (d_lines_of : DnX P w K mg base "lines_of" 3 P_lines_of (spX K xc p_lines_of))
  (d_number_in : Dn P w K mg base "number_in" 1 P_number_in (spF K p_number_in))
  (d_place_of : Dn P w K mg base "place_of" 1 P_place_of (spF K p_place_of))
  (d_read_line : DnX P w K mg base "read_line" 3 P_read_line (spX K xc p_read_line))
  {c_BadText : Addr} (x_BadText : XDn P w K mg base "BadText" c_BadText (["line", "place"] : List Str) okd_BadText 1) (hxc_BadText : xc "BadText" = some (c_BadText, (["line", "place"] : List Str)))
  (mg_MOST_PLACES : MgInt mg "MOST_PLACES" 24)
  (hr : Room 3 (A.deeper (envOfC "read_web" (defScope s_read_web) s.heap.objs.size f cdv))) :
  HSs (ctOfX P w K mg base xc N_read_web P_read_web "read_web" s_read_web f cdv A outer s H E W 3 sc_read_web hr) (defBody s_read_web) (b_read_web fun nm es _ => W nm es) :=
 (hss_cons (hs_set_of (fun h => ps_set (i := 1) sc_read_web.nd rfl (.inl rfl) h) (he_callX d_lines_of (Nat.le_of_ble_eq_true rfl) ctx_takes (by rfl) (ha_cons (p := true) (q := true) (hx_var (pv 0)) ha_nil)))
 (hss_cons (hs_if (HW.ht (hw_or (p := true) (q := true) (ht_two (p := true) (q := true) (fun a b => pt_cmpR op_eqU a b (nomark _)) o_eqU (hx_var (pv 1)) (hx_new (hn_lst ha_nil))) (hw_or1 (ht_two (p := true) (q := true) (fun a b => pt_cmpR op_neU a b (nomark _)) o_neU (he_two (p := true) (q := true) (fun a b => pe_ix ix_seq a b (fun _ _ => rfl)) o_ix (he_two (p := true) (q := true) (fun a b => pe_ix ix_seq a b (fun _ _ => rfl)) o_ix (hx_var (pv 1)) he_int) he_int) he_str))))
 (hss_one (hs_raise x_BadText rfl (by decide) (Nat.le_of_ble_eq_true rfl) ctx_takes hxc_BadText (by rfl) (ha_cons (p := true) (q := true) he_int (ha_cons (p := true) (q := true) he_int ha_nil))))
 hss_nil)
 (hss_cons (hs_set_of (fun h => ps_set (i := 2) sc_read_web.nd rfl (.inl rfl) h) (he_if (p := true) (q := true) (r := true) (ht_two (p := true) (q := true) (fun a b => pt_cmpR op_gt a b (nomark _)) o_gt (he_callB c_len boot_len o_len (by rfl) bl.len (he_two (p := true) (q := true) (fun a b => pe_ix ix_seq a b (fun _ _ => rfl)) o_ix (hx_var (pv 1)) he_int)) he_int) (he_callD d_number_in (Nat.le_of_ble_eq_true rfl) (by rfl) (ha_cons (p := true) (q := true) (he_two (p := true) (q := true) (fun a b => pe_ix ix_seq a b (fun _ _ => rfl)) o_ix (he_two (p := true) (q := true) (fun a b => pe_ix ix_seq a b (fun _ _ => rfl)) o_ix (hx_var (pv 1)) he_int) he_int) (ha_cons (p := true) (q := true) he_int (ha_cons (p := true) (q := true) (he_c (pe_globI (by rfl) mg_MOST_PLACES) (fun _ => .int _)) ha_nil)))) he_none))
 (hss_cons (hs_if (HW.ht (hw_or (p := true) (q := true) (ht_two (p := true) (q := true) (fun a b => pt_cmpR op_isN a b (nomark _)) o_isN (hx_var (pv 2)) he_none) (hw_or1 (ht_two (p := true) (q := true) (fun a b => pt_cmpR op_gt a b (nomark _)) o_gt (he_callB c_len boot_len o_len (by rfl) bl.len (he_two (p := true) (q := true) (fun a b => pe_ix ix_seq a b (fun _ _ => rfl)) o_ix (hx_var (pv 1)) he_int)) he_int))))
 (hss_one (hs_raise x_BadText rfl (by decide) (Nat.le_of_ble_eq_true rfl) ctx_takes hxc_BadText (by rfl) (ha_cons (p := true) (q := true) he_int (ha_cons (p := true) (q := true) (he_callD d_place_of (Nat.le_of_ble_eq_true rfl) (by rfl) (ha_cons (p := true) (q := true) (he_two (p := true) (q := true) (fun a b => pe_ix ix_seq a b (fun _ _ => rfl)) o_ix (hx_var (pv 1)) he_int) (ha_cons (p := true) (q := true) (he_if (p := true) (q := true) (r := true) (ht_two (p := true) (q := true) (fun a b => pt_cmpR op_isN a b (nomark _)) o_isN (hx_var (pv 2)) he_none) he_int he_int) ha_nil))) ha_nil))))
 hss_nil)
 (hss_cons (hs_parK_of (fun a b => ps_par (i := 3) (j := 4) rfl sc_read_web.nd rfl rfl (by decide) rfl rfl (pa_cons a (pa_cons b pa_nil)) (by rfl)) (hk_n (hn_lst ha_nil)) (hk_e he_int))
 (hss_cons (hs_for (vs := [5]) (hi_rng2 (by rfl) bl.range (ha_cons (p := true) (q := true) he_int (ha_cons (p := true) (q := true) (he_callB c_len boot_len o_len (by rfl) bl.len (hx_var (pv 1))) ha_nil))) (hg_name (pg_name (i := 5) sc_read_web.nd rfl (.inl rfl)) (by decide))
 (hss_cons (hs_asg_of (vs := [6, 7]) (fun a b => ps_asg a b) (he_callX d_read_line (Nat.le_of_ble_eq_true rfl) ctx_takes (by rfl) (ha_cons (p := true) (q := true) (he_two (p := true) (q := true) (fun a b => pe_op op_addU a b) o_addU (hx_var (pv 5)) he_int) (ha_cons (p := true) (q := true) (he_two (p := true) (q := true) (fun a b => pe_ix ix_seq a b (fun _ _ => rfl)) o_ix (hx_var (pv 1)) (hx_var (pv 5))) (ha_cons (p := true) (q := true) (hx_var (pv 4)) (ha_cons (p := true) (q := true) (hx_var (pv 2)) ha_nil))))) (hg_tup (hgs_cons (hg_name (pg_name (i := 6) sc_read_web.nd rfl (.inr rfl)) (by decide)) (hgs_cons (hg_name (pg_name (i := 7) sc_read_web.nd rfl (.inl rfl)) (by decide)) hgs_nil))))
 (hss_cons (hs_extend (pv 3) (hx_new (by exact hn_comp (p := true) (q := true) (p2 := true) (p3 := true) (hi_seq (hx_var (pv 7))) (blkOk_by (own := [("one", 8)]) (N := N_read_web) (sc := defScope s_read_web) (by decide +kernel)) rfl (fun _ _ _ _ _ => (hg_name (pg_name (i := 8) sc_read_web.nd rfl (.inl rfl)) (by decide))) (fun _ _ _ _ _ => hts_nil) (fun _ _ _ _ _ => (he_tup (ha_cons (p := true) (q := true) (hx_var (pv 6)) (ha_cons (p := true) (q := true) (hx_var (pv 8)) ha_nil)))))))
 (hss_one (hs_set_of (fun h => ps_set (i := 4) sc_read_web.nd rfl (.inl rfl) h) (he_two (p := true) (q := true) (fun a b => pe_op op_addU a b) o_addU (hx_var (pv 6)) he_int))))))
 (hss_one (hs_ret (he_tup (ha_cons (p := true) (q := true) he_str (ha_cons (p := true) (q := true) (hx_var (pv 2)) (ha_cons (p := true) (q := true) (he_callTR call_tuple_of boot_tuple o_tuple (by rfl) bl.tuple (hx_own (pv 3))) ha_nil))))))))))))
-- _law_state
abbrev s__law_state : Stmt := topS 16
abbrev P__law_state : List Str := ["script"]
theorem sc__law_state : FnScope N__law_state P__law_state (defScope s__law_state) := ⟨rfl, rfl, rfl, by decide +kernel, rfl, by decide +kernel, by decide +kernel⟩
theorem h1__law_state {f : Addr} {cdv : Value} {A : Around} {outer : List PySem.Env} {s : Shared} {H : Hp} {E : XK} (bl : Bl mg)
  (hr : Room 0 (A.deeper (envOfC "_law_state" (defScope s__law_state) s.heap.objs.size f cdv))) :
  HS (ctOf P w K mg base xc N__law_state P__law_state "_law_state" s__law_state f cdv A outer s H E 0 sc__law_state hr) ((defBody s__law_state).getD 0 (.Pass ⟨0, 0, 0, 0⟩)) bState1 :=
 (hs_setcomp_of (fun a b c d => ps_setLc (i := 1) rfl sc__law_state.nd rfl rfl (sw_true rfl rfl rfl (by decide +kernel)) a (blkOk_by (own := [("cell", 2)]) (N := N__law_state) (sc := defScope s__law_state) (by decide +kernel)) b c d) (hi_seq (hx_new (hn_sliceRaw (pv 0) ho_none (ho_some he_int)))) rfl (fun _ _ _ _ _ => (hg_name (pg_name (i := 2) sc__law_state.nd rfl (.inl rfl)) (by decide))) (fun _ _ _ _ _ => hts_nil) (fun _ _ _ _ _ => (he_callB call_abs boot_abs o_abs (by rfl) bl.abs (hx_var (pv 2)))))
theorem h2__law_state {f : Addr} {cdv : Value} {A : Around} {outer : List PySem.Env} {s : Shared} {H : Hp} {E : XK} (bl : Bl mg)
  (hr : Room 0 (A.deeper (envOfC "_law_state" (defScope s__law_state) s.heap.objs.size f cdv))) :
  HS (ctOf P w K mg base xc N__law_state P__law_state "_law_state" s__law_state f cdv A outer s H E 0 sc__law_state hr) ((defBody s__law_state).getD 1 (.Pass ⟨0, 0, 0, 0⟩)) bState2 :=
 (hs_if (ht_two (p := true) (q := true) (fun a b => pt_cmpR op_eqU a b (nomark _)) o_eqU (he_callBR c_len boot_len o_len (by rfl) bl.len (hx_own (pv 1))) he_int)
 (hss_one (hs_setK_of (fun h => ps_set (i := 1) sc__law_state.nd rfl (.inl rfl) h) (hk_n (hn_lst (ha_cons (p := true) (q := true) he_int ha_nil)))))
 hss_nil)
theorem ok__law_state {f : Addr} {fd : FuncData} (F : Fun K "_law_state" "_law_state" s__law_state f fd) (bl : Bl mg) : FnOk P w K mg base CX0 1 f fd P__law_state (spStart K) :=
  state_fn (xc := fun _ => none) (s1 := (defBody s__law_state).getD 0 (.Pass ⟨0, 0, 0, 0⟩)) (s2 := (defBody s__law_state).getD 1 (.Pass ⟨0, 0, 0, 0⟩)) F sc__law_state rfl rfl (fun X hN hS => pe_var (by rw [hN]; rfl) (.inl (by rw [hS]; rfl))) (fun _ => rfl) (fun _ => rfl) (fun cdv A outer s H E hr => h1__law_state bl hr) (fun cdv A outer s H E hr => h2__law_state bl hr) state_plain
-- _law_take
abbrev s__law_take : Stmt := topS 17
abbrev P__law_take : List Str := ["state", "most"]
theorem sc__law_take : FnScope N__law_take P__law_take (defScope s__law_take) := ⟨rfl, rfl, rfl, by decide +kernel, rfl, by decide +kernel, by decide +kernel⟩
theorem ok__law_take {f : Addr} {fd : FuncData} (F : Fun K "_law_take" "_law_take" s__law_take f fd) (bl : Bl mg) : FnOk P w K mg base CX0 1 f fd P__law_take (spS K phiTake) := by
  refine F.ok sc__law_take (fun vs H Q E h => ?_) (fun cdv A outer s H vs Q E hr h => ⟨_,
    pss_cons (ps_if (pt_cmpR op_lt (pv 1) pe_int (nomark _)) (pss_one (ps_ret pe_int)) pss_nil)
    (pss_cons (ps_set (i := 2) sc__law_take.nd rfl (.inl rfl) (pe_ix ix_list (pv 0) pe_int fun _ _ => rfl))
    (pss_cons (ps_set (i := 3) sc__law_take.nd rfl (.inl rfl) (pe_op op_mod (pe_callTy call_int1 (by rfl) bl.int boot_int (pa_cons (pe_ix ix_list (pv 0) pe_int fun _ _ => rfl) pa_nil)) (pe_callB call_len_seq (by rfl) bl.len boot_len (pa_cons (pv 2) pa_nil))))
    (pss_cons (ps_set (i := 4) sc__law_take.nd rfl (.inl rfl) (pe_ix ix_list (pv 2) (pv 3) fun _ _ => rfl))
    (pss_cons (ps_if (pt_cmpR op_ge (pv 4) pe_int (nomark _)) (pss_cons (ps_asg (pe_op op_fdiv (pv 4) (pv 1)) (pg_sub (pv 2) (pv 3) set_list)) (pss_one (ps_ret (pe_op op_mod (pe_callTy call_int1 (by rfl) bl.int boot_int (pa_cons (pv 4) pa_nil)) (pv 1))))) pss_nil)
    (pss_cons (ps_asg (pe_op op_add (pe_ix ix_list (pv 0) pe_int fun _ _ => rfl) pe_int) (pg_sub (pv 0) pe_int set_list))
    (pss_cons (ps_set (i := 5) sc__law_take.nd rfl (.inl rfl) (pe_op op_mod (pe_callTy call_int1 (by rfl) bl.int boot_int (pa_cons (pe_op op_add (pe_op op_mul (pv 4) pe_int) (pe_op op_mul (pe_ix ix_list (pv 0) pe_int fun _ _ => rfl) pe_int)) pa_nil)) pe_int))
    (pss_cons (ps_set (i := 5) sc__law_take.nd rfl (.inl rfl) (pe_op op_mod (pe_callTy call_int1 (by rfl) bl.int boot_int (pa_cons (pe_op op_add (pe_op op_mul (pv 5) pe_int) (pe_op op_mul (pe_ix ix_list (pv 0) pe_int fun _ _ => rfl) pe_int)) pa_nil)) pe_int))
    (pss_one (ps_ret (pe_op op_mod (pe_callTy call_int1 (by rfl) bl.int boot_int (pa_cons (pe_op op_fdiv (pv 5) pe_int) pa_nil)) (pv 1))))))))))), ?_⟩)
  · obtain ⟨F, ds, R, p, q, us, rfl, e, _, _, _, r, ⟨m, rfl, _⟩, kk⟩ := h
    have := dpa_len r
    simp at this ⊢
    omega
  · exact take_pure h
-- _law_pick
abbrev s__law_pick : Stmt := topS 18
abbrev P__law_pick : List Str := ["state", "row"]
theorem sc__law_pick : FnScope N__law_pick P__law_pick (defScope s__law_pick) := ⟨rfl, rfl, rfl, by decide +kernel, rfl, by decide +kernel, by decide +kernel⟩
theorem h__law_pick {f : Addr} {cdv : Value} {A : Around} {outer : List PySem.Env} {s : Shared} {H : Hp} {E : XK} (bl : Bl mg)
  (d__law_take : Dn P w K mg base "_law_take" 1 P__law_take (spS K p__law_take))
  (hr : Room 1 (A.deeper (envOfC "_law_pick" (defScope s__law_pick) s.heap.objs.size f cdv))) :
  HSs (ctOf P w K mg base xc N__law_pick P__law_pick "_law_pick" s__law_pick f cdv A outer s H E 1 sc__law_pick hr) (defBody s__law_pick) b__law_pick :=
 (hss_one (hs_ret (he_two (p := true) (q := false) (fun a b => pe_ix ix_seq a b (fun _ _ => rfl)) o_ix (hx_var (pv 1)) (he_callSD d__law_take (Nat.le_of_ble_eq_true rfl) (by rfl) (pv 0) (ha_cons (p := true) (q := true) (he_callB c_len boot_len o_len (by rfl) bl.len (hx_var (pv 1))) ha_nil)))))
-- _law_number
abbrev s__law_number : Stmt := topS 19
abbrev P__law_number : List Str := ["word", "low", "high"]
theorem sc__law_number : FnScope N__law_number P__law_number (defScope s__law_number) := ⟨rfl, rfl, rfl, by decide +kernel, rfl, by decide +kernel, by decide +kernel⟩
theorem h__law_number {f : Addr} {cdv : Value} {A : Around} {outer : List PySem.Env} {s : Shared} {H : Hp} {E : XK} (bl : Bl mg)
  
  (hr : Room 0 (A.deeper (envOfC "_law_number" (defScope s__law_number) s.heap.objs.size f cdv))) :
  HSs (ctOf P w K mg base xc N__law_number P__law_number "_law_number" s__law_number f cdv A outer s H E 0 sc__law_number hr) (defBody s__law_number) b__law_number :=
 (hss_cons (hs_if (HW.ht (hw_or (p := true) (q := true) (ht_two (p := true) (q := true) (fun a b => pt_cmpR op_eqU a b (nomark _)) o_eqU (hx_var (pv 0)) he_str) (hw_or (p := true) (q := true) (ht_two (p := true) (q := true) (fun a b => pt_cmpR op_gt a b (nomark _)) o_gt (he_callB c_len boot_len o_len (by rfl) bl.len (hx_var (pv 0))) he_int) (hw_or (p := true) (q := true) (ht_two (p := true) (q := true) (fun a b => pt_cmpR op_gt a b (nomark _)) o_gt (he_callB c_len boot_len o_len (by rfl) bl.len (hx_new (by exact hn_comp (p := true) (q := true) (p2 := true) (p3 := true) (hi_txt (hx_var (pv 0))) (blkOk_by (own := [("sign", 3)]) (N := N__law_number) (sc := defScope s__law_number) (by decide +kernel)) rfl (fun _ _ _ _ _ => (hg_name (pg_name (i := 3) sc__law_number.nd rfl (.inl rfl)) (by decide))) (fun _ _ _ _ _ => (hts_one (ht_two (p := true) (q := true) (fun a b => pt_cmpR op_ninU a b (by with_unfolding_all rfl)) o_ninU (hx_var (pv 3)) he_str))) (fun _ _ _ _ _ => (hx_var (pv 3)))))) he_int) (hw_or (p := true) (q := true) (ht_two (p := true) (q := true) (fun a b => pt_cmpR op_neU a b (nomark _)) o_neU (he_callT call_str_int boot_str o_str (by rfl) bl.str (he_callT c_int boot_int o_int (by rfl) bl.int (hx_var (pv 0)))) (hx_var (pv 0))) (hw_or1 (ht_not (ht_chain (p1 := true) (p2 := true) (p3 := true) op_leU op_leU o_leU o_leU (hx_var (pv 1)) (he_callT c_int boot_int o_int (by rfl) bl.int (hx_var (pv 0))) (hx_var (pv 2))))))))))
 (hss_one (hs_ret he_none))
 hss_nil)
 (hss_one (hs_ret (he_callT c_int boot_int o_int (by rfl) bl.int (hx_var (pv 0))))))
-- _law_place
abbrev s__law_place : Stmt := topS 20
abbrev P__law_place : List Str := ["words", "k"]
theorem sc__law_place : FnScope N__law_place P__law_place (defScope s__law_place) := ⟨rfl, rfl, rfl, by decide +kernel, rfl, by decide +kernel, by decide +kernel⟩
theorem h__law_place {f : Addr} {cdv : Value} {A : Around} {outer : List PySem.Env} {s : Shared} {H : Hp} {E : XK} (bl : Bl mg)
  
  (hr : Room 0 (A.deeper (envOfC "_law_place" (defScope s__law_place) s.heap.objs.size f cdv))) :
  HSs (ctOf P w K mg base xc N__law_place P__law_place "_law_place" s__law_place f cdv A outer s H E 0 sc__law_place hr) (defBody s__law_place) b__law_place :=
 (hss_cons (hs_if (ht_two (p := true) (q := true) (fun a b => pt_cmpR op_ge a b (nomark _)) o_ge (hx_var (pv 1)) (he_callB c_len boot_len o_len (by rfl) bl.len (hx_var (pv 0))))
 (hss_one (hs_ret (he_two (p := true) (q := true) (fun a b => pe_op op_addU a b) o_addU (he_callB c_len boot_len o_len (by rfl) bl.len (he_join (p := true) he_str (hx_r (hx_var (pv 0))))) he_int)))
 hss_nil)
 (hss_one (hs_ret (he_two (p := true) (q := true) (fun a b => pe_op op_addU a b) o_addU (he_callB (cr_sum rfl) boot_sum o_sum (by rfl) bl.sum (hx_new (by exact hn_comp (p := true) (q := true) (p2 := true) (p3 := true) (hi_seq (hx_new (hn_slice (p := true) (q := true) (r := true) (hx_var (pv 0)) ho_none (ho_some (hx_var (pv 1)))))) (blkOk_by (own := [("word", 2)]) (N := N__law_place) (sc := defScope s__law_place) (by decide +kernel)) rfl (fun _ _ _ _ _ => (hg_name (pg_name (i := 2) sc__law_place.nd rfl (.inl rfl)) (by decide))) (fun _ _ _ _ _ => hts_nil) (fun _ _ _ _ _ => (he_two (p := true) (q := true) (fun a b => pe_op op_addU a b) o_addU (he_callB c_len boot_len o_len (by rfl) bl.len (hx_var (pv 2))) he_int))))) he_int))))
-- _law_line
abbrev s__law_line : Stmt := topS 21
abbrev P__law_line : List Str := ["words", "low", "many"]
theorem sc__law_line : FnScope N__law_line P__law_line (defScope s__law_line) := ⟨rfl, rfl, rfl, by decide +kernel, rfl, by decide +kernel, by decide +kernel⟩
theorem h__law_line {f : Addr} {cdv : Value} {A : Around} {outer : List PySem.Env} {s : Shared} {H : Hp} {E : XK} (bl : Bl mg)
  (d__law_number : Dn P w K mg base "_law_number" 1 P__law_number (spF K p__law_number))
  (d__law_place : Dn P w K mg base "_law_place" 1 P__law_place (spF K p__law_place))
  (hr : Room 1 (A.deeper (envOfC "_law_line" (defScope s__law_line) s.heap.objs.size f cdv))) :
  HSs (ctOf P w K mg base xc N__law_line P__law_line "_law_line" s__law_line f cdv A outer s H E 1 sc__law_line hr) (defBody s__law_line) b__law_line :=
 (hss_cons (hs_set_of (fun h => ps_set (i := 3) sc__law_line.nd rfl (.inl rfl) h) (he_callD d__law_number (Nat.le_of_ble_eq_true rfl) (by rfl) (ha_cons (p := true) (q := true) (he_two (p := true) (q := true) (fun a b => pe_ix ix_seq a b (fun _ _ => rfl)) o_ix (hx_var (pv 0)) he_int) (ha_cons (p := true) (q := true) (hx_var (pv 1)) (ha_cons (p := true) (q := true) (he_two (p := true) (q := true) (fun a b => pe_op op_sub a b) o_sub (hx_var (pv 2)) he_int) ha_nil)))))
 (hss_cons (hs_if (ht_two (p := true) (q := true) (fun a b => pt_cmpR op_isN a b (nomark _)) o_isN (hx_var (pv 3)) he_none)
 (hss_one (hs_ret he_int))
 hss_nil)
 (hss_cons (hs_if (HW.ht (hw_or (p := true) (q := true) (ht_two (p := true) (q := true) (fun a b => pt_cmpR op_lt a b (nomark _)) o_lt (he_callB c_len boot_len o_len (by rfl) bl.len (hx_var (pv 0))) he_int) (hw_or (p := true) (q := true) (ht_two (p := true) (q := true) (fun a b => pt_cmpR op_neU a b (nomark _)) o_neU (he_two (p := true) (q := true) (fun a b => pe_ix ix_seq a b (fun _ _ => rfl)) o_ix (hx_var (pv 0)) he_int) he_str) (hw_or1 (ht_two (p := true) (q := true) (fun a b => pt_cmpR op_eqU a b (nomark _)) o_eqU (he_callB c_len boot_len o_len (by rfl) bl.len (hx_var (pv 0))) he_int)))))
 (hss_one (hs_ret (he_callD d__law_place (Nat.le_of_ble_eq_true rfl) (by rfl) (ha_cons (p := true) (q := true) (hx_var (pv 0)) (ha_cons (p := true) (q := true) (he_if (p := true) (q := true) (r := true) (HW.ht (hw_or (p := true) (q := true) (ht_two (p := true) (q := true) (fun a b => pt_cmpR op_lt a b (nomark _)) o_lt (he_callB c_len boot_len o_len (by rfl) bl.len (hx_var (pv 0))) he_int) (hw_or1 (ht_two (p := true) (q := true) (fun a b => pt_cmpR op_neU a b (nomark _)) o_neU (he_two (p := true) (q := true) (fun a b => pe_ix ix_seq a b (fun _ _ => rfl)) o_ix (hx_var (pv 0)) he_int) he_str)))) he_int he_int) ha_nil)))))
 hss_nil)
 (hss_cons (hs_parK_of (fun a b => ps_par (i := 4) (j := 5) rfl sc__law_line.nd rfl rfl (by decide) rfl rfl (pa_cons a (pa_cons b pa_nil)) (by rfl)) (hk_e (hx_var (pv 3))) (hk_n (hn_lst ha_nil)))
 (hss_cons (hs_for (vs := [6]) (hi_rng2 (by rfl) bl.range (ha_cons (p := true) (q := true) he_int (ha_cons (p := true) (q := true) (he_callB c_len boot_len o_len (by rfl) bl.len (hx_var (pv 0))) ha_nil))) (hg_name (pg_name (i := 6) sc__law_line.nd rfl (.inl rfl)) (by decide))
 (hss_cons (hs_set_of (fun h => ps_set (i := 7) sc__law_line.nd rfl (.inl rfl) h) (he_callD d__law_number (Nat.le_of_ble_eq_true rfl) (by rfl) (ha_cons (p := true) (q := true) (he_two (p := true) (q := true) (fun a b => pe_ix ix_seq a b (fun _ _ => rfl)) o_ix (hx_var (pv 0)) (hx_var (pv 6))) (ha_cons (p := true) (q := true) (he_two (p := true) (q := true) (fun a b => pe_op op_addU a b) o_addU (hx_var (pv 4)) he_int) (ha_cons (p := true) (q := true) (he_two (p := true) (q := true) (fun a b => pe_op op_sub a b) o_sub (hx_var (pv 2)) he_int) ha_nil)))))
 (hss_cons (hs_if (ht_two (p := true) (q := true) (fun a b => pt_cmpR op_isN a b (nomark _)) o_isN (hx_var (pv 7)) he_none)
 (hss_one (hs_ret (he_callD d__law_place (Nat.le_of_ble_eq_true rfl) (by rfl) (ha_cons (p := true) (q := true) (hx_var (pv 0)) (ha_cons (p := true) (q := true) (hx_var (pv 6)) ha_nil)))))
 hss_nil)
 (hss_cons (hs_append (pv 5) (he_tup (ha_cons (p := true) (q := true) (hx_var (pv 3)) (ha_cons (p := true) (q := true) (hx_var (pv 7)) ha_nil))))
 (hss_one (hs_set_of (fun h => ps_set (i := 4) sc__law_line.nd rfl (.inl rfl) h) (hx_var (pv 7))))))))
 (hss_frz (i := 5) (hss_one (hs_ret (hx_var (pv 5))))))))))
-- _law_read
abbrev s__law_read : Stmt := topS 22
abbrev P__law_read : List Str := ["text"]
theorem sc__law_read : FnScope N__law_read P__law_read (defScope s__law_read) := ⟨rfl, rfl, rfl, by decide +kernel, rfl, by decide +kernel, by decide +kernel⟩
theorem h__law_read {f : Addr} {cdv : Value} {A : Around} {outer : List PySem.Env} {s : Shared} {H : Hp} {E : XK} (bl : Bl mg)
  (d__law_number : Dn P w K mg base "_law_number" 1 P__law_number (spF K p__law_number))
  (d__law_place : Dn P w K mg base "_law_place" 1 P__law_place (spF K p__law_place))
  (d__law_line : Dn P w K mg base "_law_line" 2 P__law_line (spF K p__law_line))
  (hr : Room 2 (A.deeper (envOfC "_law_read" (defScope s__law_read) s.heap.objs.size f cdv))) :
  HSs (ctOf P w K mg base xc N__law_read P__law_read "_law_read" s__law_read f cdv A outer s H E 2 sc__law_read hr) (defBody s__law_read) b__law_read :=
 (hss_cons (hs_set_of (fun h => ps_set (i := 1) sc__law_read.nd rfl (.inl rfl) h) (hx_new (hn_split (p := true) (q := true) (hx_var (pv 0)) he_str)))
 (hss_cons (hs_if (ht_two (p := true) (q := true) (fun a b => pt_cmpR op_neU a b (nomark _)) o_neU (he_two (p := true) (q := true) (fun a b => pe_ix ix_seq a b (fun _ _ => rfl)) o_ix (hx_var (pv 1)) (he_one (fun h => ⟨_, pe_un un_neg h, fun _ _ _ z => z⟩) o_neg he_int)) he_str)
 (hss_one (hs_ret (he_tup (ha_cons (p := true) (q := true) (he_callB c_len boot_len o_len (by rfl) bl.len (hx_var (pv 1))) (ha_cons (p := true) (q := true) (he_two (p := true) (q := true) (fun a b => pe_op op_addU a b) o_addU (he_callB c_len boot_len o_len (by rfl) bl.len (he_two (p := true) (q := true) (fun a b => pe_ix ix_seq a b (fun _ _ => rfl)) o_ix (hx_var (pv 1)) (he_one (fun h => ⟨_, pe_un un_neg h, fun _ _ _ z => z⟩) o_neg he_int))) he_int) ha_nil)))))
 hss_nil)
 (hss_cons (hs_setcompF_of (fun a b c d => ps_setLc (i := 2) rfl sc__law_read.nd rfl rfl (sw_true rfl rfl rfl (by decide +kernel)) a (blkOk_by (own := [("line", 8)]) (N := N__law_read) (sc := defScope s__law_read) (by decide +kernel)) b c d) (hi_seq (hx_new (hn_slice (p := true) (q := true) (r := true) (hx_var (pv 1)) ho_none (ho_some (he_one (fun h => ⟨_, pe_un un_neg h, fun _ _ _ z => z⟩) o_neg he_int))))) rfl (fun _ _ _ _ _ => (hg_name (pg_name (i := 8) sc__law_read.nd rfl (.inl rfl)) (by decide))) (fun _ _ _ _ _ => hts_nil) (fun _ _ _ _ _ => (hx_new (hn_split (p := true) (q := true) (hx_var (pv 8)) he_str))))
 (hss_cons (hs_if (HW.ht (hw_or (p := true) (q := true) (ht_two (p := true) (q := true) (fun a b => pt_cmpR op_eqU a b (nomark _)) o_eqU (hx_var (pv 2)) (hx_new (hn_lst ha_nil))) (hw_or1 (ht_two (p := true) (q := true) (fun a b => pt_cmpR op_neU a b (nomark _)) o_neU (he_two (p := true) (q := true) (fun a b => pe_ix ix_seq a b (fun _ _ => rfl)) o_ix (he_two (p := true) (q := true) (fun a b => pe_ix ix_seq a b (fun _ _ => rfl)) o_ix (hx_var (pv 2)) he_int) he_int) he_str))))
 (hss_one (hs_ret (he_tup (ha_cons (p := true) (q := true) he_int (ha_cons (p := true) (q := true) he_int ha_nil)))))
 hss_nil)
 (hss_cons (hs_set_of (fun h => ps_set (i := 3) sc__law_read.nd rfl (.inl rfl) h) (he_if (p := true) (q := true) (r := true) (ht_two (p := true) (q := true) (fun a b => pt_cmpR op_gt a b (nomark _)) o_gt (he_callB c_len boot_len o_len (by rfl) bl.len (he_two (p := true) (q := true) (fun a b => pe_ix ix_seq a b (fun _ _ => rfl)) o_ix (hx_var (pv 2)) he_int)) he_int) (he_callD d__law_number (Nat.le_of_ble_eq_true rfl) (by rfl) (ha_cons (p := true) (q := true) (he_two (p := true) (q := true) (fun a b => pe_ix ix_seq a b (fun _ _ => rfl)) o_ix (he_two (p := true) (q := true) (fun a b => pe_ix ix_seq a b (fun _ _ => rfl)) o_ix (hx_var (pv 2)) he_int) he_int) (ha_cons (p := true) (q := true) he_int (ha_cons (p := true) (q := true) he_int ha_nil)))) he_none))
 (hss_cons (hs_if (HW.ht (hw_or (p := true) (q := true) (ht_two (p := true) (q := true) (fun a b => pt_cmpR op_isN a b (nomark _)) o_isN (hx_var (pv 3)) he_none) (hw_or1 (ht_two (p := true) (q := true) (fun a b => pt_cmpR op_gt a b (nomark _)) o_gt (he_callB c_len boot_len o_len (by rfl) bl.len (he_two (p := true) (q := true) (fun a b => pe_ix ix_seq a b (fun _ _ => rfl)) o_ix (hx_var (pv 2)) he_int)) he_int))))
 (hss_one (hs_ret (he_tup (ha_cons (p := true) (q := true) he_int (ha_cons (p := true) (q := true) (he_callD d__law_place (Nat.le_of_ble_eq_true rfl) (by rfl) (ha_cons (p := true) (q := true) (he_two (p := true) (q := true) (fun a b => pe_ix ix_seq a b (fun _ _ => rfl)) o_ix (hx_var (pv 2)) he_int) (ha_cons (p := true) (q := true) (he_if (p := true) (q := true) (r := true) (ht_two (p := true) (q := true) (fun a b => pt_cmpR op_isN a b (nomark _)) o_isN (hx_var (pv 3)) he_none) he_int he_int) ha_nil))) ha_nil)))))
 hss_nil)
 (hss_cons (hs_parK_of (fun a b => ps_par (i := 4) (j := 5) rfl sc__law_read.nd rfl rfl (by decide) rfl rfl (pa_cons a (pa_cons b pa_nil)) (by rfl)) (hk_e (hx_new (hn_lst ha_nil))) (hk_e he_int))
 (hss_cons (hs_for (vs := [6]) (hi_rng2 (by rfl) bl.range (ha_cons (p := true) (q := true) he_int (ha_cons (p := true) (q := true) (he_callB c_len boot_len o_len (by rfl) bl.len (hx_var (pv 2))) ha_nil))) (hg_name (pg_name (i := 6) sc__law_read.nd rfl (.inl rfl)) (by decide))
 (hss_cons (hs_set_of (fun h => ps_set (i := 7) sc__law_read.nd rfl (.inl rfl) h) (he_callD d__law_line (Nat.le_of_ble_eq_true rfl) (by rfl) (ha_cons (p := true) (q := true) (he_two (p := true) (q := true) (fun a b => pe_ix ix_seq a b (fun _ _ => rfl)) o_ix (hx_var (pv 2)) (hx_var (pv 6))) (ha_cons (p := true) (q := true) (hx_var (pv 5)) (ha_cons (p := true) (q := true) (hx_var (pv 3)) ha_nil)))))
 (hss_cons (hs_if (ht_val (he_isi boot_int (by rfl) bl.isinstance (by rfl) bl.int (hx_var (pv 7))))
 (hss_one (hs_ret (he_tup (ha_cons (p := true) (q := true) (he_two (p := true) (q := true) (fun a b => pe_op op_addU a b) o_addU (hx_var (pv 6)) he_int) (ha_cons (p := true) (q := true) (hx_var (pv 7)) ha_nil)))))
 hss_nil)
 (hss_one (hs_parK_of (fun a b => ps_par (i := 4) (j := 5) rfl sc__law_read.nd rfl rfl (by decide) rfl rfl (pa_cons a (pa_cons b pa_nil)) (by rfl)) (hk_e (hx_new (hn_two (p := true) (q := true) (fun a b => pe_op op_cat a b) o_cat (hx_var (pv 4)) (hx_var (pv 7))))) (hk_e (he_two (p := true) (q := true) (fun a b => pe_op op_addU a b) o_addU (he_two (p := true) (q := true) (fun a b => pe_ix ix_seq a b (fun _ _ => rfl)) o_ix (he_two (p := true) (q := true) (fun a b => pe_ix ix_seq a b (fun _ _ => rfl)) o_ix (hx_var (pv 7)) he_int) he_int) he_int)))))))
 (hss_one (hs_ret (he_tup (ha_cons (p := true) (q := true) he_str (ha_cons (p := true) (q := true) (hx_var (pv 3)) (ha_cons (p := true) (q := true) (he_callT call_tuple_of boot_tuple o_tuple (by rfl) bl.tuple (hx_var (pv 4))) ha_nil))))))))))))))
-- _law_holds
abbrev s__law_holds : Stmt := topS 23
abbrev P__law_holds : List Str := ["text"]
theorem sc__law_holds : FnScope N__law_holds P__law_holds (defScope s__law_holds) := ⟨rfl, rfl, rfl, by decide +kernel, rfl, by decide +kernel, by decide +kernel⟩
/-! the suite of _law_holds -/
def tryOf : Stmt → List Stmt
  | .Try _ [.ExceptHandler _ _ b _] _ _ _ => b
  | _ => []
def ts__law_holds (K : PySem.W.Frag) (c : Addr) (a : Addr) (cls : Value) (d : Option Addr) : TS :=
  tRet (tOp (rEqD K) (tTup (tCons (tXf a cls d c "line" (tVar 3)) (tCons (tXf a cls d c "place" (tVar 3)) tNil))) (tVar 1))
theorem hsu__law_holds {f : Addr} {cdv : Value} {A : Around} {outer : List PySem.Env} {s : Shared} {H : Hp} {E : XK} 
  {c_BadText : Addr} (x_BadText : XDn P w K mg base "BadText" c_BadText (["line", "place"] : List Str) okd_BadText 1)
  (sc : FnScope N__law_holds P__law_holds (defScope s__law_holds))
  (hr : Room 4 (A.deeper (envOfC "_law_holds" (defScope s__law_holds) s.heap.objs.size f cdv))) :
  ∀ (a : Addr) (oe : Obj) (cls : Value) (d : Option Addr) (pn : List (Addr × Obj)), Zc cls d oe → (∃ vs, oe.data = .fields vs) → PSs ((ctOf P w K mg base xc N__law_holds P__law_holds "_law_holds" s__law_holds f cdv A outer s H E 4 sc hr).X.suite a ((a, oe) :: pn)) (tryOf ((defBody s__law_holds).getD 1 (.Pass ⟨0, 0, 0, 0⟩))) (ts__law_holds K c_BadText a cls d) := by
  intro a oe cls d pn hz hf
  have hu := (ctOf P w K mg base xc N__law_holds P__law_holds "_law_holds" s__law_holds f cdv A outer s H E 4 sc hr).hu
  exact pss_one (ps_ret (pe_cmpR (op_eqD (Nat.lt_of_le_of_lt (Nat.add_le_add_left (by decide) _) hu)) (pe_tup (pa_cons (pe_xf x_BadText.xf (x_BadText.no _ (by simp)) hz hf (pv 3)) (pa_cons (pe_xf x_BadText.xf (x_BadText.no _ (by simp)) hz hf (pv 3)) pa_nil))) (pv 1) (nomark _)))
theorem hse__law_holds  {c_BadText : Addr} (hxc : xc "BadText" = some (c_BadText, (["line", "place"] : List Str))) {C : Ct} (hC : C.xc = xc) (hK : C.X.K = K) :
  ∀ B F own H σ ρ ds a cls d E G, SInv C.X.K B F own H σ ρ → WOk C B F → XOk C.X.K C.xc F "BadText" ds cls d → cls = .ref c_BadText → H a = none → 3 < σ.length → σ[3]? = some (some (.ref a)) → EndOk C.X.K B F E G → su__law_holds ds ρ E → ts__law_holds K c_BadText a cls d G σ H := by
  subst hC
  subst hK
  intro B F own H σ ρ ds a cls d E G I w xo ec ha hl e3 eo z
  obtain ⟨i, j, due, rfl, e1, sh, z⟩ := z
  obtain ⟨c, fn, dd, vs, q1, q2, q3, q4, q5, q6⟩ := xo
  rw [hxc] at q1
  cases q1
  have hl1 : 1 < σ.length := by omega
  obtain ⟨v1, hv1, dv⟩ : ∃ v, σ[1]? = some (some v) ∧ Rp C.X.K F v due := by
    obtain ⟨a0, hv, dv⟩ := I.sl 1 _ _ e1 (List.getElem?_eq_getElem hl1)
    exact ⟨a0, by rw [List.getElem?_eq_getElem hl1, hv], dv⟩
  have hvs : vs = [.int i, .int j] := by
    match vs, q5 with
    | [x, y], q5 =>
      cases q5 with
      | cons h t =>
        cases t with
        | cons h2 t2 =>
          cases h
          cases h2
          rfl
  subst hvs
  have hsz : (1000 : Nat) < sizeLine := by rw [sizeLine_eq]; decide
  refine ⟨.ref a, e3, rfl, ec, dd, _, .int i, q3, I.fh dd _ q4, by rfl, .ref a, e3, rfl, ec, dd, _, .int j, q3, I.fh dd _ q4, by rfl, by show 2 ≤ sizeLine; omega, fun p np => ?_⟩
  have al := Al.one (F := F) (o := .tup [.int i, .int j]) I.fh np
  have I2 := I.al al
  have rt : Rp C.X.K (upd F p (.tup [.int i, .int j])) (.ref p) (.tuple [.int i, .int j]) := .tup (.inl (.inl upd_same)) (.cons (.int _) (.cons (.int _) .nil))
  refine ⟨v1, hv1, .tuple [.int i, .int j], due, (dp_mono I2.fh rt).dp, (dp_mono I2.fh (dp_mono al.ff dv)).dp, rfl, sh, ?_⟩
  exact eo.rt _ _ _ _ _ _ _ I2 al.ff (.bl _) z
theorem h__law_holds {f : Addr} {cdv : Value} {A : Around} {outer : List PySem.Env} {s : Shared} {H : Hp} {E : XK} (bl : Bl mg)
  (d__law_read : Dn P w K mg base "_law_read" 3 P__law_read (spF K p__law_read))
  (d_read_web : DnX P w K mg base "read_web" 4 P_read_web (spX K xc p_read_web))
  (d_is_web : Dn P w K mg base "is_web" 2 P_is_web (spF K p_is_web))
  (d_show_web : Dn P w K mg base "show_web" 2 P_show_web (spF K p_show_web))
  {c_BadText : Addr} (x_BadText : XDn P w K mg base "BadText" c_BadText (["line", "place"] : List Str) okd_BadText 1) (hxc_BadText : xc "BadText" = some (c_BadText, (["line", "place"] : List Str)))
  (hr : Room 4 (A.deeper (envOfC "_law_holds" (defScope s__law_holds) s.heap.objs.size f cdv))) :
  HSs (ctOf P w K mg base xc N__law_holds P__law_holds "_law_holds" s__law_holds f cdv A outer s H E 4 sc__law_holds hr) (defBody s__law_holds) b__law_holds :=
 (hss_cons (hs_set_of (fun h => ps_set (i := 1) sc__law_holds.nd rfl (.inl rfl) h) (he_callD d__law_read (Nat.le_of_ble_eq_true rfl) (by rfl) (ha_cons (p := true) (q := true) (hx_var (pv 0)) ha_nil)))
 (hss_one (hs_try x_BadText hxc_BadText rfl rfl rfl rfl (by rfl) (by decide) (fun W wx pn xe tk po => (hss_cons (hs_set_of (fun h => ps_set (i := 2) sc__law_holds.nd rfl (.inl rfl) h) (he_callX d_read_web (Nat.le_of_ble_eq_true rfl) tk (by rfl) (ha_cons (p := true) (q := true) (hx_var (pv 0)) ha_nil)))
 (hss_one (hs_ret (he_and (p := true) (q := true) (he_isi boot_tuple (by rfl) bl.isinstance (by rfl) bl.tuple (hx_var (pv 2))) (he_and (p := true) (q := true) (he_two (p := true) (q := true) (fun a b => pe_cmpR op_eqU a b (nomark _)) o_eqU (hx_var (pv 2)) (hx_var (pv 1))) (he_and (p := true) (q := true) (he_two (p := true) (q := true) (fun a b => pe_cmpR op_isBl a b (nomark _)) o_isB (he_callD d_is_web (Nat.le_of_ble_eq_true rfl) (by rfl) (ha_cons (p := true) (q := true) (hx_var (pv 2)) ha_nil)) he_bool) (he_b1 (he_two (p := true) (q := true) (fun a b => pe_cmpR op_eqU a b (nomark _)) o_eqU (he_callD d_show_web (Nat.le_of_ble_eq_true rfl) (by rfl) (ha_cons (p := true) (q := true) (hx_var (pv 2)) ha_nil)) (hx_var (pv 0))))))))))) (hsu__law_holds x_BadText sc__law_holds hr) (hse__law_holds hxc_BadText rfl rfl))))
-- _law_bent
abbrev s__law_bent : Stmt := topS 24
abbrev P__law_bent : List Str := ["state", "text"]
theorem sc__law_bent : FnScope N__law_bent P__law_bent (defScope s__law_bent) := ⟨rfl, rfl, rfl, by decide +kernel, rfl, by decide +kernel, by decide +kernel⟩
theorem h__law_bent {f : Addr} {cdv : Value} {A : Around} {outer : List PySem.Env} {s : Shared} {H : Hp} {E : XK} (bl : Bl mg)
  (d__law_take : Dn P w K mg base "_law_take" 1 P__law_take (spS K p__law_take))
  (d__law_pick : Dn P w K mg base "_law_pick" 2 P__law_pick (spS K p__law_pick))
  (hr : Room 2 (A.deeper (envOfC "_law_bent" (defScope s__law_bent) s.heap.objs.size f cdv))) :
  HSs (ctOf P w K mg base xc N__law_bent P__law_bent "_law_bent" s__law_bent f cdv A outer s H E 2 sc__law_bent hr) (defBody s__law_bent) b__law_bent :=
 (hss_cons (hs_set_of (fun h => ps_set (i := 2) sc__law_bent.nd rfl (.inl rfl) h) (hx_new (hn_lst (ha_cons (p := true) (q := true) he_str (ha_cons (p := true) (q := true) he_str (ha_cons (p := true) (q := true) he_str (ha_cons (p := true) (q := true) he_str (ha_cons (p := true) (q := true) he_str (ha_cons (p := true) (q := true) he_str (ha_cons (p := true) (q := true) he_str (ha_cons (p := true) (q := true) he_str (ha_cons (p := true) (q := true) he_str (ha_cons (p := true) (q := true) he_str (ha_cons (p := true) (q := true) he_str (ha_cons (p := true) (q := true) he_str (ha_cons (p := true) (q := true) he_str (ha_cons (p := true) (q := true) he_str ha_nil)))))))))))))))))
 (hss_cons (hs_setK_of (fun h => ps_set (i := 3) sc__law_bent.nd rfl (.inl rfl) h) (hk_n (hn_split (p := true) (q := true) (hx_var (pv 1)) he_str)))
 (hss_cons (hs_parK_of (fun a b => ps_par (i := 4) (j := 5) rfl sc__law_bent.nd rfl rfl (by decide) rfl rfl (pa_cons a (pa_cons b pa_nil)) (by rfl)) (hk_e (he_callSD d__law_take (Nat.le_of_ble_eq_true rfl) (by rfl) (pv 0) (ha_cons (p := true) (q := true) (he_callBR c_len boot_len o_len (by rfl) bl.len (hx_own (pv 3))) ha_nil))) (hk_e (he_callSD d__law_take (Nat.le_of_ble_eq_true rfl) (by rfl) (pv 0) (ha_cons (p := true) (q := true) he_int ha_nil))))
 (hss_cons (hs_setK_of (fun h => ps_set (i := 6) sc__law_bent.nd rfl (.inl rfl) h) (hk_n (hn_split (p := true) (q := true) (he_twoR (fun a b => pe_ix ix_seq a b (fun _ _ => rfl)) o_ix (hx_own (pv 3)) (hx_r (hx_var (pv 4)))) he_str)))
 (hss_cons (hs_set_of (fun h => ps_set (i := 7) sc__law_bent.nd rfl (.inl rfl) h) (he_callSD d__law_take (Nat.le_of_ble_eq_true rfl) (by rfl) (pv 0) (ha_cons (p := true) (q := true) (he_callBR c_len boot_len o_len (by rfl) bl.len (hx_own (pv 6))) ha_nil)))
 (hss_cons (hs_if (ht_two (p := true) (q := true) (fun a b => pt_cmpR op_lt a b (nomark _)) o_lt (hx_var (pv 5)) he_int)
 (hss_one (hs_setix_of (fun a b => ps_asg a b) (pv 6) (he_callSD d__law_pick (Nat.le_of_ble_eq_true rfl) (by rfl) (pv 0) (ha_cons (p := true) (q := true) (hx_var (pv 2)) ha_nil)) (hx_var (pv 7))))
 hss_nil)
 (hss_cons (hs_if (ht_two (p := true) (q := true) (fun a b => pt_cmpR op_eqU a b (nomark _)) o_eqU (hx_var (pv 5)) he_int)
 (hss_one (hs_insert (pv 6) (ha_cons (p := true) (q := false) (hx_var (pv 7)) (ha_cons (p := false) (q := true) (he_callSD d__law_pick (Nat.le_of_ble_eq_true rfl) (by rfl) (pv 0) (ha_cons (p := true) (q := true) (hx_var (pv 2)) ha_nil)) ha_nil))))
 hss_nil)
 (hss_cons (hs_if (ht_two (p := true) (q := true) (fun a b => pt_cmpR op_eqU a b (nomark _)) o_eqU (hx_var (pv 5)) he_int)
 (hss_one (hs_expr (he_popAt (pv 6) (hx_var (pv 7)))))
 hss_nil)
 (hss_cons (hs_setix_of (fun a b => ps_asg a b) (pv 3) (he_join (p := true) he_str (hx_own (pv 6))) (hx_var (pv 4)))
 (hss_cons (hs_if (ht_two (p := true) (q := true) (fun a b => pt_cmpR op_eqU a b (nomark _)) o_eqU (hx_var (pv 5)) he_int)
 (hss_one (hs_insert (pv 3) (ha_cons (p := false) (q := true) (he_callSD d__law_take (Nat.le_of_ble_eq_true rfl) (by rfl) (pv 0) (ha_cons (p := true) (q := true) (he_callBR c_len boot_len o_len (by rfl) bl.len (hx_own (pv 3))) ha_nil)) (ha_cons (p := true) (q := true) (he_twoR (fun a b => pe_ix ix_seq a b (fun _ _ => rfl)) o_ix (hx_own (pv 3)) (hx_r (hx_var (pv 4)))) ha_nil))))
 hss_nil)
 (hss_cons (hs_if (ht_two (p := true) (q := true) (fun a b => pt_cmpR op_eqU a b (nomark _)) o_eqU (hx_var (pv 5)) he_int)
 (hss_one (hs_expr (he_popAt (pv 3) (hx_var (pv 4)))))
 hss_nil)
 (hss_cons (hs_set_of (fun h => ps_set (i := 8) sc__law_bent.nd rfl (.inl rfl) h) (he_join (p := true) he_str (hx_own (pv 3))))
 (hss_one (hs_ret (he_if (p := true) (q := true) (r := true) (ht_two (p := true) (q := true) (fun a b => pt_cmpR op_eqU a b (nomark _)) o_eqU (hx_var (pv 5)) he_int) (he_slice (p := true) (q := true) (r := true) (hx_var (pv 8)) ho_none (ho_some (he_one (fun h => ⟨_, pe_un un_neg h, fun _ _ _ z => z⟩) o_neg he_int))) (hx_var (pv 8)))))))))))))))))
-- law
abbrev s_law : Stmt := topS 25
abbrev P_law : List Str := ["script"]
theorem sc_law : FnScope N_law P_law (defScope s_law) := ⟨rfl, rfl, rfl, by decide +kernel, rfl, by decide +kernel, by decide +kernel⟩
theorem h_law {f : Addr} {cdv : Value} {A : Around} {outer : List PySem.Env} {s : Shared} {H : Hp} {E : XK} {W : Str → List D → Prop} (bl : Bl mg)
  (d__law_state : Dn P w K mg base "_law_state" 1 P__law_state (spStart K))
  (d__law_pick : Dn P w K mg base "_law_pick" 2 P__law_pick (spS K p__law_pick))
  (d__law_take : Dn P w K mg base "_law_take" 1 P__law_take (spS K p__law_take))
  (d_show_web : Dn P w K mg base "show_web" 2 P_show_web (spF K p_show_web))
  (d_read_web : DnX P w K mg base "read_web" 4 P_read_web (spX K xc p_read_web))
  (d__law_bent : Dn P w K mg base "_law_bent" 3 P__law_bent (spS K p__law_bent))
  (d__law_holds : Dn P w K mg base "_law_holds" 5 P__law_holds (spF K p__law_holds))
  (hr : Room 5 (A.deeper (envOfC "law" (defScope s_law) s.heap.objs.size f cdv))) :
  HSs (ctOfX P w K mg base xc N_law P_law "law" s_law f cdv A outer s H E W 5 sc_law hr) (defBody s_law) (b_law fun nm es _ => W nm es) :=
 (hss_cons (hs_start d__law_state (fun h => ps_set (i := 1) sc_law.nd rfl (.inr rfl) h) (Nat.le_of_ble_eq_true rfl) (by rfl) (pv 0))
 (hss_cons (hs_for (vs := [2]) (hi_rng1 (by rfl) bl.range (ha_cons (p := true) (q := true) he_int ha_nil)) (hg_name (pg_name (i := 2) sc_law.nd rfl (.inl rfl)) (by decide))
 (hss_cons (hs_parT_of (fun a b => ps_asg (pe_tup (pa_cons a (pa_cons b pa_nil))) (pg_tup (n := 2) rfl (pgs_cons (pg_name (i := 3) sc_law.nd rfl (.inl rfl)) (pgs_cons (pg_name (i := 4) sc_law.nd rfl (.inr rfl)) pgs_nil)))) (hk_e (he_callSD d__law_take (Nat.le_of_ble_eq_true rfl) (by rfl) (pv 1) (ha_cons (p := false) (q := true) (he_callSD d__law_pick (Nat.le_of_ble_eq_true rfl) (by rfl) (pv 1) (ha_cons (p := true) (q := true) (hx_new (hn_lst (ha_cons (p := true) (q := true) he_int (ha_cons (p := true) (q := true) he_int (ha_cons (p := true) (q := true) he_int ha_nil))))) ha_nil)) ha_nil))) (hk_e (he_callSD d__law_pick (Nat.le_of_ble_eq_true rfl) (by rfl) (pv 1) (ha_cons (p := true) (q := true) (hx_new (hn_lst (ha_cons (p := true) (q := true) he_int (ha_cons (p := true) (q := true) he_int (ha_cons (p := true) (q := true) he_int ha_nil))))) ha_nil))))
 (hss_cons (hs_parK_of (fun a b => ps_par (i := 5) (j := 6) rfl sc_law.nd rfl rfl (by decide) rfl rfl (pa_cons a (pa_cons b pa_nil)) (by rfl)) (hk_e (he_two (p := true) (q := true) (fun a b => pe_op op_addU a b) o_addU (he_two (p := true) (q := true) (fun a b => pe_op op_addU a b) o_addU he_str (he_callT call_str_int boot_str o_str (by rfl) bl.str (hx_var (pv 3)))) he_str)) (hk_e (hx_new (hn_lst ha_nil))))
 (hss_cons (hs_for (vs := [7]) (hi_rng1 (by rfl) bl.range (ha_cons (p := true) (q := true) (hx_var (pv 3)) ha_nil)) (hg_name (pg_name (i := 7) sc_law.nd rfl (.inr rfl)) (by decide))
 (hss_cons (hs_setcompF_of (fun a b c d => ps_setLc (i := 8) rfl sc_law.nd rfl rfl (sw_true rfl rfl rfl (by decide +kernel)) a (blkOk_by (own := [("b", 13)]) (N := N_law) (sc := defScope s_law) (by decide +kernel)) b c d) (hi_rng2 (by rfl) bl.range (ha_cons (p := true) (q := true) (he_two (p := true) (q := true) (fun a b => pe_op op_addU a b) o_addU (hx_var (pv 7)) he_int) (ha_cons (p := true) (q := true) (hx_var (pv 3)) ha_nil))) rfl (fun _ _ _ _ _ => (hg_name (pg_name (i := 13) sc_law.nd rfl (.inl rfl)) (by decide))) (fun _ _ _ _ _ => (hts_one (ht_two (p := false) (q := true) (fun a b => pt_cmpR op_eqU a b (nomark _)) o_eqU (he_callSD d__law_take (Nat.le_of_ble_eq_true rfl) (by rfl) (pv 1) (ha_cons (p := true) (q := true) (hx_var (pv 4)) ha_nil)) he_int))) (fun _ _ _ _ _ => (hx_var (pv 13))))
 (hss_cons (hs_set_of (fun h => ps_set (i := 6) sc_law.nd rfl (.inl rfl) h) (hx_new (hn_two (p := true) (q := true) (fun a b => pe_op op_cat a b) o_cat (hx_var (pv 6)) (hx_new (by exact hn_comp (p := true) (q := true) (p2 := true) (p3 := true) (hi_seq (hx_var (pv 8))) (blkOk_by (own := [("b", 13)]) (N := N_law) (sc := defScope s_law) (by decide +kernel)) rfl (fun _ _ _ _ _ => (hg_name (pg_name (i := 13) sc_law.nd rfl (.inl rfl)) (by decide))) (fun _ _ _ _ _ => hts_nil) (fun _ _ _ _ _ => (he_tup (ha_cons (p := true) (q := true) (hx_var (pv 7)) (ha_cons (p := true) (q := true) (hx_var (pv 13)) ha_nil)))))))))
 (hss_one (hs_if (ht_two (p := true) (q := true) (fun a b => pt_cmpR op_neU a b (nomark _)) o_neU (hx_var (pv 8)) (hx_new (hn_lst ha_nil)))
 (hss_one (hs_set_of (fun h => ps_set (i := 5) sc_law.nd rfl (.inl rfl) h) (he_two (p := true) (q := true) (fun a b => pe_op op_addU a b) o_addU (he_two (p := true) (q := true) (fun a b => pe_op op_addU a b) o_addU (hx_var (pv 5)) (he_join (p := true) he_str (hx_r (hx_new (hn_two (p := true) (q := true) (fun a b => pe_op op_cat a b) o_cat (hx_new (hn_lst (ha_cons (p := true) (q := true) (he_callT call_str_int boot_str o_str (by rfl) bl.str (hx_var (pv 7))) (ha_cons (p := true) (q := true) he_str ha_nil)))) (hx_new (by exact hn_comp (p := true) (q := true) (p2 := true) (p3 := true) (hi_seq (hx_var (pv 8))) (blkOk_by (own := [("b", 13)]) (N := N_law) (sc := defScope s_law) (by decide +kernel)) rfl (fun _ _ _ _ _ => (hg_name (pg_name (i := 13) sc_law.nd rfl (.inl rfl)) (by decide))) (fun _ _ _ _ _ => hts_nil) (fun _ _ _ _ _ => (he_callT call_str_int boot_str o_str (by rfl) bl.str (hx_var (pv 13))))))))))) he_str)))
 hss_nil)))))
 (hss_cons (hs_set_of (fun h => ps_set (i := 9) sc_law.nd rfl (.inl rfl) h) (he_tup (ha_cons (p := true) (q := true) he_str (ha_cons (p := true) (q := true) (hx_var (pv 3)) (ha_cons (p := true) (q := true) (he_callT call_tuple_of boot_tuple o_tuple (by rfl) bl.tuple (hx_var (pv 6))) ha_nil)))))
 (hss_cons (hs_if (HW.ht (hw_or (p := true) (q := true) (ht_two (p := true) (q := true) (fun a b => pt_cmpR op_neU a b (nomark _)) o_neU (he_callD d_show_web (Nat.le_of_ble_eq_true rfl) (by rfl) (ha_cons (p := true) (q := true) (hx_var (pv 9)) ha_nil)) (hx_var (pv 5))) (hw_or1 (ht_two (p := true) (q := true) (fun a b => pt_cmpR op_neU a b (nomark _)) o_neU (he_callX d_read_web (Nat.le_of_ble_eq_true rfl) ctx_takes (by rfl) (ha_cons (p := true) (q := true) (hx_var (pv 5)) ha_nil)) (hx_var (pv 9))))))
 (hss_one (hs_ret he_bool))
 hss_nil)
 (hss_one (hs_for (vs := [10]) (hi_rng1 (by rfl) bl.range (ha_cons (p := true) (q := true) he_int ha_nil)) (hg_name (pg_name (i := 10) sc_law.nd rfl (.inl rfl)) (by decide))
 (hss_cons (hs_set_of (fun h => ps_set (i := 11) sc_law.nd rfl (.inl rfl) h) (he_callSD d__law_bent (Nat.le_of_ble_eq_true rfl) (by rfl) (pv 1) (ha_cons (p := true) (q := true) (hx_var (pv 5)) ha_nil)))
 (hss_one (hs_if (HW.ht (hw_or (p := true) (q := false) (ht_not (ht_val (he_callD d__law_holds (Nat.le_of_ble_eq_true rfl) (by rfl) (ha_cons (p := true) (q := true) (hx_var (pv 11)) ha_nil)))) (hw_or1 (ht_not (ht_val (he_callD d__law_holds (Nat.le_of_ble_eq_true rfl) (by rfl) (ha_cons (p := false) (q := true) (he_callSD d__law_bent (Nat.le_of_ble_eq_true rfl) (by rfl) (pv 1) (ha_cons (p := true) (q := true) (hx_var (pv 11)) ha_nil)) ha_nil)))))))
 (hss_one (hs_ret he_bool))
 hss_nil)))))))))))
 (hss_cons (hs_set_of (fun h => ps_set (i := 12) sc_law.nd rfl (.inl rfl) h) (hx_new (hn_lst (ha_cons (p := true) (q := true) he_str (ha_cons (p := true) (q := true) he_str (ha_cons (p := true) (q := true) he_str (ha_cons (p := true) (q := true) he_str (ha_cons (p := true) (q := true) he_str (ha_cons (p := true) (q := true) he_str (ha_cons (p := true) (q := true) he_str (ha_cons (p := true) (q := true) he_str (ha_cons (p := true) (q := true) he_str (ha_cons (p := true) (q := true) he_str (ha_cons (p := true) (q := true) he_str ha_nil))))))))))))))
 (hss_one (hs_ret (he_callB (cr_all rfl) boot_all o_all (by rfl) bl.all (hx_new (by exact hn_comp (p := true) (q := true) (p2 := true) (p3 := true) (hi_seq (hx_new (hn_two (p := true) (q := true) (fun a b => pe_op op_cat a b) o_cat (hx_var (pv 12)) (hx_new (hn_lst (ha_cons (p := true) (q := true) he_str (ha_cons (p := true) (q := true) he_str (ha_cons (p := true) (q := true) he_str (ha_cons (p := true) (q := true) he_str (ha_cons (p := true) (q := true) he_str (ha_cons (p := true) (q := true) he_str (ha_cons (p := true) (q := true) he_str ha_nil)))))))))))) (blkOk_by (own := [("one", 14)]) (N := N_law) (sc := defScope s_law) (by decide +kernel)) rfl (fun _ _ _ _ _ => (hg_name (pg_name (i := 14) sc_law.nd rfl (.inl rfl)) (by decide))) (fun _ _ _ _ _ => hts_nil) (fun _ _ _ _ _ => (he_callD d__law_holds (Nat.le_of_ble_eq_true rfl) (by rfl) (ha_cons (p := true) (q := true) (hx_var (pv 14)) ha_nil)))))))))))
end
end TL
set_option Elab.async false
set_option linter.all false
set_option maxRecDepth 100000
set_option maxHeartbeats 4000000
namespace TL
open PySem PySem.Spec PyProof.Rows L2
theorem pl_is_whole : ∀ ds (R : D → Prop), p_is_whole ds R → fBody 3 (N_is_whole.length - 3) b_is_whole ds R := by
  rintro _ R ⟨v, lo, hi, rfl, h⟩
  refine ⟨rfl, ?_⟩
  show b_is_whole [.fz (.int v), .fz (.int lo), .fz (.int hi)] _
  refine st_ret (ev_and (ev_1 (ev_v rfl) (v_isiI (k := true))) fun _ => ev_and (ev_not (ev_1 (ev_v rfl) (v_isiI (k := false)))) fun _ => ev_ch (ev_v rfl) (ev_v rfl) v_leI fun _ => ⟨ev_v rfl, v_leI⟩) ?_
  simpa using h
def digsS : Str := "0123456789"
theorem digs_tl : tl digsS = [48, 49, 50, 51, 52, 53, 54, 55, 56, 57] := by decide +kernel
theorem digs_mem {c : Nat} : c ∈ tl digsS ↔ 48 ≤ c ∧ c ≤ 57 := by
  rw [digs_tl]
  simp
  omega
theorem numD_none {w : Str} {lo hi : Int} (h : numIn w lo hi = none) : numD w lo hi = .none := by unfold numD; rw [h]
theorem numD_some {w : Str} {lo hi : Int} {n : Nat} (h : numIn w lo hi = some n) : numD w lo hi = .int n := by unfold numD; rw [h]
def isDg (c : Nat) : Bool := decide (c ∈ tl digsS)
theorem isDg_iff {c : Nat} : isDg c = true ↔ 48 ≤ c ∧ c ≤ 57 := by
  unfold isDg
  rw [decide_eq_true_eq]
  exact digs_mem
def dgD : D → Bool
  | .str z => match tl z with | c :: _ => isDg c | [] => false
  | _ => false
theorem bls_dg (l : List Nat) : blsD ((l.map fun c => PyData.str ⟨#[c]⟩).map fun d => .bool (dgD d)) = some (l.map isDg) := by
  have e : (l.map fun c => PyData.str ⟨#[c]⟩).map (fun d => PyData.bool (dgD d)) = (l.map isDg).map PyData.bool := by
    rw [List.map_map, List.map_map]
    rfl
  rw [e]
  exact blsD_map _
theorem all_dg {l : List Nat} : (l.map isDg).all id = true ↔ ∀ c ∈ l, 48 ≤ c ∧ c ≤ 57 := by
  rw [List.all_map, List.all_eq_true]
  exact ⟨fun h c hc => isDg_iff.1 (h c hc), fun h c hc => isDg_iff.2 (h c hc)⟩
/-- what is known of a text of digits -/
theorem dg_int {w : Str} (h : ∀ c ∈ tl w, 48 ≤ c ∧ c ≤ 57) (h1 : 1 ≤ w.length) (h2 : w.length ≤ 3) : intText? w = some ((NumText.digitsVal (tl w) : Nat) : Int) :=
  intText_digits h (fun e => by rw [len_tl] at h1; have e' : tl w = [] := e; rw [e'] at h1; simp at h1) (by omega)
theorem numIn_no {w : Str} {lo hi : Int} (h : ¬ (1 ≤ w.length ∧ w.length ≤ 3 ∧ (∀ c ∈ tl w, 48 ≤ c ∧ c ≤ 57) ∧ ((tl w).head? = some 48 → tl w = [48]))) : numIn w lo hi = none := by
  unfold numIn numO
  rw [← len_tl, if_neg h]
theorem numIn_yes {w : Str} {lo hi : Int} (h : 1 ≤ w.length ∧ w.length ≤ 3 ∧ (∀ c ∈ tl w, 48 ≤ c ∧ c ≤ 57) ∧ ((tl w).head? = some 48 → tl w = [48])) :
    numIn w lo hi = if lo ≤ ((NumText.digitsVal (tl w) : Nat) : Int) ∧ ((NumText.digitsVal (tl w) : Nat) : Int) ≤ hi then some (NumText.digitsVal (tl w)) else none := by
  unfold numIn numO
  rw [← len_tl, if_pos h]
theorem pl_number_in : ∀ ds (R : D → Prop), p_number_in ds R → fBody 3 (N_number_in.length - 3) b_number_in ds R := by
  rintro _ R ⟨w, lo, hi, rfl, hl, h⟩
  have hz : w.length ≤ sizeLine := by rw [sizeLine_eq]; unfold big at hl; omega
  refine ⟨rfl, ?_⟩
  show b_number_in [.fz (.str w), .fz (.int lo), .fz (.int hi), .un] _
  have lw := len_tl w
  have len3 : (1 ≤ (w.length : Int) ∧ (w.length : Int) ≤ 3) → 1 ≤ w.length ∧ w.length ≤ 3 := fun z => by omega
  refine st_if (tv_o (tv_n (tv_b (ev_ch ev_k (ev_1 (ev_v rfl) (v_lenS hz)) v_leI fun _ => ⟨ev_k, v_leI⟩)))
    fun _ => tv_n (tv_b (ev_1 (ev_N (lv_map1 (fun d => .bool (dgD d)) (lv_txt (ev_v rfl)) (by rw [List.length_map, ← lw]; omega) (fun _ => rfl) fun d hd => ?_)) (v_all (bls_dg (tl w)))))) (fun c => ?_) fun c => ?_
  · obtain ⟨k, _, rfl⟩ := List.mem_map.mp hd
    exact ev_2 (ev_v rfl) ev_k v_inC
  · refine st_ret ev_k ?_
    show R .none
    rw [numD_none (numIn_no fun z => ?_)] at h
    · exact h
    · obtain ⟨a, b, cc, _⟩ := z
      have q := all_dg.2 cc
      rw [q] at c
      simp at c
      omega
  · rw [Bool.or_eq_false_iff, Bool.not_eq_false', Bool.not_eq_false', Bool.and_eq_true, decide_eq_true_eq, decide_eq_true_eq] at c
    obtain ⟨⟨c1, c2⟩, c3⟩ := c
    have dg : ∀ c ∈ tl w, 48 ≤ c ∧ c ≤ 57 := all_dg.1 c3
    have l1 : 1 ≤ w.length := by omega
    have l2 : w.length ≤ 3 := by omega
    have hi' := dg_int dg l1 l2
    have hne : tl w ≠ [] := fun e => by rw [lw, e] at l1; simp at l1
    obtain ⟨c0, r0, e0⟩ := List.exists_cons_of_ne_nil hne
    have ix0 : atI (tl w) 0 = some c0 := by rw [e0]; exact atI_nat (j := 0) rfl
    have e1 : decide ((⟨#[c0]⟩ : Str) = "0") = decide ((tl w).head? = some 48) := by
      rw [e0]
      refine decide_eq_decide.2 ⟨fun z => ?_, fun z => ?_⟩
      · have z2 : [c0] = [48] := congrArg tl z
        simpa using z2
      · simp at z
        rw [z]
        rfl
    have e2 : (w = "0") ↔ tl w = [48] := ⟨fun e => by rw [e]; rfl, fun e => ext_tl (by rw [e]; rfl)⟩
    have vi := v_intS hi' (by omega)
    refine st_if (tv_o (tv_a (tv_b (ev_2 (ev_2 (ev_v rfl) ev_k (v_ixS hz ix0)) ev_k v_eqS)) fun _ => tv_b (ev_2 (ev_v rfl) ev_k v_neS))
      fun _ => tv_n (tv_b (ev_ch (ev_v rfl) (ev_1 (ev_v rfl) vi) v_leI fun _ => ⟨ev_v rfl, v_leI⟩))) (fun c => ?_) fun c => ?_
    · refine st_ret ev_k ?_
      show R .none
      rw [numD_none] at h
      · exact h
      · by_cases hc : (tl w).head? = some 48 → tl w = [48]
        · rw [numIn_yes ⟨l1, l2, dg, hc⟩, if_neg]
          intro z
          rw [e1] at c
          simp [e2, z.1, z.2] at c
          exact c.2 (hc c.1)
        · exact numIn_no fun z => hc z.2.2.2
    · refine st_ret (ev_1 (ev_v rfl) vi) ?_
      show R _
      rw [e1] at c
      simp [e2] at c
      rw [numD_some (n := NumText.digitsVal (tl w))] at h
      · exact h
      · rw [numIn_yes ⟨l1, l2, dg, c.1⟩, if_pos c.2]
end TL
set_option Elab.async false
set_option linter.all false
set_option maxRecDepth 100000
set_option maxHeartbeats 4000000
namespace TL
open PySem PySem.Spec PyProof.Rows L2
def inDg : D → Bool
  | .str z => match tl z with | c :: _ => !isDg c | [] => false
  | _ => false
theorem filt_dg {l : List Nat} : ((l.map fun c => PyData.str ⟨#[c]⟩).filter inDg = []) ↔ ∀ c ∈ l, 48 ≤ c ∧ c ≤ 57 := by
  rw [List.filter_eq_nil_iff]
  constructor
  · intro h c hc
    have q := h _ (List.mem_map_of_mem hc)
    have q2 : ¬ (!isDg c) = true := q
    exact isDg_iff.1 (by simpa using q2)
  · intro h d hd
    obtain ⟨c, hc, rfl⟩ := List.mem_map.mp hd
    show ¬ (!isDg c) = true
    rw [isDg_iff.2 (h c hc)]
    simp
theorem nS_log {n : Nat} (h : n < 1000) : ((n : Nat) : Int).natAbs.log2 < 1920 := log2_small (by simp; omega)
theorem digs_small {w : Str} (h : ∀ c ∈ tl w, 48 ≤ c ∧ c ≤ 57) (h2 : w.length ≤ 3) : NumText.digitsVal (tl w) < 1000 := by
  rw [len_tl] at h2
  match hw : tl w, h2, h with
  | [], _, _ => simp [NumText.digitsVal]
  | [a], _, h => have := h a (by simp [hw]); simp [NumText.digitsVal]; omega
  | [a, b], _, h => have := h a (by simp [hw]); have := h b (by simp [hw]); simp [NumText.digitsVal]; omega
  | [a, b, c], _, h => have := h a (by simp [hw]); have := h b (by simp [hw]); have := h c (by simp [hw]); simp [NumText.digitsVal]; omega
  | _ :: _ :: _ :: _ :: _, h2, _ => simp at h2
theorem canon_iff {w : Str} (h : ∀ c ∈ tl w, 48 ≤ c ∧ c ≤ 57) (h1 : 1 ≤ w.length) (h2 : w.length ≤ 3) : nS (NumText.digitsVal (tl w)) = w ↔ ((tl w).head? = some 48 → tl w = [48]) := by
  constructor
  · intro e
    have q := tl_nS (NumText.digitsVal (tl w))
    rw [e] at q
    rw [q]
    exact numL_head
  · intro e
    have q : numO w = some (NumText.digitsVal (tl w)) := by unfold numO; rw [← len_tl, if_pos ⟨h1, h2, h, e⟩]
    exact (numO_some q).2.symm
theorem pl__law_number : ∀ ds (R : D → Prop), p__law_number ds R → fBody 3 (N__law_number.length - 3) b__law_number ds R := by
  rintro _ R ⟨w, lo, hi, rfl, hl, h⟩
  have hz : w.length ≤ sizeLine := by rw [sizeLine_eq]; unfold big at hl; omega
  refine ⟨rfl, ?_⟩
  show b__law_number [.fz (.str w), .fz (.int lo), .fz (.int hi), .un] _
  have lw := len_tl w
  have ee : w = "" ↔ w.length = 0 := ⟨fun e => by rw [e]; rfl, fun e => ext_tl (by
    rw [lw] at e
    rw [List.length_eq_zero_iff.mp e]
    rfl)⟩
  have no : R .none ∨ (1 ≤ w.length ∧ w.length ≤ 3 ∧ (∀ c ∈ tl w, 48 ≤ c ∧ c ≤ 57) ∧ ((tl w).head? = some 48 → tl w = [48])) := by
    by_cases q : (1 ≤ w.length ∧ w.length ≤ 3 ∧ (∀ c ∈ tl w, 48 ≤ c ∧ c ≤ 57) ∧ ((tl w).head? = some 48 → tl w = [48]))
    · exact .inr q
    · rw [numD_none (numIn_no q)] at h
      exact .inl h
  by_cases hd : ∀ c ∈ tl w, 48 ≤ c ∧ c ≤ 57
  · by_cases l12 : 1 ≤ w.length ∧ w.length ≤ 3
    · obtain ⟨l1, l2⟩ := l12
      have hi' := dg_int hd l1 l2
      have vi := v_intS hi' (by omega)
      have hs := digs_small hd l2
      have hc := canon_iff hd l1 l2
      refine st_if (tv_o (tv_b (ev_2 (ev_v rfl) ev_k v_eqS)) fun _ => tv_o (tv_b (ev_2 (ev_1 (ev_v rfl) (v_lenS hz)) ev_k v_gtI)) fun _ =>
        tv_o (tv_b (ev_2 (ev_1 (ev_N (lv_comp1 inDg id (lv_txt (ev_v rfl)) (by rw [List.length_map, ← lw]; omega) (fun _ => rfl) (fun d hd => ?_) fun d _ _ => ev_v rfl)) v_lenL) ev_k v_gtI)) fun _ =>
        tv_o (tv_b (ev_2 (ev_1 (ev_1 (ev_v rfl) vi) (v_str (nS_log hs))) (ev_v rfl) v_neS)) fun _ => tv_n (tv_b (ev_ch (ev_v rfl) (ev_1 (ev_v rfl) vi) v_leI fun _ => ⟨ev_v rfl, v_leI⟩))) (fun c => ?_) fun c => ?_
      · obtain ⟨k, _, rfl⟩ := List.mem_map.mp hd
        exact tv_b (ev_2 (ev_v rfl) ev_k v_inC)
      · refine st_ret ev_k ?_
        show R .none
        rcases no with no | no
        · exact no
        rw [numD_none] at h
        · exact h
        rw [numIn_yes no, if_neg]
        intro z
        have fe := filt_dg.2 hd
        rw [fe] at c
        have h4 := hc.2 no.2.2.2
        unfold nS at h4
        simp [h4, z.1, z.2, ee] at c
        rcases c with c | c | c
        · omega
        · omega
        · exact c h4
      · refine st_ret (ev_1 (ev_v rfl) vi) ?_
        show R _
        simp at c
        obtain ⟨_, _, _, c4, c5⟩ := c
        rw [numD_some (n := NumText.digitsVal (tl w))] at h
        · exact h
        · rw [numIn_yes ⟨l1, l2, hd, hc.1 c4⟩, if_pos c5]
    · have hn : R .none := no.resolve_right fun z => l12 ⟨z.1, z.2.1⟩
      refine st_if (b := true) (Tv.eq (tv_o (tv_b (ev_2 (ev_v rfl) ev_k v_eqS)) fun c => tv_o (b' := true) (tv_b (ev_2 (ev_1 (ev_v rfl) (v_lenS hz)) ev_k v_gtI)) fun c2 => ?_) ?_) (fun _ => st_ret ev_k hn) fun c => nomatch c
      · simp [ee] at c c2
        omega
      · simp [ee]
  · have hn : R .none := no.resolve_right fun z => hd z.2.2.1
    have fe : (((tl w).map fun c => PyData.str ⟨#[c]⟩).filter inDg).length ≠ 0 := fun e => hd (filt_dg.1 (List.length_eq_zero_iff.mp e))
    refine st_if (b := true) (Tv.eq (tv_o (tv_b (ev_2 (ev_v rfl) ev_k v_eqS)) fun _ => tv_o (tv_b (ev_2 (ev_1 (ev_v rfl) (v_lenS hz)) ev_k v_gtI)) fun c1 =>
        tv_o (b' := true) (tv_b (ev_2 (ev_1 (ev_N (lv_comp1 inDg id (lv_txt (ev_v rfl)) (by rw [List.length_map, ← lw]; exact hz) (fun _ => rfl) (fun d hd => ?_) fun d _ _ => ev_v rfl)) v_lenL) ev_k v_gtI)) fun c => ?_) ?_) (fun _ => st_ret ev_k hn) fun c => nomatch c
    · obtain ⟨k, _, rfl⟩ := List.mem_map.mp hd
      exact tv_b (ev_2 (ev_v rfl) ev_k v_inC)
    · rw [List.map_id] at c
      simp only [decide_eq_false_iff_not] at c
      omega
    · simp
end TL
set_option Elab.async false
set_option linter.all false
set_option maxRecDepth 100000
set_option maxHeartbeats 4000000
namespace TL
open PySem PySem.Spec PyProof.Rows L2
theorem cut_strs (ws : List Str) (k : Nat) : cutD (ws.map .str) none (some (k : Int)) = (ws.take k).map .str := by
  rw [cut_pre, List.map_take]
theorem szW_take (ws : List Str) (k : Nat) : szW (ws.take k) ≤ szW ws := by
  unfold szW
  conv => rhs; rw [← List.take_append_drop k ws]
  rw [List.map_append, List.sum_append]
  omega
theorem sum_len (ws : List Str) : (ws.map (·.length)).sum + ws.length = szW ws := by
  unfold szW
  induction ws with
  | nil => rfl
  | cons a t ih => simp; omega
theorem len_szW (ws : List Str) : ws.length ≤ szW ws := sum_ge ws
theorem join_sp {ws : List Str} (h : ws ≠ []) : (Txt.join " " ws).length + 1 = szW ws := sp32.join_len h
theorem join_nil : (Txt.join " " []).length = 0 := rfl
theorem join_room {ws : List Str} (h : szW ws ≤ big) : (ws.map (·.length)).sum + ws.length * (" " : Str).length ≤ 16777216 := by
  have e : (" " : Str).length = 1 := rfl
  rw [e, Nat.mul_one, sum_len]
  unfold big at h
  omega
theorem big_line {n : Nat} (h : n ≤ big) : n ≤ sizeLine := by rw [sizeLine_eq]; unfold big at h; omega
theorem plc_def (ws : List Str) (k : Nat) : plc ws k = szW (ws.take k) + if k < ws.length then 1 else 0 := rfl
theorem pl_place_of : ∀ ds (R : D → Prop), p_place_of ds R → fBody 2 (N_place_of.length - 2) b_place_of ds R := by
  rintro _ R ⟨ws, k, rfl, hne, hk, hs, h⟩
  refine ⟨rfl, ?_⟩
  show b_place_of [.fz (strsT ws), .fz (.int k)] _
  have hs2 := Nat.le_trans (szW_take ws k) hs
  have hjl : (Txt.join " " (ws.take k)).length ≤ big := by
    by_cases e : ws.take k = []
    · rw [e, join_nil]; exact Nat.zero_le _
    · have := join_sp e; omega
  refine st_ret (ev_2 (ev_2 (ev_1 (ev_m ev_k (rv_of (ev_N (Lv.eq (lv_sl (ev_v rfl) ov_no (ov_is (ev_v rfl))) (cut_strs ws k)))) (v_join (join_room hs2))) (v_lenS (big_line hjl))) ev_k v_addI)
    (ev_1 (ev_ch ev_k (ev_v rfl) (fun R z => gLt_int.2 z) fun _ => ⟨ev_1 (ev_v rfl) v_lenL, fun R z => gLt_int.2 z⟩) v_intB) v_addI) ?_
  show R _
  refine Eq.mp (congrArg R ?_) h
  congr 1
  rw [plc_def, List.length_map]
  have hl : 0 < ws.length := List.length_pos_iff.mpr hne
  by_cases k0 : k = 0
  · subst k0
    simp [szW, hl, join_nil]
  · have e : ws.take k ≠ [] := fun z => by
      rw [List.take_eq_nil_iff] at z
      rcases z with z | z
      · exact k0 z
      · exact hne z
    have q := join_sp e
    by_cases c : k < ws.length
    · simp [c, show (0 : Int) < k by omega]
      omega
    · simp [c]
      omega
theorem pl__law_place : ∀ ds (R : D → Prop), p__law_place ds R → fBody 2 (N__law_place.length - 2) b__law_place ds R := by
  rintro _ R ⟨ws, k, rfl, hne, hk, hs, h⟩
  refine ⟨rfl, ?_⟩
  show b__law_place [.fz (strsT ws), .fz (.int k), .un] _
  have hl : ws.length ≤ sizeLine := big_line (Nat.le_trans (len_szW ws) hs)
  have q := join_sp hne
  refine st_if (tv_b (ev_2 (ev_v rfl) (ev_1 (ev_v rfl) v_lenL) v_geI)) (fun c => ?_) fun c => ?_
  · rw [List.length_map, decide_eq_true_eq] at c
    refine st_ret (ev_2 (ev_1 (ev_m ev_k (rv_of (ev_v rfl)) (v_join (join_room hs))) (v_lenS (big_line (by omega)))) ev_k v_addI) ?_
    show R _
    refine Eq.mp (congrArg R ?_) h
    congr 1
    rw [plc_def, List.take_of_length_le (by omega), if_neg (by omega)]
    omega
  · rw [List.length_map, decide_eq_false_iff_not] at c
    have hm : ∀ w ∈ ws, w.length ≤ big := fun w hw => by
      have := sum_mem hw
      unfold szW at hs
      omega
    refine st_ret (ev_2 (ev_1 (ev_N (lv_map1 (fun d => match d with | .str w => .int (w.length + 1) | _ => .none) (lv_seq (ev_N (Lv.eq (lv_sl (ev_v rfl) ov_no (ov_is (ev_v rfl))) (cut_strs ws k))) rfl) (by rw [List.length_map, List.length_take]; omega) (fun _ => rfl) fun d hd => ?_))
      (v_sum (ns := (ws.take k).map fun w => ((w.length + 1 : Nat) : Int)) ?_)) ev_k v_addI) ?_
    · obtain ⟨w, hw, rfl⟩ := List.mem_map.mp hd
      exact ev_2 (ev_1 (ev_v rfl) (v_lenS (big_line (hm w (List.mem_of_mem_take hw))))) ev_k v_addI
    · rw [List.map_map]
      have e : ∀ l : List Str, l.map ((fun d : D => (match d with | .str w => .int (w.length + 1) | _ => .none : D)) ∘ PyData.str) = (l.map fun w => ((w.length + 1 : Nat) : Int)).map PyData.int := fun l => by
        rw [List.map_map]
        rfl
      rw [e]
      exact intsD_map _
    · show R _
      refine Eq.mp (congrArg R ?_) h
      congr 1
      rw [plc_def, if_pos (by omega)]
      have e : ∀ l : List Str, ((l.map fun w => ((w.length + 1 : Nat) : Int)).sum : Int) = ((szW l : Nat) : Int) := fun l => by
        unfold szW
        induction l with
        | nil => rfl
        | cons a t ih => simp at ih ⊢; omega
      rw [e]
      omega
theorem pl__law_pick : ∀ ds (R : D → Prop), p__law_pick ds R → fBodyS 2 (N__law_pick.length - 2) b__law_pick ds R := by
  rintro _ R ⟨es, rfl, hne, hl, h⟩
  refine ⟨rfl, fun p q => ?_⟩
  show b__law_pick [.st p q, .fz (.list es)] _
  refine ⟨_, rfl, p, q, rfl, ev_1 (ev_v rfl) v_lenL _ ⟨rfl, (es.length : Int), rfl, by omega, fun r h1 h2 => ?_⟩⟩
  have hp : 0 < es.length := List.length_pos_iff.mpr hne
  obtain ⟨j, rfl, hj⟩ : ∃ j : Nat, r = (j : Int) ∧ j < es.length := by
    by_cases c : (es.length : Int) < 2
    · exact ⟨0, h1 c, hp⟩
    · obtain ⟨a, b⟩ := h2 (by omega)
      exact ⟨r.toNat, by omega, by omega⟩
  refine gIx_list.2 ⟨es[j], atI_nat (List.getElem?_eq_getElem hj), rfl, h _ (List.getElem_mem hj)⟩
end TL
set_option Elab.async false
set_option linter.all false
set_option maxRecDepth 100000
set_option maxHeartbeats 4000000
namespace TL
open PySem PySem.Spec PyProof.Rows L2
theorem cut_init (xs : List D) (x : D) : cutD (xs ++ [x]) none (some (-1)) = xs := by
  unfold cutD
  have e1 : HT.sIx (xs ++ [x]).length 0 none = 0 := rfl
  have e2 : HT.sIx (xs ++ [x]).length (xs ++ [x]).length (some (-1)) = xs.length := by
    rw [List.length_append, List.length_singleton]
    simp only [HT.sIx]
    rw [if_pos (by omega)]
    omega
  rw [e1, e2]
  simp
theorem last_split {l : List Str} (h : l ≠ []) : ∃ a z, l = a ++ [z] := ⟨l.dropLast, l.getLast h, (List.dropLast_concat_getLast h).symm⟩
theorem cast1 (n : Nat) : (PyData.int ((n : Int) + 1)) = .int ((n + 1 : Nat) : Int) := rfl
theorem pl_lines_of : ∀ ds (R : D → Prop) (W : Str → List D → Prop), p_lines_of ds R W → fBodyX 1 (N_lines_of.length - 1) b_lines_of ds R W := by
  rintro _ R W ⟨x, rfl, hx, h1, h2⟩
  refine ⟨rfl, ?_⟩
  show b_lines_of _ [.fz (.str x), .un, .un] _
  have hz : x.length + 2 ≤ sizeLine := by rw [sizeLine_eq]; omega
  have hlen := sp10.split_len x
  have hpart : ∀ p ∈ Txt.split x "\n", p.length ≤ x.length := fun p hp => sp10.part_len hp
  obtain ⟨a, z, e⟩ := last_split (sp10.ne x)
  rw [e] at h1 h2 hlen hpart
  simp only [List.getLast?_append, List.getLast?_singleton, Option.some_or, List.dropLast_concat, Option.getD_some] at h1 h2
  rw [List.length_append, List.length_singleton] at hlen
  have hzl : z.length ≤ x.length := hpart z (by simp)
  have hzs : z.length ≤ sizeLine := by omega
  refine st_set (ev_N (Lv.eq (lv_split (ev_v rfl) ev_k rfl hz) (congrArg (List.map PyData.str) e))) ?_
  have lst : Ev (s2 gIx (sVar 1) (s1 gNeg (sC (.int 1)))) [.fz (.str x), .fz (.list ((a ++ [z]).map .str)), .un] (.str z) :=
    ev_2 (ev_v rfl) (ev_1 ev_k v_neg) (v_ixL (by rw [List.map_append]; exact atI_last _ _))
  refine st_if (tv_b (ev_2 lst ev_k v_neS)) (fun c => ?_) fun c => ?_
  · have hne : z ≠ "" := by simpa using c
    refine st_raise (lv_c (ev_1 (ev_v rfl) v_lenL) (lv_c (ev_2 (ev_1 lst (v_lenS hzs)) ev_k v_addI) lv_0)) rfl ⟨_, _, rfl, by simp; omega, by omega⟩ ?_
    rw [cast1, List.length_map]
    exact h2 (fun q => hne (Option.some.inj q))
  · have he : z = "" := by simpa using c
    subst he
    refine st_ret (ev_N (lv_map1 (fun d => match d with | .str l => strsT (wordsS l) | _ => .none) (lv_seq (ev_N (lv_sl (ev_v rfl) ov_no (ov_is (ev_1 ev_k v_neg)))) rfl) (by rw [List.map_append]; rw [show List.map PyData.str [("" : Str)] = [.str ""] from rfl, cut_init, List.length_map, sizeLine_eq]; omega) (fun _ => rfl) fun d hd => ?_)) ?_
    · rw [List.map_append, show List.map PyData.str [("" : Str)] = [.str ""] from rfl, cut_init] at hd
      obtain ⟨l, hl, rfl⟩ := List.mem_map.mp hd
      have := hpart l (by simp [hl])
      exact ev_N (lv_split (ev_v rfl) ev_k rfl (by omega))
    · show R _
      rw [List.map_append, show List.map PyData.str [("" : Str)] = [.str ""] from rfl, cut_init, List.map_map]
      exact h1 rfl
end TL
set_option Elab.async false
set_option linter.all false
set_option maxRecDepth 100000
set_option maxHeartbeats 4000000
namespace TL
open PySem PySem.Spec PyProof.Rows L2
/-- a loop, told by what is still to be run over -/
theorem for_rec {g : GF} {b : SF} {E : EndF} (Inv : List D → Rho → Prop) (h0 : ∀ ρ, Inv [] ρ → E.nx ρ)
    (h1 : ∀ d ds ρ (E' : EndF), Inv (d :: ds) ρ → (∀ ρ', Inv ds ρ' → E'.nx ρ') → (∀ ρ', Inv ds ρ' → E'.ct ρ') → E'.rt = E.rt → E'.bk = E.nx → g d ρ fun ρ1 => b ρ1 E') : ∀ (ds : List D) (ρ : Rho), Inv ds ρ → forW g b ds ρ E
  | [], ρ, h => h0 ρ h
  | d :: ds, ρ, h => h1 d ds ρ _ h (fun ρ' h' => for_rec Inv h0 h1 ds ρ' h') (fun ρ' h' => for_rec Inv h0 h1 ds ρ' h') rfl rfl
def upD (k m : Nat) : List D := (List.range' k m).map fun n : Nat => .int (n : Int)
theorem rng_up (k m : Nat) : rngD (k : Int) ((k + m : Nat) : Int) = upD k m := by
  unfold rngD upD
  rw [show (((k + m : Nat) : Int) - (k : Int)).toNat = m by omega, List.range'_eq_map_range, List.map_map]
  refine List.map_congr_left fun i _ => ?_
  show PyData.int _ = .int _
  congr 1
theorem up_cons (k m : Nat) : upD k (m + 1) = .int k :: upD (k + 1) m := by
  unfold upD
  rw [List.range'_succ]
  rfl
theorem up_nil (k : Nat) : upD k 0 = [] := rfl
theorem ev_num {φ : FF} {ρ : Rho} {n : NF} {w : Str} {lo hi : Int} (hφ : φ = p_number_in) (k : Lv n ρ [.str w, .int lo, .int hi]) (l : w.length ≤ big) : Ev (sCall φ n) ρ (numD w lo hi) := by
  subst hφ
  exact ev_f k fun R z => ⟨w, lo, hi, rfl, l, z⟩
theorem ev_plc {φ : FF} {ρ : Rho} {n : NF} {ws : List Str} {k : Nat} (hφ : φ = p_place_of) (h : Lv n ρ [strsT ws, .int k]) (hne : ws ≠ []) (hk : k ≤ big) (hs : szW ws ≤ big) : Ev (sCall φ n) ρ (.int (plc ws k)) := by
  subst hφ
  exact ev_f h fun R z => ⟨ws, k, rfl, hne, hk, hs, z⟩
theorem plc_le (ws : List Str) (k : Nat) : plc ws k ≤ szW ws + 1 := by
  rw [plc_def]
  have := szW_take ws k
  split <;> omega
theorem ix_strs {ws : List Str} {k : Nat} {w : Str} (h : ws[k]? = some w) : atI (ws.map PyData.str) (k : Int) = some (.str w) := atI_nat (by rw [List.getElem?_map, h]; rfl)
theorem mem_big {ws : List Str} {w : Str} (hs : szW ws ≤ big) (h : w ∈ ws) : w.length ≤ big := by
  have := sum_mem h
  unfold szW at hs
  omega
theorem isN_numD {w : Str} {lo hi : Int} : isN (numD w lo hi) = (numIn w lo hi).isNone := by
  unfold numD
  cases numIn w lo hi <;> rfl
theorem okd_two {a b : Nat} (ha : a ≤ big) (hb : b ≤ big + 1) : okd_BadText [.int a, .int b] := ⟨a, b, rfl, by unfold big at ha; omega, by unfold big at hb; omega⟩
end TL
set_option Elab.async false
set_option linter.all false
set_option maxRecDepth 100000
set_option maxHeartbeats 4000000
namespace TL
open PySem PySem.Spec PyProof.Rows L2
theorem natsD_app (l : List Nat) (v : Nat) : natsD l ++ [.int (v : Int)] = natsD (l ++ [v]) := by
  unfold natsD
  rw [List.map_append]
  rfl
theorem ev_L {g : List D → (D → Prop) → Prop} {n : NF} {ρ : Rho} {ds : List D} {d : D} (k : Lv n ρ ds) (q : ∀ R : D → Prop, R d → g ds R) : Ev (sL g n) ρ d := fun R z => k _ (q _ z)
theorem st_parK {i j : Nat} {k k' : KF} {ρ : Rho} {E : EndF} {s u : Sl} (h : ∀ Q : Sl → Rho → Prop, Q s ρ → k ρ Q) (h' : ∀ Q : Sl → Rho → Prop, Q u ρ → k' ρ Q) (q : E.nx ((ρ.set i s).set j u)) : fParK i j k k' ρ E := h _ (h' _ q)
theorem kv_E {f : EF} {ρ : Rho} {d : D} (k : Ev f ρ d) : ∀ Q : Sl → Rho → Prop, Q (.fz d) ρ → kE f ρ Q := fun Q q => k _ q
theorem kv_N {n : NF} {ρ : Rho} {ds : List D} (k : Lv n ρ ds) : ∀ Q : Sl → Rho → Prop, Q (.ow ds) ρ → kN n ρ Q := fun Q q => k _ q
theorem pl_read_line : ∀ ds (R : D → Prop) (W : Str → List D → Prop), p_read_line ds R W → fBodyX 4 (N_read_line.length - 4) b_read_line ds R W := by
  rintro _ R W ⟨num, ws, low, many, rfl, hne, hn, hs, h⟩
  refine ⟨rfl, ?_⟩
  show b_read_line _ [.fz (.int num), .fz (strsT ws), .fz (.int low), .fz (.int many), .un, .un, .un, .un, .un] _
  obtain ⟨w0, r, e⟩ := List.exists_cons_of_ne_nil hne
  have g0 : ws[0]? = some w0 := by rw [e]; rfl
  have hlen := Nat.le_trans (len_szW ws) hs
  refine st_set (ev_num rfl (lv_c (ev_2 (ev_v rfl) ev_k (v_ixL (ix_strs g0))) (lv_c (ev_v rfl) (lv_c (ev_2 (ev_v rfl) ev_k v_subI) lv_0))) (mem_big hs (List.mem_of_getElem? g0))) ?_
  cases hf : numIn w0 low (many - 1) with
  | none =>
    have h : W "BadText" [.int num, .int (1 : Nat)] := by
      have : lineM ws low many = .error 1 := by rw [e]; unfold lineM; simp only [hf]
      rw [this] at h
      exact h
    refine st_if (tv_b (ev_2 (ev_v rfl) ev_k v_isN)) (fun c => ?_) fun c => ?_
    · exact st_raise (lv_c (ev_v rfl) (lv_c ev_k lv_0)) rfl (okd_two (b := 1) hn (by unfold big; omega)) h
    · rw [isN_numD, hf] at c
      cases c
  | some f =>
    rw [numD_some hf]
    refine st_if (b := false) (tv_b (ev_2 (ev_v rfl) ev_k v_isN)) (fun c => nomatch c) fun _ => ?_
    have hp1 : (∀ p, lineM ws low many = .error p → p = plc ws 1 → W "BadText" [.int num, .int (plc ws 1)]) := fun p q q2 => by
      rw [q] at h
      rw [← q2]
      exact h
    have raise1 : lineM ws low many = .error (plc ws 1) → W "BadText" [.int num, .int (plc ws 1)] := fun q => hp1 _ q rfl
    cases r with
    | nil =>
      have hl : lineM ws low many = .error (plc ws 1) := by
        conv => lhs; rw [e]
        unfold lineM
        simp only [hf]
        rw [← e]
      refine st_if (b := true) (Tv.eq (tv_o (b' := true) (tv_b (ev_2 (ev_1 (ev_v rfl) v_lenL) ev_k (fun R z => gLt_int.2 z))) fun c => ?_) ?_) (fun _ => ?_) fun c => nomatch c
      · rw [e] at c
        simp at c
      · rw [e]
        simp
      · exact st_raise (lv_c (ev_v rfl) (lv_c (ev_plc rfl (lv_c (ev_v rfl) (lv_c (ev_k (d := .int (1 : Nat))) lv_0)) hne (by unfold big; omega) hs) lv_0)) rfl (okd_two hn (by have := plc_le ws 1; omega)) (raise1 hl)
    | cons w1 r2 =>
      have g1 : ws[1]? = some w1 := by rw [e]; rfl
      have l2 : 2 ≤ ws.length := by rw [e]; simp
      by_cases hw : w1 = "-"
      · refine st_if (b := false) (Tv.eq (tv_o (tv_b (ev_2 (ev_1 (ev_v rfl) v_lenL) ev_k (fun R z => gLt_int.2 z))) fun c => tv_b (ev_2 (ev_2 (ev_v rfl) ev_k (v_ixL (ix_strs (k := 1) g1))) ev_k v_neS)) ?_) (fun c => nomatch c) fun _ => ?_
        · rw [List.length_map]
          simp [hw]
          omega
        refine st_parK (kv_N (lv_l lv_0 (Nat.zero_le _))) (kv_E (ev_v rfl)) ?_
        have hr2 : ws.drop 2 = r2 := by rw [e]; rfl
        have lr2 : ws.length = r2.length + 2 := by rw [e]; simp
        refine st_for (lv_rB (i := (2 : Nat)) (j := ((2 + max 1 r2.length : Nat) : Int)) (Lv.eq (lv_c ev_k (lv_c (ev_L (g := lMax) (d := .int ((2 + max 1 r2.length : Nat) : Int)) (lv_c ev_k (lv_c (ev_1 (ev_v rfl) v_lenL) lv_0)) fun R z => ⟨_, _, rfl, ?_⟩) lv_0)) rfl) ?_) ?_
        · have eq : (if ((ws.map PyData.str).length : Int) > 3 then ((ws.map PyData.str).length : Int) else 3) = ((2 + max 1 r2.length : Nat) : Int) := by
            rw [List.length_map, lr2]
            split <;> omega
          rw [eq]
          exact z
        · have : r2.length ≤ big := by omega
          unfold big at this
          omega
        · rw [rng_up]
          cases hr : r2 with
          | nil =>
            have hl : lineM ws low many = .error (plc ws 2) := by
              conv => lhs; rw [e, hr]
              unfold lineM
              simp only [hf, if_pos hw]
              rw [← hr, ← e]
            rw [hl] at h
            have lw2 : ws.length = 2 := by rw [lr2, hr]; rfl
            rw [show max 1 ([] : List Str).length = 0 + 1 from rfl, up_cons, up_nil]
            refine st_set (ev_if_ (b := false) (Tv.eq (tv_b (ev_2 (ev_v rfl) (ev_1 (ev_v rfl) v_lenL) (fun R z => gLt_int.2 z))) ?_) (fun c => nomatch c) fun _ => ev_k) ?_
            · rw [List.length_map, lw2]
              rfl
            · refine st_if (b := true) (tv_b (ev_2 (ev_v rfl) ev_k v_isN)) (fun _ => ?_) fun c => nomatch c
              exact st_raise (lv_c (ev_v rfl) (lv_c (ev_plc rfl (lv_c (ev_v rfl) (lv_c (ev_v rfl) lv_0)) hne (by unfold big; omega) hs) lv_0)) rfl (okd_two hn (by have := plc_le ws 2; omega)) h
          | cons w2 r3 =>
            have hl : lineM ws low many = match goM ws many 2 f r2 with | .error p => .error p | .ok l => .ok (f, l) := by
              conv => lhs; rw [e, hr]
              unfold lineM
              simp only [hf, if_pos hw]
              rw [← hr, ← e]
              all_goals (cases goM ws many 2 f r2 <;> rfl)
            rw [show max 1 (w2 :: r3).length = r2.length by rw [hr]; simp]
            refine for_rec (fun ds ρ => ∃ (k : Nat) (r' : List Str) (acc : List Nat) (last : Nat) (s7 s8 : Sl), ds = upD k r'.length ∧ ws.drop k = r' ∧
              ρ = [.fz (.int num), .fz (strsT ws), .fz (.int low), .fz (.int many), .fz (.int f), .ow (natsD acc), .fz (.int last), s7, s8] ∧ acc.length + 2 = k ∧
              (match goM ws many k last r' with | .error p => W "BadText" [.int num, .int p] | .ok l => R (.tuple [.int f, .list (natsD (acc ++ l))]))) (fun ρ q => ?_) (fun d ds ρ E' q k1 k2 k3 k4 => ?_) _ _ ?_
            · obtain ⟨k, r', acc, last, s7, s8, e1, e2, rfl, e4, q⟩ := q
              obtain rfl : r' = [] := by
                cases r' with
                | nil => rfl
                | cons a t => rw [List.length_cons, up_cons] at e1; cases e1
              refine st_frz rfl (st_ret (ev_T (lv_c (ev_v rfl) (lv_c (ev_v rfl) lv_0)) (by rw [sizeLine_eq]; exact (by decide : 2 ≤ 16777216))) ?_)
              show R _
              have q2 : R (.tuple [.int f, .list (natsD (acc ++ []))]) := q
              rw [List.append_nil] at q2
              exact q2
            · obtain ⟨k, r', acc, last, s7, s8, e1, e2, rfl, e4, q⟩ := q
              cases r' with
              | nil => cases e1
              | cons w r'' =>
                rw [List.length_cons, up_cons] at e1
                cases e1
                have gk : ws[k]? = some w := by
                  have z := congrArg (·[0]?) e2
                  simpa using z
                have hk : k < ws.length := (List.getElem?_eq_some_iff.mp gk).1
                refine st_set (ev_if_ (b := true) (d := numD w ((last : Int) + 1) (many - 1)) (Tv.eq (tv_b (ev_2 (ev_v rfl) (ev_1 (ev_v rfl) v_lenL) (fun R z => gLt_int.2 z))) ?_) (fun _ =>
                  ev_num rfl (lv_c (ev_2 (ev_v rfl) (ev_v rfl) (v_ixL (ix_strs gk))) (lv_c (ev_2 (ev_v rfl) ev_k v_addI) (lv_c (ev_2 (ev_v rfl) ev_k v_subI) lv_0))) (mem_big hs (List.mem_of_getElem? gk))) fun c => nomatch c) ?_
                · rw [List.length_map]
                  simpa using hk
                · unfold goM at q
                  cases hv : numIn w ((last : Int) + 1) (many - 1) with
                  | none =>
                    rw [hv] at q
                    refine st_if (b := true) (Tv.eq (tv_b (ev_2 (ev_v rfl) ev_k v_isN)) (by rw [isN_numD, hv]; rfl)) (fun _ => ?_) fun c => nomatch c
                    exact st_raise (lv_c (ev_v rfl) (lv_c (ev_plc rfl (lv_c (ev_v rfl) (lv_c (ev_v rfl) lv_0)) hne (by omega) hs) lv_0)) rfl (okd_two hn (by have := plc_le ws k; omega)) q
                  | some v =>
                    rw [hv] at q
                    rw [numD_some hv]
                    refine st_if (b := false) (tv_b (ev_2 (ev_v rfl) ev_k v_isN)) (fun c => nomatch c) fun _ => ?_
                    refine st_app (ev_v rfl) rfl (by unfold natsD; rw [List.length_map]; exact Nat.lt_of_lt_of_le (show acc.length < big + 1 by omega) (by rw [sizeLine_eq]; unfold big; decide)) ?_
                    refine st_set (ev_v rfl) ?_
                    refine k1 _ ⟨k + 1, r'', acc ++ [v], v, _, _, rfl, ?_, by rw [natsD_app]; rfl, by simp; omega, ?_⟩
                    · rw [← List.drop_drop, e2]
                      rfl
                    · dsimp only at q
                      cases hg : goM ws many (k + 1) v r'' with
                      | error p => rw [hg] at q; exact q
                      | ok l =>
                        rw [hg] at q
                        show R (.tuple [.int f, .list (natsD (acc ++ [v] ++ l))])
                        rw [List.append_assoc]
                        exact q
            · refine ⟨2, r2, [], f, _, _, rfl, hr2, rfl, rfl, ?_⟩
              rw [hl] at h
              cases hg : goM ws many 2 f r2 with
              | error p => rw [hg] at h; exact h
              | ok l => rw [hg] at h; exact h
      · have hl : lineM ws low many = .error (plc ws 1) := by
          conv => lhs; rw [e]
          unfold lineM
          simp only [hf, if_neg hw]
          rw [← e]
        refine st_if (b := true) (Tv.eq (tv_o (tv_b (ev_2 (ev_1 (ev_v rfl) v_lenL) ev_k (fun R z => gLt_int.2 z))) fun c => tv_b (ev_2 (ev_2 (ev_v rfl) ev_k (v_ixL (ix_strs (k := 1) g1))) ev_k v_neS)) ?_) (fun _ => ?_) fun c => nomatch c
        · simp [hw]
        · exact st_raise (lv_c (ev_v rfl) (lv_c (ev_plc rfl (lv_c (ev_v rfl) (lv_c (ev_k (d := .int (1 : Nat))) lv_0)) hne (by unfold big; omega) hs) lv_0)) rfl (okd_two hn (by have := plc_le ws 1; omega)) (raise1 hl)
end TL
set_option Elab.async false
set_option linter.all false
set_option maxRecDepth 100000
set_option maxHeartbeats 4000000
namespace TL
open PySem PySem.Spec PyProof.Rows L2
def prsD (f : Nat) (l : List Nat) : List D := (l.map fun b => (f, b)).map prD
theorem prsD_app (f : Nat) (l : List Nat) (v : Nat) : prsD f l ++ [.tuple [.int f, .int v]] = prsD f (l ++ [v]) := by
  unfold prsD
  rw [List.map_append, List.map_append]
  rfl
theorem sz2 : 2 ≤ sizeLine := by rw [sizeLine_eq]; exact (by decide : 2 ≤ 16777216)
theorem pl__law_line : ∀ ds (R : D → Prop), p__law_line ds R → fBody 3 (N__law_line.length - 3) b__law_line ds R := by
  rintro _ R ⟨ws, low, many, rfl, hne, hs, h⟩
  refine ⟨rfl, ?_⟩
  show b__law_line [.fz (strsT ws), .fz (.int low), .fz (.int many), .un, .un, .un, .un, .un] _
  obtain ⟨w0, r, e⟩ := List.exists_cons_of_ne_nil hne
  have g0 : ws[0]? = some w0 := by rw [e]; rfl
  have hlen := Nat.le_trans (len_szW ws) hs
  refine st_set (ev_num rfl (lv_c (ev_2 (ev_v rfl) ev_k (v_ixL (ix_strs g0))) (lv_c (ev_v rfl) (lv_c (ev_2 (ev_v rfl) ev_k v_subI) lv_0))) (mem_big hs (List.mem_of_getElem? g0))) ?_
  cases hf : numIn w0 low (many - 1) with
  | none =>
    have h : R (.int (1 : Nat)) := by
      have : lineM ws low many = .error 1 := by rw [e]; unfold lineM; simp only [hf]
      rw [this] at h
      exact h
    refine st_if (tv_b (ev_2 (ev_v rfl) ev_k v_isN)) (fun c => ?_) fun c => ?_
    · exact st_ret ev_k h
    · rw [isN_numD, hf] at c
      cases c
  | some f =>
    rw [numD_some hf]
    refine st_if (b := false) (tv_b (ev_2 (ev_v rfl) ev_k v_isN)) (fun c => nomatch c) fun _ => ?_
    have lt2 : ∀ {ρ : Rho}, ρ[0]? = some (.fz (strsT ws)) → Tv (tBool (s2 TL.gLt (s1 gLen (sVar 0)) (sC (.int 2)))) ρ (decide (ws.length < 2)) := fun {ρ} hρ =>
      Tv.eq (tv_b (ev_2 (ev_1 (ev_v hρ) v_lenL) ev_k (fun R z => gLt_int.2 z))) (by rw [List.length_map]; exact decide_eq_decide.2 (by omega))
    cases r with
    | nil =>
      have hl : lineM ws low many = .error (plc ws 1) := by
        conv => lhs; rw [e]
        unfold lineM
        simp only [hf]
        rw [← e]
      rw [hl] at h
      have l1 : ws.length < 2 := by rw [e]; exact Nat.lt_succ_self 1
      refine st_if (b := true) (Tv.eq (tv_o (b' := true) (lt2 rfl) fun c => ?_) ?_) (fun _ => ?_) fun c => nomatch c
      · simp [l1] at c
      · simp
      · refine st_ret (ev_plc rfl (lv_c (ev_v rfl) (lv_c (ev_if_ (b := true) (d := .int (1 : Nat)) (Tv.eq (tv_o (b' := true) (lt2 rfl) fun c => ?_) ?_) (fun _ => ev_k) fun c => nomatch c) lv_0)) hne (by unfold big; omega) hs) h
        · simp [l1] at c
        · simp
    | cons w1 r2 =>
      have g1 : ws[1]? = some w1 := by rw [e]; rfl
      have lr2 : ws.length = r2.length + 2 := by rw [e]; simp
      have dash : ∀ {ρ : Rho}, ρ[0]? = some (.fz (strsT ws)) → Tv (tBool (s2 uNe (s2 gIx (sVar 0) (sC (.int 1))) (sC (.str "-")))) ρ (!decide (w1 = "-")) := fun {ρ} hρ =>
        tv_b (ev_2 (ev_2 (ev_v hρ) ev_k (v_ixL (ix_strs (k := 1) g1))) ev_k v_neS)
      by_cases hw : w1 = "-"
      · have two : ∀ {ρ : Rho}, ρ[0]? = some (.fz (strsT ws)) → Tv (tOr2 (tBool (s2 TL.gLt (s1 gLen (sVar 0)) (sC (.int 2)))) (tBool (s2 uNe (s2 gIx (sVar 0) (sC (.int 1))) (sC (.str "-"))))) ρ false := fun {ρ} hρ =>
          Tv.eq (tv_o (lt2 hρ) fun _ => dash hρ) (by simp [hw]; omega)
        have eq2 : ∀ {ρ : Rho}, ρ[0]? = some (.fz (strsT ws)) → Tv (tBool (s2 uEq (s1 gLen (sVar 0)) (sC (.int 2)))) ρ (decide (r2 = [])) := fun {ρ} hρ =>
          Tv.eq (tv_b (ev_2 (ev_1 (ev_v hρ) v_lenL) ev_k v_eqI)) (by
            rw [List.length_map, lr2]
            refine decide_eq_decide.2 ⟨fun z => List.eq_nil_of_length_eq_zero (by omega), fun z => by rw [z]; rfl⟩)
        cases hr : r2 with
        | nil =>
          have hl : lineM ws low many = .error (plc ws 2) := by
            conv => lhs; rw [e, hr]
            unfold lineM
            simp only [hf, if_pos hw]
            rw [← hr, ← e]
          rw [hl] at h
          refine st_if (b := true) (Tv.eq (tv_o (lt2 rfl) fun _ => tv_o (dash rfl) fun _ => eq2 rfl) ?_) (fun _ => ?_) fun c => nomatch c
          · simp [hr]
          · exact st_ret (ev_plc rfl (lv_c (ev_v rfl) (lv_c (ev_if_ (b := false) (d := .int (2 : Nat)) (two rfl) (fun c => nomatch c) fun _ => ev_k) lv_0)) hne (by unfold big; omega) hs) h
        | cons w2 r3 =>
          have hr2 : ws.drop 2 = r2 := by rw [e]; rfl
          have hl : lineM ws low many = match goM ws many 2 f r2 with | .error p => .error p | .ok l => .ok (f, l) := by
            conv => lhs; rw [e, hr]
            unfold lineM
            simp only [hf, if_pos hw]
            rw [← hr, ← e]
            all_goals (cases goM ws many 2 f r2 <;> rfl)
          refine st_if (b := false) (Tv.eq (tv_o (lt2 rfl) fun _ => tv_o (dash rfl) fun _ => eq2 rfl) ?_) (fun c => nomatch c) fun _ => ?_
          · simp [hr, hw]
            omega
          refine st_parK (kv_E (ev_v rfl)) (kv_N (lv_l lv_0 (Nat.zero_le _))) ?_
          refine st_for (lv_rB (i := (2 : Nat)) (j := ((2 + r2.length : Nat) : Int)) (Lv.eq (lv_c ev_k (lv_c (ev_1 (ev_v rfl) v_lenL) lv_0)) ?_) ?_) ?_
          · rw [List.length_map, lr2, Nat.add_comm]
            rfl
          · have : r2.length ≤ big := by omega
            unfold big at this
            omega
          rw [rng_up]
          refine for_rec (fun ds ρ => ∃ (k : Nat) (r' : List Str) (acc : List Nat) (last : Nat) (s6 s7 : Sl), ds = upD k r'.length ∧ ws.drop k = r' ∧
            ρ = [.fz (strsT ws), .fz (.int low), .fz (.int many), .fz (.int f), .fz (.int last), .ow (prsD f acc), s6, s7] ∧ acc.length + 2 = k ∧
            (match goM ws many k last r' with | .error p => R (.int p) | .ok l => R (.list (prsD f (acc ++ l))))) (fun ρ q => ?_) (fun d ds ρ E' q k1 k2 k3 k4 => ?_) _ _ ?_
          · obtain ⟨k, r', acc, last, s7, s8, e1, e2, rfl, e4, q⟩ := q
            obtain rfl : r' = [] := by
              cases r' with
              | nil => rfl
              | cons a t => rw [List.length_cons, up_cons] at e1; cases e1
            refine st_frz rfl (st_ret (ev_v rfl) ?_)
            show R _
            have q2 : R (.list (prsD f (acc ++ []))) := q
            rw [List.append_nil] at q2
            exact q2
          · obtain ⟨k, r', acc, last, s7, s8, e1, e2, rfl, e4, q⟩ := q
            cases r' with
            | nil => cases e1
            | cons w r'' =>
              rw [List.length_cons, up_cons] at e1
              cases e1
              have gk : ws[k]? = some w := by
                have z := congrArg (·[0]?) e2
                simpa using z
              have hk : k < ws.length := (List.getElem?_eq_some_iff.mp gk).1
              refine st_set (ev_num rfl (lv_c (ev_2 (ev_v rfl) (ev_v rfl) (v_ixL (ix_strs gk))) (lv_c (ev_2 (ev_v rfl) ev_k v_addI) (lv_c (ev_2 (ev_v rfl) ev_k v_subI) lv_0))) (mem_big hs (List.mem_of_getElem? gk))) ?_
              unfold goM at q
              cases hv : numIn w ((last : Int) + 1) (many - 1) with
              | none =>
                rw [hv] at q
                refine st_if (b := true) (Tv.eq (tv_b (ev_2 (ev_v rfl) ev_k v_isN)) (by rw [isN_numD, hv]; rfl)) (fun _ => ?_) fun c => nomatch c
                refine st_ret (ev_plc rfl (lv_c (ev_v rfl) (lv_c (ev_v rfl) lv_0)) hne (by omega) hs) ?_
                rw [k3]
                exact q
              | some v =>
                rw [hv] at q
                rw [numD_some hv]
                refine st_if (b := false) (tv_b (ev_2 (ev_v rfl) ev_k v_isN)) (fun c => nomatch c) fun _ => ?_
                refine st_app (ev_T (lv_c (ev_v rfl) (lv_c (ev_v rfl) lv_0)) sz2) rfl (by unfold prsD; rw [List.length_map, List.length_map]; exact Nat.lt_of_lt_of_le (show acc.length < big + 1 by omega) (by rw [sizeLine_eq]; unfold big; decide)) ?_
                refine st_set (ev_v rfl) ?_
                refine k1 _ ⟨k + 1, r'', acc ++ [v], v, _, _, rfl, ?_, by rw [prsD_app]; rfl, by simp; omega, ?_⟩
                · rw [← List.drop_drop, e2]
                  rfl
                · dsimp only at q
                  cases hg : goM ws many (k + 1) v r'' with
                  | error p => rw [hg] at q; exact q
                  | ok l =>
                    rw [hg] at q
                    show R (.list (prsD f (acc ++ [v] ++ l)))
                    rw [List.append_assoc]
                    exact q
          · refine ⟨2, r2, [], f, _, _, rfl, hr2, rfl, rfl, ?_⟩
            rw [hl] at h
            cases hg : goM ws many 2 f r2 with
            | error p => rw [hg] at h; exact h
            | ok l => rw [hg] at h; exact h
      · have hl : lineM ws low many = .error (plc ws 1) := by
          conv => lhs; rw [e]
          unfold lineM
          simp only [hf, if_neg hw]
          rw [← e]
        rw [hl] at h
        refine st_if (b := true) (Tv.eq (tv_o (lt2 rfl) fun _ => tv_o (b' := true) (dash rfl) fun c => ?_) ?_) (fun _ => ?_) fun c => nomatch c
        · simp [hw] at c
        · simp [hw]
        · refine st_ret (ev_plc rfl (lv_c (ev_v rfl) (lv_c (ev_if_ (b := true) (d := .int (1 : Nat)) (Tv.eq (tv_o (lt2 rfl) fun _ => dash rfl) ?_) (fun _ => ev_k) fun c => nomatch c) lv_0)) hne (by unfold big; omega) hs) h
          simp [hw]
end TL
set_option Elab.async false
set_option linter.all false
set_option maxRecDepth 100000
set_option maxHeartbeats 4000000
namespace TL
open PySem PySem.Spec PyProof.Rows L2
theorem spl_mem {s : Nat} : ∀ (L acc : List Nat), ∀ p ∈ spl [s] 0 acc L, ∀ c ∈ p, c ∈ acc ++ L
  | [], acc, p, hp, c, hc => by
    rw [spl_nil] at hp
    rw [List.mem_singleton.mp hp] at hc
    simpa using hc
  | d :: r, acc, p, hp, c, hc => by
    by_cases hd : d = s
    · subst hd
      rw [spl_hit (by rw [pre_one]; simp)] at hp
      rcases List.mem_cons.mp hp with rfl | hp
      · exact List.mem_append_left _ hc
      · have := spl_mem r [] p hp c hc
        simp at this
        simp [this]
    · rw [spl_miss (by rw [pre_one]; simpa using hd)] at hp
      have := spl_mem r (acc ++ [d]) p hp c hc
      simpa using this
theorem Sep1.part_mem {y : Str} {s : Nat} (h : Sep1 y s) {x p : Str} (hp : p ∈ Txt.split x y) {c : Nat} (hc : c ∈ TL.tl p) : c ∈ TL.tl x := by
  have := spl_mem (s := s) (TL.tl x) [] (TL.tl p) (by rw [← h.split]; exact List.mem_map_of_mem hp) c hc
  simpa using this
theorem asc_part {y x p : Str} {s : Nat} (h : Sep1 y s) (ha : asc x) (hp : p ∈ Txt.split x y) : asc p := fun c hc => ha c (h.part_mem hp hc)
theorem asc_ok {x : Str} (h : asc x) : PyData.strOk x = true := by
  unfold PyData.strOk
  rw [← Array.all_toList, List.all_eq_true]
  intro c hc
  have := h c hc
  simp
  omega
theorem lay_all {α : Type} (f : α → D) : ∀ l : List α, (∀ a ∈ l, (f a).canLay0 = true) → PyData.canLayAll0 (l.map f) = true
  | [], _ => rfl
  | a :: t, h => by
    rw [List.map_cons, PyData.canLayAll0, h a List.mem_cons_self, lay_all f t fun b hb => h b (List.mem_cons_of_mem _ hb)]
    rfl
theorem dep_all {α : Type} (f : α → D) (n : Nat) : ∀ l : List α, (∀ a ∈ l, (f a).depth ≤ n) → PyData.depthAll (l.map f) ≤ n
  | [], _ => Nat.zero_le _
  | a :: t, h => by
    rw [List.map_cons, PyData.depthAll]
    have := h a List.mem_cons_self
    have := dep_all f n t fun b hb => h b (List.mem_cons_of_mem _ hb)
    omega
theorem lay_strs {ws : List Str} (h : ∀ w ∈ ws, asc w) : (strsT ws).canLay0 = true := by
  unfold strsT
  rw [PyData.canLay0]
  exact lay_all _ _ fun w hw => by rw [PyData.canLay0]; exact asc_ok (h w hw)
theorem dep_strs (ws : List Str) : (strsT ws).depth ≤ 1 := by
  unfold strsT
  rw [PyData.depth]
  have := dep_all PyData.str 0 ws fun w _ => by rw [PyData.depth]; exact Nat.le_refl _
  omega
theorem shaped_rows {rows : List (List Str)} (h : ∀ ws ∈ rows, ∀ w ∈ ws, asc w) : SeqAt.shaped (.list (rows.map strsT)) = true := by
  unfold SeqAt.shaped
  rw [PyData.canLay0, lay_all _ _ fun ws hw => lay_strs (h ws hw), PyData.depth]
  have := dep_all strsT 1 rows fun ws _ => dep_strs ws
  simp
  omega
theorem eqv_rows {rows : List (List Str)} : PyData.eqv (.list (rows.map strsT)) (.list []) = decide (rows = []) := by
  cases rows with
  | nil => rfl
  | cons a t => rfl
theorem wordsS_ne (x : Str) : wordsS x ≠ [] := sp32.ne x
theorem szW_words (x : Str) : szW (wordsS x) = x.length + 1 := sp32.split_sum x
theorem ix_rows {rows : List (List Str)} {k : Nat} {ws : List Str} (h : rows[k]? = some ws) : atI (rows.map strsT) (k : Int) = some (strsT ws) := atI_nat (by rw [List.getElem?_map, h]; rfl)
end TL
set_option Elab.async false
set_option linter.all false
set_option maxRecDepth 100000
set_option maxHeartbeats 4000000
namespace TL
open PySem PySem.Spec PyProof.Rows L2
theorem prsD_len (f : Nat) (l : List Nat) : (prsD f l).length = l.length := by unfold prsD; rw [List.length_map, List.length_map]
theorem goM_len {ws : List Str} {many : Int} : ∀ {r : List Str} {k last : Nat} {l : List Nat}, goM ws many k last r = .ok l → l.length = r.length
  | [], k, last, l, h => by cases h; rfl
  | w :: r, k, last, l, h => by
    unfold goM at h
    cases hv : numIn w ((last : Int) + 1) (many - 1) with
    | none => rw [hv] at h; cases h
    | some v =>
      rw [hv] at h
      dsimp only at h
      cases hg : goM ws many (k + 1) v r with
      | error p => rw [hg] at h; cases h
      | ok t => rw [hg] at h; cases h; rw [List.length_cons, List.length_cons, goM_len hg]
theorem lineM_len {ws : List Str} {low many : Int} {g : Nat × List Nat} (h : lineM ws low many = .ok g) : g.2.length ≤ ws.length := by
  unfold lineM at h
  split at h
  · cases h
  · split at h
    · cases h
    · split at h
      · cases h
      · split at h
        · split at h
          · cases h
          · split at h
            · cases h
            · rename_i hg
              cases h
              have := goM_len hg
              simp at this ⊢
              omega
        · cases h
/-- sizes of a text's rows -/
structure TRows (rows : List (List Str)) : Prop where
  ne : ∀ ws ∈ rows, ws ≠ []
  asc : ∀ ws ∈ rows, ∀ w ∈ ws, asc w
  sz : (rows.map szW).sum ≤ 100002
theorem TRows.mem {rows : List (List Str)} (h : TRows rows) {ws : List Str} (hw : ws ∈ rows) : szW ws ≤ 100002 := by
  have : ∀ l : List (List Str), ws ∈ l → szW ws ≤ (l.map szW).sum := fun l hl => by
    induction l with
    | nil => cases hl
    | cons a t ih =>
      rw [List.map_cons, List.sum_cons]
      rcases List.mem_cons.mp hl with rfl | hl
      · omega
      · have := ih hl; omega
  exact Nat.le_trans (this rows hw) h.sz
theorem rows_len_le : ∀ l : List (List Str), (∀ ws ∈ l, ws ≠ []) → l.length ≤ (l.map szW).sum
  | [], _ => Nat.zero_le _
  | a :: t, h => by
    rw [List.map_cons, List.sum_cons, List.length_cons]
    have := rows_len_le t fun ws hw => h ws (List.mem_cons_of_mem _ hw)
    have := len_szW a
    have := List.length_pos_iff.mpr (h a List.mem_cons_self)
    omega
theorem TRows.len {rows : List (List Str)} (h : TRows rows) : rows.length ≤ 100002 := Nat.le_trans (rows_len_le rows h.ne) h.sz
theorem rows_of {x : Str} (hx : x.length ≤ 100000) (ha : asc x) : TRows ((Txt.split x "\n").dropLast.map wordsS) := by
  refine ⟨fun ws hw => ?_, fun ws hw w hww => ?_, ?_⟩
  · obtain ⟨l, _, rfl⟩ := List.mem_map.mp hw
    exact wordsS_ne l
  · obtain ⟨l, hl, rfl⟩ := List.mem_map.mp hw
    exact asc_part sp32 (asc_part sp10 ha (List.dropLast_subset _ hl)) hww
  · rw [List.map_map]
    have e : ((Txt.split x "\n").dropLast.map (szW ∘ wordsS)) = (Txt.split x "\n").dropLast.map fun p => p.length + 1 := List.map_congr_left fun l _ => szW_words l
    rw [e]
    have t := sp10.split_sum x
    obtain ⟨a, z, q⟩ := last_split (sp10.ne x)
    rw [q] at t ⊢
    rw [List.map_append, List.sum_append] at t
    rw [List.dropLast_concat]
    simp at t
    omega
end TL
set_option Elab.async false
set_option linter.all false
set_option maxRecDepth 100000
set_option maxHeartbeats 4000000
namespace TL
open PySem PySem.Spec PyProof.Rows L2
theorem prsN_nil : prsN [] = [] := rfl
theorem prsN_app (gs : List (Nat × List Nat)) (g : Nat × List Nat) : (prsN (gs ++ [g])).map prD = (prsN gs).map prD ++ prsD g.1 g.2 := by
  unfold prsN prsD
  rw [List.flatMap_append, List.map_append]
  simp
theorem goW_len {many : Int} : ∀ {rows : List (List Str)} {k low : Nat} {gs : List (Nat × List Nat)}, goW many k low rows = .ok gs → (prsN gs).length ≤ (rows.map szW).sum
  | [], k, low, gs, h => by cases h; exact Nat.zero_le _
  | ws :: r, k, low, gs, h => by
    unfold goW at h
    cases hg : lineM ws low many with
    | error p => rw [hg] at h; cases h
    | ok g =>
      rw [hg] at h
      dsimp only at h
      cases ht : goW many (k + 1) (g.1 + 1) r with
      | error e => rw [ht] at h; cases h
      | ok t =>
        rw [ht] at h
        cases h
        have h1 := goW_len ht
        have h2 := lineM_len hg
        have h3 := len_szW ws
        rw [List.map_cons, List.sum_cons]
        unfold prsN at h1 ⊢
        rw [List.flatMap_cons, List.length_append, List.length_map]
        omega
theorem st_asg2 {f : EF} {i j : Nat} {ρ : Rho} {E : EndF} {d e : D} (k : Ev f ρ (.tuple [d, e])) (q : E.nx ((ρ.set i (.fz d)).set j (.fz e))) : fAsg f (gTp 2 (gsCons (gNm i) (gsCons (gNm j) gsNil))) ρ E :=
  k _ ⟨[d, e], rfl, rfl, d, [e], rfl, e, [], rfl, rfl, q⟩
theorem st_ext {i : Nat} {f : EF} {ρ : Rho} {E : EndF} {ds es : List D} (k : Ev f ρ (.list es)) (e : ρ[i]? = some (.ow ds)) (l : ds.length + es.length ≤ sizeLine) (q : E.nx (ρ.set i (.ow (ds ++ es)))) : fExt i f ρ E := ⟨⟨ds, e⟩, k _ ⟨ds, es, e, rfl, l, q⟩⟩
theorem st_setX {W : WD} {φ : FX} {n : NF} {i : Nat} {ρ : Rho} {E : EndF} {ds : List D} (k : Lv n ρ ds) (q : φ ds (fun d => E.nx (ρ.set i (.fz d))) fun nm es => W nm es ρ) : fSet i (sCallX W φ n) ρ E := k _ q
theorem st_asg2X {W : WD} {φ : FX} {n : NF} {i j : Nat} {ρ : Rho} {E : EndF} {ds : List D} (k : Lv n ρ ds) (q : φ ds (fun d => ∃ a b, d = .tuple [a, b] ∧ E.nx ((ρ.set i (.fz a)).set j (.fz b))) fun nm es => W nm es ρ)
    (mono : ∀ (R R' : D → Prop) (W' : Str → List D → Prop), (∀ d, R d → R' d) → φ ds R W' → φ ds R' W') : fAsg (sCallX W φ n) (gTp 2 (gsCons (gNm i) (gsCons (gNm j) gsNil))) ρ E := k _ (mono _ _ _ (fun d ⟨a, b, e, q⟩ => by
      subst e
      exact ⟨[a, b], rfl, rfl, a, [b], rfl, b, [], rfl, rfl, q⟩) q)
theorem mono_read_line {ds : List D} : ∀ (R R' : D → Prop) (W' : Str → List D → Prop), (∀ d, R d → R' d) → p_read_line ds R W' → p_read_line ds R' W' := by
  rintro R R' W' m ⟨num, ws, low, many, e, h1, h2, h3, h⟩
  refine ⟨num, ws, low, many, e, h1, h2, h3, ?_⟩
  cases hl : lineM ws low many with
  | error p => rw [hl] at h; exact h
  | ok g => rw [hl] at h; exact m _ h
theorem pl_read_web : ∀ ds (R : D → Prop) (W : Str → List D → Prop), p_read_web ds R W → fBodyX 1 (N_read_web.length - 1) b_read_web ds R W := by
  rintro _ R W ⟨x, rfl, hx, ha, h⟩
  refine ⟨rfl, ?_⟩
  show b_read_web _ [.fz (.str x), .un, .un, .un, .un, .un, .un, .un, .un] _
  refine st_setX (lv_c (ev_v rfl) lv_0) ⟨x, rfl, hx, fun hl => ?_, fun hl => ?_⟩
  rotate_left
  · unfold readM at h
    rw [if_neg hl] at h
    exact h
  · have hrs := rows_of hx ha
    have er : ((Txt.split x "\n").dropLast.map fun l => strsT (wordsS l)) = ((Txt.split x "\n").dropLast.map wordsS).map strsT := by rw [List.map_map]; rfl
    unfold readM at h
    rw [if_pos hl] at h
    rw [er]
    generalize (Txt.split x "\n").dropLast.map wordsS = rows at h hrs
    clear hl er
    have hb : (100002 : Nat) ≤ big := by unfold big; omega
    have eq0 : ∀ {ρ : Rho}, ρ[1]? = some (.fz (.list (rows.map strsT))) → Tv (tBool (s2 uEq (sVar 1) (sN (nLst aNil)))) ρ (decide (rows = [])) := fun {ρ} hρ =>
      Tv.eq (tv_b (ev_2 (ev_v hρ) (ev_N (lv_l lv_0 (Nat.zero_le _))) (v_eqD (shaped_rows hrs.asc) rfl))) eqv_rows
    cases hrows : rows with
    | nil =>
      subst hrows
      refine st_if (b := true) (Tv.eq (tv_o (b' := true) (eq0 rfl) fun c => by simp at c) (by simp)) (fun _ => ?_) fun c => nomatch c
      exact st_raise (lv_c ev_k (lv_c ev_k lv_0)) rfl (okd_two (a := 1) (b := 1) (by unfold big; omega) (by unfold big; omega)) h
    | cons r0 rest =>
      rw [← hrows]
      have g0 : rows[0]? = some r0 := by rw [hrows]; rfl
      have m0 : r0 ∈ rows := by rw [hrows]; exact List.mem_cons_self
      have z0 : szW r0 ≤ big := Nat.le_trans (hrs.mem m0) hb
      obtain ⟨w0, r, e0⟩ := List.exists_cons_of_ne_nil (hrs.ne r0 m0)
      have g00 : r0[0]? = some w0 := by rw [e0]; rfl
      have row0 : ∀ {ρ : Rho}, ρ[1]? = some (.fz (.list (rows.map strsT))) → Ev (s2 gIx (sVar 1) (sC (.int 0))) ρ (strsT r0) := fun {ρ} hρ => ev_2 (ev_v hρ) ev_k (v_ixL (ix_rows (k := 0) g0))
      have tst : Tv (tOr2 (tBool (s2 uEq (sVar 1) (sN (nLst aNil)))) (tBool (s2 uNe (s2 gIx (s2 gIx (sVar 1) (sC (.int 0))) (sC (.int 0))) (sC (.str "web"))))) [.fz (.str x), .fz (.list (rows.map strsT)), .un, .un, .un, .un, .un, .un, .un] (!decide (w0 = "web")) :=
        Tv.eq (tv_o (eq0 rfl) fun _ => tv_b (ev_2 (ev_2 (row0 rfl) ev_k (v_ixL (ix_strs (k := 0) g00))) ev_k v_neS)) (by simp [hrows])
      by_cases hw : w0 = "web"
      · refine st_if (b := false) (Tv.eq tst (by simp [hw])) (fun c => nomatch c) fun _ => ?_
        have noneCase : rowsM rows = .error (1, plc r0 1) → W "BadText" [.int (1 : Nat), .int (plc r0 1 : Nat)] := fun e => by
          rw [e] at h
          exact h
        have lenR : ∀ {ρ : Rho} {g2 : Int}, ρ[1]? = some (.fz (.list (rows.map strsT))) → Tv (tBool (s2 TL.gGt (s1 gLen (s2 gIx (sVar 1) (sC (.int 0)))) (sC (.int g2)))) ρ (decide (g2 < (r0.length : Int))) := fun {ρ g2} hρ =>
          Tv.eq (tv_b (ev_2 (ev_1 (row0 hρ) v_lenL) ev_k v_gtI)) (by rw [List.length_map])
        have h1b : 1 ≤ big := by unfold big; omega
        have h2b : 2 ≤ big := by unfold big; omega
        cases hr : r with
        | nil =>
          have l1 : r0.length = 1 := by rw [e0, hr]; rfl
          refine st_set (ev_if_ (b := false) (d := .none) (Tv.eq (lenR rfl) (by rw [l1]; rfl)) (fun c => nomatch c) fun _ => ev_k) ?_
          refine st_if (b := true) (Tv.eq (tv_o (b' := true) (tv_b (ev_2 (ev_v rfl) ev_k v_isN)) fun c => by cases c) rfl) (fun _ => ?_) fun c => nomatch c
          refine st_raise (lv_c (ev_k (d := .int (1 : Nat))) (lv_c (ev_plc rfl (lv_c (row0 rfl) (lv_c (ev_if_ (b := true) (d := .int (1 : Nat)) (tv_b (ev_2 (ev_v rfl) ev_k v_isN)) (fun _ => ev_k) fun c => nomatch c) lv_0)) (hrs.ne r0 m0) h1b z0) lv_0)) rfl (okd_two h1b (by have := plc_le r0 1; have := hrs.mem m0; unfold big; omega)) (noneCase ?_)
          rw [hrows, e0, hr]
          unfold rowsM
          simp only [if_pos hw]
        | cons w1 more =>
          have g01 : r0[1]? = some w1 := by rw [e0, hr]; rfl
          have l2 : r0.length = more.length + 2 := by rw [e0, hr]; simp
          refine st_set (ev_if_ (b := true) (d := numD w1 0 24) (Tv.eq (lenR rfl) (by rw [l2]; simp; omega)) (fun _ =>
            ev_num rfl (lv_c (ev_2 (row0 rfl) ev_k (v_ixL (ix_strs (k := 1) g01))) (lv_c ev_k (lv_c ev_k lv_0))) (mem_big z0 (List.mem_of_getElem? g01))) fun c => nomatch c) ?_
          cases hn : numIn w1 0 24 with
          | none =>
            rw [numD_none hn]
            refine st_if (b := true) (Tv.eq (tv_o (b' := true) (tv_b (ev_2 (ev_v rfl) ev_k v_isN)) fun c => by cases c) rfl) (fun _ => ?_) fun c => nomatch c
            refine st_raise (lv_c (ev_k (d := .int (1 : Nat))) (lv_c (ev_plc rfl (lv_c (row0 rfl) (lv_c (ev_if_ (b := true) (d := .int (1 : Nat)) (tv_b (ev_2 (ev_v rfl) ev_k v_isN)) (fun _ => ev_k) fun c => nomatch c) lv_0)) (hrs.ne r0 m0) h1b z0) lv_0)) rfl (okd_two h1b (by have := plc_le r0 1; have := hrs.mem m0; unfold big; omega)) (noneCase ?_)
            rw [hrows, e0, hr]
            unfold rowsM
            simp only [if_pos hw, hn]
          | some n =>
            rw [numD_some hn]
            cases hm : more with
            | cons w2 more2 =>
              have l3 : r0.length = more2.length + 3 := by rw [l2, hm]; simp
              refine st_if (b := true) (Tv.eq (tv_o (tv_b (ev_2 (ev_v rfl) ev_k v_isN)) fun _ => lenR rfl) (by rw [l3]; simp [isN]; omega)) (fun _ => ?_) fun c => nomatch c
              refine st_raise (lv_c (ev_k (d := .int (1 : Nat))) (lv_c (ev_plc rfl (lv_c (row0 rfl) (lv_c (ev_if_ (b := false) (d := .int (2 : Nat)) (tv_b (ev_2 (ev_v rfl) ev_k v_isN)) (fun c => nomatch c) fun _ => ev_k) lv_0)) (hrs.ne r0 m0) h2b z0) lv_0)) rfl (okd_two h1b (by have := plc_le r0 2; have := hrs.mem m0; unfold big; omega)) ?_
              have e : rowsM rows = .error (1, plc r0 2) := by
                rw [hrows, e0, hr, hm]
                unfold rowsM
                simp only [if_pos hw, hn]
              rw [e] at h
              exact h
            | nil =>
              have l3 : r0.length = 2 := by rw [l2, hm]; rfl
              have e : rowsM rows = match goW n 1 0 rest with | .error e => .error e | .ok gs => .ok (n, gs) := by
                conv => lhs; rw [hrows, e0, hr, hm]
                unfold rowsM
                simp only [if_pos hw, hn]
                all_goals (cases goW n 1 0 rest <;> rfl)
              rw [e] at h
              refine st_if (b := false) (Tv.eq (tv_o (tv_b (ev_2 (ev_v rfl) ev_k v_isN)) fun _ => lenR rfl) (by rw [l3]; rfl)) (fun c => nomatch c) fun _ => ?_
              refine st_parK (kv_N (lv_l lv_0 (Nat.zero_le _))) (kv_E ev_k) ?_
              have lrows : rows.length = rest.length + 1 := by rw [hrows]; simp
              have hlr := hrs.len
              refine st_for (lv_rB (i := (1 : Nat)) (j := ((1 + rest.length : Nat) : Int)) (Lv.eq (lv_c ev_k (lv_c (ev_1 (ev_v rfl) v_lenL) lv_0)) ?_) (by omega)) ?_
              · rw [List.length_map, lrows, Nat.add_comm]
                rfl
              rw [rng_up]
              refine for_rec (fun ds ρ => ∃ (k : Nat) (rest' : List (List Str)) (done : List (Nat × List Nat)) (low : Nat) (s5 s6 s7 : Sl), ds = upD k rest'.length ∧ rows.drop k = rest' ∧
                ρ = [.fz (.str x), .fz (.list (rows.map strsT)), .fz (.int n), .ow ((prsN done).map prD), .fz (.int low), s5, s6, s7, .un] ∧ (prsN done).length + (rest'.map szW).sum ≤ 100002 ∧
                (match goW n k low rest' with | .error e => W "BadText" [.int e.1, .int e.2] | .ok gs => R (webD n (done ++ gs)))) (fun ρ q => ?_) (fun d ds ρ E' q k1 k2 k3 k4 => ?_) _ _ ?_
              · obtain ⟨k, r', done, low, s5, s6, s7, e1, e2, rfl, e4, q⟩ := q
                obtain rfl : r' = [] := by
                  cases r' with
                  | nil => rfl
                  | cons a t => rw [List.length_cons, up_cons] at e1; cases e1
                refine st_ret (ev_T (lv_c ev_k (lv_c (ev_v rfl) (lv_c (ev_1r (rv_own rfl) v_tupL) lv_0))) (by rw [sizeLine_eq]; exact (by decide : 3 ≤ 16777216))) ?_
                have q2 : R (webD n (done ++ [])) := q
                rw [List.append_nil] at q2
                exact q2
              · obtain ⟨k, r', done, low, s5, s6, s7, e1, e2, rfl, e4, q⟩ := q
                cases r' with
                | nil => cases e1
                | cons ws r'' =>
                  rw [List.length_cons, up_cons] at e1
                  cases e1
                  have gk : rows[k]? = some ws := by
                    have z := congrArg (·[0]?) e2
                    simpa using z
                  have mk : ws ∈ rows := List.mem_of_getElem? gk
                  have hk : k < rows.length := (List.getElem?_eq_some_iff.mp gk).1
                  have zk := hrs.mem mk
                  rw [List.map_cons, List.sum_cons] at e4
                  unfold goW at q
                  refine st_asg2X (ds := [.int ((k + 1 : Nat) : Int), strsT ws, .int low, .int n]) (Lv.eq (lv_c (ev_2 (ev_v rfl) ev_k v_addI) (lv_c (ev_2 (ev_v rfl) (ev_v rfl) (v_ixL (ix_rows gk))) (lv_c (ev_v rfl) (lv_c (ev_v rfl) lv_0)))) rfl) ⟨k + 1, ws, low, n, rfl, hrs.ne ws mk, by unfold big; omega, Nat.le_trans zk hb, ?_⟩ mono_read_line
                  cases hl : lineM ws low n with
                  | error p => rw [hl] at q; exact q
                  | ok g =>
                    rw [hl] at q
                    have gl := lineM_len hl
                    have wl := len_szW ws
                    refine ⟨_, _, rfl, ?_⟩
                    have comp : Lv (nComp [8] (iSeq (sVar 7)) (gNm 8) tYs (sTup (aCons (sVar 6) (aCons (sVar 8) aNil)))) [.fz (.str x), .fz (.list (rows.map strsT)), .fz (.int n), .ow ((prsN done).map prD), .fz (.int low), .fz (.int k), .fz (.int g.1), .fz (.list (natsD g.2)), .un] (prsD g.1 g.2) := by
                      refine Lv.eq (lv_map1 (fun d => .tuple [.int g.1, d]) (lv_seq (ev_v rfl) rfl) (by unfold natsD; rw [List.length_map, sizeLine_eq]; omega) (fun _ => rfl) fun d _ => ev_T (lv_c (ev_v rfl) (lv_c (ev_v rfl) lv_0)) sz2) ?_
                      unfold natsD prsD
                      rw [List.map_map, List.map_map]
                      rfl
                    refine st_ext (ev_N comp) rfl (by rw [List.length_map, prsD_len, sizeLine_eq]; omega) ?_
                    refine st_set (ev_2 (ev_v rfl) ev_k v_addI) ?_
                    refine k1 _ ⟨k + 1, r'', done ++ [g], g.1 + 1, _, _, _, rfl, ?_, by rw [prsN_app]; rfl, ?_, ?_⟩
                    · rw [← List.drop_drop, e2]
                      rfl
                    · have : (prsN (done ++ [g])).length = (prsN done).length + g.2.length := by
                        unfold prsN
                        rw [List.flatMap_append, List.length_append]
                        simp
                      omega
                    · dsimp only at q
                      cases hg : goW n (k + 1) (g.1 + 1) r'' with
                      | error e => rw [hg] at q; exact q
                      | ok l =>
                        rw [hg] at q
                        show R (webD n (done ++ [g] ++ l))
                        rw [List.append_assoc]
                        exact q
              · refine ⟨1, rest, [], 0, _, _, _, rfl, by rw [hrows]; rfl, rfl, ?_, ?_⟩
                · have := hrs.sz
                  rw [hrows, List.map_cons, List.sum_cons] at this
                  show 0 + _ ≤ _
                  omega
                · cases hg : goW n 1 0 rest with
                  | error e => rw [hg] at h; exact h
                  | ok l => rw [hg] at h; exact h
      · have h : W "BadText" [.int (1 : Nat), .int (1 : Nat)] := by
          have e : rowsM rows = .error (1, 1) := by rw [hrows, e0]; unfold rowsM; simp only [if_neg hw]
          rw [e] at h
          exact h
        refine st_if (b := true) (Tv.eq tst (by simp [hw])) (fun _ => ?_) fun c => nomatch c
        exact st_raise (lv_c ev_k (lv_c ev_k lv_0)) rfl (okd_two (a := 1) (b := 1) (by unfold big; omega) (by unfold big; omega)) h
end TL
set_option Elab.async false
set_option linter.all false
set_option maxRecDepth 100000
set_option maxHeartbeats 4000000
namespace TL
open PySem PySem.Spec PyProof.Rows L2
theorem lineM_ne {ws : List Str} {low many : Int} {g : Nat × List Nat} (h : lineM ws low many = .ok g) : g.2 ≠ [] := by
  unfold lineM at h
  split at h
  · cases h
  · split at h
    · cases h
    · split at h
      · cases h
      · split at h
        · split at h
          · cases h
          · rename_i hne
            split at h
            · cases h
            · rename_i l1 hg
              cases h
              have := goM_len hg
              intro z
              have z2 : l1.length = 0 := by simpa using congrArg List.length z
              rw [this] at z2
              exact hne (List.length_eq_zero_iff.mp z2)
        · cases h
theorem ev_line {φ : FF} {ρ : Rho} {n : NF} {ws : List Str} {low many : Int} (hφ : φ = p__law_line) (k : Lv n ρ [strsT ws, .int low, .int many]) (hne : ws ≠ []) (hs : szW ws ≤ big) :
    Ev (sCall φ n) ρ (match lineM ws low many with | .error p => .int p | .ok g => .list (prsD g.1 g.2)) := by
  subst hφ
  refine ev_f k fun R z => ⟨ws, low, many, rfl, hne, hs, ?_⟩
  cases hl : lineM ws low many with
  | error p => rw [hl] at z; exact z
  | ok g => rw [hl] at z; exact z
theorem pl__law_read : ∀ ds (R : D → Prop), p__law_read ds R → fBody 1 (N__law_read.length - 1) b__law_read ds R := by
  rintro _ R ⟨x, rfl, hx, ha, h⟩
  refine ⟨rfl, ?_⟩
  show b__law_read [.fz (.str x), .un, .un, .un, .un, .un, .un, .un, .un] _
  have hz : x.length + 2 ≤ sizeLine := by rw [sizeLine_eq]; omega
  have hlen := sp10.split_len x
  have hpart : ∀ p ∈ Txt.split x "\n", p.length ≤ x.length := fun p hp => sp10.part_len hp
  have hrs := rows_of hx ha
  obtain ⟨a, z, e⟩ := last_split (sp10.ne x)
  unfold readM at h
  rw [e] at h hlen hpart hrs
  simp only [List.getLast?_append, List.getLast?_singleton, Option.some_or, List.dropLast_concat, Option.getD_some] at h hrs
  rw [List.length_append, List.length_singleton] at hlen
  have hzl : z.length ≤ x.length := hpart z (by simp)
  have hzs : z.length ≤ sizeLine := by omega
  refine st_set (ev_N (Lv.eq (lv_split (ev_v rfl) ev_k rfl hz) (congrArg (List.map PyData.str) e))) ?_
  have lst : Ev (s2 gIx (sVar 1) (s1 gNeg (sC (.int 1)))) [.fz (.str x), .fz (.list ((a ++ [z]).map .str)), .un, .un, .un, .un, .un, .un, .un] (.str z) :=
    ev_2 (ev_v rfl) (ev_1 ev_k v_neg) (v_ixL (by rw [List.map_append]; exact atI_last _ _))
  refine st_if (tv_b (ev_2 lst ev_k v_neS)) (fun c => ?_) fun c => ?_
  · have hne : z ≠ "" := by simpa using c
    rw [if_neg fun q => hne (Option.some.inj q)] at h
    refine st_ret (ev_T (lv_c (ev_1 (ev_v rfl) v_lenL) (lv_c (ev_2 (ev_1 lst (v_lenS hzs)) ev_k v_addI) lv_0)) sz2) ?_
    rw [List.length_map]
    exact h
  have he : z = "" := by simpa using c
  subst he
  rw [if_pos rfl] at h
  have cutE : cutD ((a ++ [("" : Str)]).map PyData.str) none (some (-1)) = a.map .str := by
    rw [List.map_append]
    exact cut_init _ _
  refine st_set (ev_N (Lv.eq (lv_map1 (fun d => match d with | .str l => strsT (wordsS l) | _ => .none) (lv_seq (ev_N (lv_sl (ev_v rfl) ov_no (ov_is (ev_1 ev_k v_neg)))) rfl) (by rw [cutE, List.length_map, sizeLine_eq]; omega) (fun _ => rfl) fun d hd => ?_) (show _ = (a.map wordsS).map strsT by rw [cutE, List.map_map, List.map_map]; rfl))) ?_
  · rw [cutE] at hd
    obtain ⟨l, hl, rfl⟩ := List.mem_map.mp hd
    have := hpart l (by simp [hl])
    exact ev_N (lv_split (ev_v rfl) ev_k rfl (by omega))
  generalize hlines : PyData.list ((a ++ [("" : Str)]).map .str) = L1
  clear lst cutE
  generalize a.map wordsS = rows at h hrs
  have hb : (100002 : Nat) ≤ big := by unfold big; omega
  have eq0 : ∀ {ρ : Rho}, ρ[2]? = some (.fz (.list (rows.map strsT))) → Tv (tBool (s2 uEq (sVar 2) (sN (nLst aNil)))) ρ (decide (rows = [])) := fun {ρ} hρ =>
    Tv.eq (tv_b (ev_2 (ev_v hρ) (ev_N (lv_l lv_0 (Nat.zero_le _))) (v_eqD (shaped_rows hrs.asc) rfl))) eqv_rows
  cases hrows : rows with
  | nil =>
    subst hrows
    refine st_if (b := true) (Tv.eq (tv_o (b' := true) (eq0 rfl) fun c => by simp at c) (by simp)) (fun _ => ?_) fun c => nomatch c
    exact st_ret (ev_T (lv_c ev_k (lv_c ev_k lv_0)) sz2) h
  | cons r0 rest =>
    rw [← hrows]
    have g0 : rows[0]? = some r0 := by rw [hrows]; rfl
    have m0 : r0 ∈ rows := by rw [hrows]; exact List.mem_cons_self
    have z0 : szW r0 ≤ big := Nat.le_trans (hrs.mem m0) hb
    obtain ⟨w0, r, e0⟩ := List.exists_cons_of_ne_nil (hrs.ne r0 m0)
    have g00 : r0[0]? = some w0 := by rw [e0]; rfl
    have row0 : ∀ {ρ : Rho}, ρ[2]? = some (.fz (.list (rows.map strsT))) → Ev (s2 gIx (sVar 2) (sC (.int 0))) ρ (strsT r0) := fun {ρ} hρ => ev_2 (ev_v hρ) ev_k (v_ixL (ix_rows (k := 0) g0))
    have tst : Tv (tOr2 (tBool (s2 uEq (sVar 2) (sN (nLst aNil)))) (tBool (s2 uNe (s2 gIx (s2 gIx (sVar 2) (sC (.int 0))) (sC (.int 0))) (sC (.str "web"))))) [.fz (.str x), .fz L1, .fz (.list (rows.map strsT)), .un, .un, .un, .un, .un, .un] (!decide (w0 = "web")) :=
      Tv.eq (tv_o (eq0 rfl) fun _ => tv_b (ev_2 (ev_2 (row0 rfl) ev_k (v_ixL (ix_strs (k := 0) g00))) ev_k v_neS)) (by simp [hrows])
    by_cases hw : w0 = "web"
    · refine st_if (b := false) (Tv.eq tst (by simp [hw])) (fun c => nomatch c) fun _ => ?_
      have noneCase : rowsM rows = .error (1, plc r0 1) → R (.tuple [.int (1 : Nat), .int (plc r0 1 : Nat)]) := fun e => by
        rw [e] at h
        exact h
      have lenR : ∀ {ρ : Rho} {g2 : Int}, ρ[2]? = some (.fz (.list (rows.map strsT))) → Tv (tBool (s2 TL.gGt (s1 gLen (s2 gIx (sVar 2) (sC (.int 0)))) (sC (.int g2)))) ρ (decide (g2 < (r0.length : Int))) := fun {ρ g2} hρ =>
        Tv.eq (tv_b (ev_2 (ev_1 (row0 hρ) v_lenL) ev_k v_gtI)) (by rw [List.length_map])
      have h1b : 1 ≤ big := by unfold big; omega
      have h2b : 2 ≤ big := by unfold big; omega
      cases hr : r with
      | nil =>
        have l1 : r0.length = 1 := by rw [e0, hr]; rfl
        refine st_set (ev_if_ (b := false) (d := .none) (Tv.eq (lenR rfl) (by rw [l1]; rfl)) (fun c => nomatch c) fun _ => ev_k) ?_
        refine st_if (b := true) (Tv.eq (tv_o (b' := true) (tv_b (ev_2 (ev_v rfl) ev_k v_isN)) fun c => by cases c) rfl) (fun _ => ?_) fun c => nomatch c
        refine st_ret (ev_T (lv_c (ev_k (d := .int (1 : Nat))) (lv_c (ev_plc rfl (lv_c (row0 rfl) (lv_c (ev_if_ (b := true) (d := .int (1 : Nat)) (tv_b (ev_2 (ev_v rfl) ev_k v_isN)) (fun _ => ev_k) fun c => nomatch c) lv_0)) (hrs.ne r0 m0) h1b z0) lv_0)) sz2) (noneCase ?_)
        rw [hrows, e0, hr]
        unfold rowsM
        simp only [if_pos hw]
      | cons w1 more =>
        have g01 : r0[1]? = some w1 := by rw [e0, hr]; rfl
        have l2 : r0.length = more.length + 2 := by rw [e0, hr]; simp
        refine st_set (ev_if_ (b := true) (d := numD w1 0 24) (Tv.eq (lenR rfl) (by rw [l2]; simp; omega)) (fun _ =>
          ev_num rfl (lv_c (ev_2 (row0 rfl) ev_k (v_ixL (ix_strs (k := 1) g01))) (lv_c ev_k (lv_c ev_k lv_0))) (mem_big z0 (List.mem_of_getElem? g01))) fun c => nomatch c) ?_
        cases hn : numIn w1 0 24 with
        | none =>
          rw [numD_none hn]
          refine st_if (b := true) (Tv.eq (tv_o (b' := true) (tv_b (ev_2 (ev_v rfl) ev_k v_isN)) fun c => by cases c) rfl) (fun _ => ?_) fun c => nomatch c
          refine st_ret (ev_T (lv_c (ev_k (d := .int (1 : Nat))) (lv_c (ev_plc rfl (lv_c (row0 rfl) (lv_c (ev_if_ (b := true) (d := .int (1 : Nat)) (tv_b (ev_2 (ev_v rfl) ev_k v_isN)) (fun _ => ev_k) fun c => nomatch c) lv_0)) (hrs.ne r0 m0) h1b z0) lv_0)) sz2) (noneCase ?_)
          rw [hrows, e0, hr]
          unfold rowsM
          simp only [if_pos hw, hn]
        | some n =>
          rw [numD_some hn]
          cases hm : more with
          | cons w2 more2 =>
            have l3 : r0.length = more2.length + 3 := by rw [l2, hm]; simp
            refine st_if (b := true) (Tv.eq (tv_o (tv_b (ev_2 (ev_v rfl) ev_k v_isN)) fun _ => lenR rfl) (by rw [l3]; simp [isN]; omega)) (fun _ => ?_) fun c => nomatch c
            refine st_ret (ev_T (lv_c (ev_k (d := .int (1 : Nat))) (lv_c (ev_plc rfl (lv_c (row0 rfl) (lv_c (ev_if_ (b := false) (d := .int (2 : Nat)) (tv_b (ev_2 (ev_v rfl) ev_k v_isN)) (fun c => nomatch c) fun _ => ev_k) lv_0)) (hrs.ne r0 m0) h2b z0) lv_0)) sz2) ?_
            have e : rowsM rows = .error (1, plc r0 2) := by
              rw [hrows, e0, hr, hm]
              unfold rowsM
              simp only [if_pos hw, hn]
            rw [e] at h
            exact h
          | nil =>
            have l3 : r0.length = 2 := by rw [l2, hm]; rfl
            have e : rowsM rows = match goW n 1 0 rest with | .error e => .error e | .ok gs => .ok (n, gs) := by
              conv => lhs; rw [hrows, e0, hr, hm]
              unfold rowsM
              simp only [if_pos hw, hn]
              all_goals (cases goW n 1 0 rest <;> rfl)
            rw [e] at h
            refine st_if (b := false) (Tv.eq (tv_o (tv_b (ev_2 (ev_v rfl) ev_k v_isN)) fun _ => lenR rfl) (by rw [l3]; rfl)) (fun c => nomatch c) fun _ => ?_
            refine st_parK (kv_E (ev_N (lv_l lv_0 (Nat.zero_le _)))) (kv_E ev_k) ?_
            have lrows : rows.length = rest.length + 1 := by rw [hrows]; simp
            have hlr := hrs.len
            refine st_for (lv_rB (i := (1 : Nat)) (j := ((1 + rest.length : Nat) : Int)) (Lv.eq (lv_c ev_k (lv_c (ev_1 (ev_v rfl) v_lenL) lv_0)) ?_) (by omega)) ?_
            · rw [List.length_map, lrows, Nat.add_comm]
              rfl
            rw [rng_up]
            refine for_rec (fun ds ρ => ∃ (k : Nat) (rest' : List (List Str)) (done : List (Nat × List Nat)) (low : Nat) (s6 s7 : Sl), ds = upD k rest'.length ∧ rows.drop k = rest' ∧
              ρ = [.fz (.str x), .fz L1, .fz (.list (rows.map strsT)), .fz (.int n), .fz (.list ((prsN done).map prD)), .fz (.int low), s6, s7, .un] ∧ (prsN done).length + (rest'.map szW).sum ≤ 100002 ∧
              (match goW n k low rest' with | .error e => R (.tuple [.int e.1, .int e.2]) | .ok gs => R (webD n (done ++ gs)))) (fun ρ q => ?_) (fun d ds ρ E' q k1 k2 k3 k4 => ?_) _ _ ?_
            · obtain ⟨k, r', done, low, s6, s7, e1, e2, rfl, e4, q⟩ := q
              obtain rfl : r' = [] := by
                cases r' with
                | nil => rfl
                | cons a t => rw [List.length_cons, up_cons] at e1; cases e1
              refine st_ret (ev_T (lv_c ev_k (lv_c (ev_v rfl) (lv_c (ev_1 (ev_v rfl) v_tupL) lv_0))) (by rw [sizeLine_eq]; exact (by decide : 3 ≤ 16777216))) ?_
              have q2 : R (webD n (done ++ [])) := q
              rw [List.append_nil] at q2
              exact q2
            · obtain ⟨k, r', done, low, s6, s7, e1, e2, rfl, e4, q⟩ := q
              cases r' with
              | nil => cases e1
              | cons ws r'' =>
                rw [List.length_cons, up_cons] at e1
                cases e1
                have gk : rows[k]? = some ws := by
                  have z := congrArg (·[0]?) e2
                  simpa using z
                have mk : ws ∈ rows := List.mem_of_getElem? gk
                have zk := hrs.mem mk
                rw [List.map_cons, List.sum_cons] at e4
                unfold goW at q
                refine st_set (ev_line rfl (lv_c (ev_2 (ev_v rfl) (ev_v rfl) (v_ixL (ix_rows gk))) (lv_c (ev_v rfl) (lv_c (ev_v rfl) lv_0))) (hrs.ne ws mk) (Nat.le_trans zk hb)) ?_
                cases hl : lineM ws low n with
                | error p =>
                  rw [hl] at q
                  refine st_if (b := true) (tv_b (ev_1 (ev_v rfl) v_isiI)) (fun _ => ?_) fun c => nomatch c
                  refine st_ret (ev_T (lv_c (ev_2 (ev_v rfl) ev_k v_addI) (lv_c (ev_v rfl) lv_0)) sz2) ?_
                  rw [k3]
                  exact q
                | ok g =>
                  rw [hl] at q
                  have gl := lineM_len hl
                  have wl := len_szW ws
                  refine st_if (b := false) (tv_b (ev_1 (ev_v rfl) v_isiL)) (fun c => nomatch c) fun _ => ?_
                  obtain ⟨b0, t0, eb⟩ := List.exists_cons_of_ne_nil (lineM_ne hl)
                  have i0 : atI (prsD g.1 g.2) 0 = some (.tuple [.int g.1, .int b0]) := by
                    rw [eb]
                    exact atI_nat (j := 0) rfl
                  refine st_parK (kv_E (ev_N (lv_2 (ev_v rfl) (ev_v rfl) (v_cat (by rw [List.length_map, prsD_len, sizeLine_eq]; omega))))) (kv_E (ev_2 (ev_2 (ev_2 (ev_v rfl) ev_k (v_ixL i0)) ev_k (v_ixT (atI_nat (j := 0) rfl))) ev_k v_addI)) ?_
                  refine k1 _ ⟨k + 1, r'', done ++ [g], g.1 + 1, _, _, rfl, ?_, by rw [prsN_app]; rfl, ?_, ?_⟩
                  · rw [← List.drop_drop, e2]
                    rfl
                  · have : (prsN (done ++ [g])).length = (prsN done).length + g.2.length := by
                      unfold prsN
                      rw [List.flatMap_append, List.length_append]
                      simp
                    omega
                  · dsimp only at q
                    cases hg : goW n (k + 1) (g.1 + 1) r'' with
                    | error e => rw [hg] at q; exact q
                    | ok l =>
                      rw [hg] at q
                      show R (webD n (done ++ [g] ++ l))
                      rw [List.append_assoc]
                      exact q
            · refine ⟨1, rest, [], 0, _, _, rfl, by rw [hrows]; rfl, rfl, ?_, ?_⟩
              · have := hrs.sz
                rw [hrows, List.map_cons, List.sum_cons] at this
                show 0 + _ ≤ _
                omega
              · cases hg : goW n 1 0 rest with
                | error e => rw [hg] at h; exact h
                | ok l => rw [hg] at h; exact h
    · have h : R (.tuple [.int (1 : Nat), .int (1 : Nat)]) := by
        have e : rowsM rows = .error (1, 1) := by rw [hrows, e0]; unfold rowsM; simp only [if_neg hw]
        rw [e] at h
        exact h
      refine st_if (b := true) (Tv.eq tst (by simp [hw])) (fun _ => ?_) fun c => nomatch c
      exact st_ret (ev_T (lv_c ev_k (lv_c ev_k lv_0)) sz2) h
end TL
set_option Elab.async false
set_option linter.all false
set_option maxRecDepth 100000
set_option maxHeartbeats 4000000
/-! What a text that is read shows again. -/
namespace TL
open PySem PySem.Spec PyProof.Rows L2
theorem goM_ok {ws : List Str} {many : Int} {n : Nat} (hn : many = n) : ∀ {r : List Str} {k last : Nat} {l : List Nat}, goM ws many k last r = .ok l → r = l.map nS ∧ (∀ b ∈ l, last < b ∧ b < n) ∧ l.Pairwise (· < ·)
  | [], k, last, l, h => by cases h; exact ⟨rfl, fun b hb => (nomatch hb), .nil⟩
  | w :: r, k, last, l, h => by
    unfold goM at h
    cases hv : numIn w ((last : Int) + 1) (many - 1) with
    | none => rw [hv] at h; cases h
    | some v =>
      rw [hv] at h
      dsimp only at h
      cases hg : goM ws many (k + 1) v r with
      | error p => rw [hg] at h; cases h
      | ok t =>
        rw [hg] at h
        cases h
        obtain ⟨a, b, c⟩ := goM_ok hn hg
        obtain ⟨_, e, g1, g2⟩ := numIn_some hv
        refine ⟨by rw [a, e]; rfl, fun x hx => ?_, List.pairwise_cons.2 ⟨fun x hx => (b x hx).1, c⟩⟩
        rcases List.mem_cons.mp hx with rfl | hx
        · omega
        · have := b x hx; omega
theorem lineM_ok {ws : List Str} {low : Nat} {n : Nat} {g : Nat × List Nat} (h : lineM ws low n = .ok g) : ws = nS g.1 :: "-" :: g.2.map nS ∧ low ≤ g.1 ∧ g.1 < n ∧ g.2 ≠ [] ∧ (∀ b ∈ g.2, g.1 < b ∧ b < n) ∧ g.2.Pairwise (· < ·) := by
  have hne := lineM_ne h
  unfold lineM at h
  split at h
  · cases h
  · split at h
    · cases h
    · rename_i f hf
      split at h
      · cases h
      · split at h
        · rename_i hw
          split at h
          · cases h
          · split at h
            · cases h
            · rename_i l1 hg
              cases h
              obtain ⟨a, b, c⟩ := goM_ok rfl hg
              obtain ⟨_, e, g1, g2⟩ := numIn_some hf
              refine ⟨by rw [a, e, hw], by omega, by omega, hne, b, c⟩
        · cases h
theorem goW_ok {n : Nat} : ∀ {rows : List (List Str)} {k low : Nat} {gs : List (Nat × List Nat)}, goW n k low rows = .ok gs → rows = gs.map (fun g => nS g.1 :: "-" :: g.2.map nS) ∧ GOk n low gs
  | [], k, low, gs, h => by cases h; exact ⟨rfl, trivial⟩
  | ws :: r, k, low, gs, h => by
    unfold goW at h
    cases hg : lineM ws low n with
    | error p => rw [hg] at h; cases h
    | ok g =>
      rw [hg] at h
      dsimp only at h
      cases ht : goW n (k + 1) (g.1 + 1) r with
      | error e => rw [ht] at h; cases h
      | ok t =>
        rw [ht] at h
        cases h
        obtain ⟨a, b⟩ := goW_ok ht
        obtain ⟨e, h1, h2, h3, h4, h5⟩ := lineM_ok hg
        exact ⟨by rw [List.map_cons, ← a, ← e], h1, h2, h3, h4, h5, b⟩
theorem goM_back {ws : List Str} {n : Nat} : ∀ {l : List Nat} {k last : Nat}, n ≤ 1000 → (∀ b ∈ l, last < b ∧ b < n) → l.Pairwise (· < ·) → goM ws (n : Int) k last (l.map nS) = .ok l
  | [], k, last, _, _, _ => rfl
  | v :: t, k, last, hn, h1, h2 => by
    have hv := h1 v List.mem_cons_self
    obtain ⟨p1, p2⟩ := List.pairwise_cons.1 h2
    rw [List.map_cons]
    unfold goM
    rw [numIn_nS (by omega) (by omega) (by omega)]
    dsimp only
    rw [goM_back hn (fun b hb => ⟨p1 b hb, (h1 b (List.mem_cons_of_mem _ hb)).2⟩) p2]
theorem lineM_back {low n : Nat} {g : Nat × List Nat} (hn : n ≤ 1000) (h1 : low ≤ g.1) (h2 : g.1 < n) (h3 : g.2 ≠ []) (h4 : ∀ b ∈ g.2, g.1 < b ∧ b < n) (h5 : g.2.Pairwise (· < ·)) :
    lineM (nS g.1 :: "-" :: g.2.map nS) low n = .ok g := by
  obtain ⟨f, l⟩ := g
  obtain ⟨v, t, rfl⟩ := List.exists_cons_of_ne_nil h3
  unfold lineM
  dsimp only at h1 h2 h4 h5 ⊢
  rw [numIn_nS (by omega) (by omega) (by omega)]
  dsimp only
  rw [if_pos rfl, List.map_cons]
  dsimp only
  rw [← List.map_cons, goM_back hn h4 h5]
theorem goW_back {n : Nat} (hn : n ≤ 1000) : ∀ {gs : List (Nat × List Nat)} {k low : Nat}, GOk n low gs → goW n k low (gs.map fun g => nS g.1 :: "-" :: g.2.map nS) = .ok gs
  | [], k, low, _ => rfl
  | g :: t, k, low, h => by
    obtain ⟨h1, h2, h3, h4, h5, h6⟩ := h
    rw [List.map_cons]
    unfold goW
    rw [lineM_back hn h1 h2 h3 h4 h5]
    dsimp only
    rw [goW_back hn h6]
end TL
set_option Elab.async false
set_option linter.all false
set_option maxRecDepth 100000
set_option maxHeartbeats 4000000
namespace TL
open PySem PySem.Spec PyProof.Rows L2
theorem words_back (ws : List Str) (hne : ws ≠ []) (h : ∀ w ∈ ws, 32 ∉ tl w) : wordsS (Txt.join " " ws) = ws := sp32.split_join hne h
theorem join_words (x : Str) : Txt.join " " (wordsS x) = x := sp32.join_split x
theorem nS_free {n s : Nat} (h : s < 48 ∨ 57 < s) : s ∉ tl (nS n) := by rw [tl_nS]; exact numL_free h
theorem joinL_mem {s c : Nat} : ∀ {ps : List (List Nat)}, c ∈ joinL [s] ps → c = s ∨ ∃ p ∈ ps, c ∈ p
  | [], h => by cases h
  | [p], h => .inr ⟨p, by simp, h⟩
  | p :: q :: r, h => by
    have h : c ∈ p ++ ([s] ++ joinL [s] (q :: r)) := h
    rcases List.mem_append.mp h with h | h
    · exact .inr ⟨p, by simp, h⟩
    · rcases List.mem_append.mp h with h | h
      · exact .inl (by simpa using h)
      · rcases joinL_mem h with h | ⟨u, hu, h⟩
        · exact .inl h
        · exact .inr ⟨u, List.mem_cons_of_mem _ hu, h⟩
theorem join_mem {y : Str} {s c : Nat} (hy : Sep1 y s) {ps : List Str} (h : c ∈ tl (Txt.join y ps)) : c = s ∨ ∃ p ∈ ps, c ∈ tl p := by
  rw [join_eq, tl_join, hy.tl] at h
  rcases joinL_mem h with h | ⟨p, hp, h⟩
  · exact .inl h
  · obtain ⟨q, hq, rfl⟩ := List.mem_map.mp hp
    exact .inr ⟨q, hq, h⟩
theorem row_words {g : Nat × List Nat} : ∀ w ∈ nS g.1 :: ("-" : Str) :: g.2.map nS, ∀ s, (s < 45 ∨ 57 < s) → s ∉ tl w := by
  intro w hw s hs
  rcases List.mem_cons.mp hw with rfl | hw
  · exact nS_free (by omega)
  · rcases List.mem_cons.mp hw with rfl | hw
    · have e : tl ("-" : Str) = [45] := rfl
      rw [e]
      simp
      omega
    · obtain ⟨b, _, rfl⟩ := List.mem_map.mp hw
      exact nS_free (by omega)
theorem web_tl : tl ("web" : Str) = [119, 101, 98] := by decide +kernel
theorem linesG_free {n : Nat} {gs : List (Nat × List Nat)} : ∀ l ∈ linesG n gs ++ [("" : Str)], 10 ∉ tl l := by
  intro l hl hc
  rcases List.mem_append.mp hl with hl | hl
  · rcases List.mem_cons.mp hl with rfl | hl
    · rcases join_mem sp32 hc with h | ⟨p, hp, h⟩
      · cases h
      · rcases List.mem_cons.mp hp with rfl | hp
        · rw [web_tl] at h; simp at h
        · rw [List.mem_singleton.mp hp] at h
          exact nS_free (by omega) h
    · obtain ⟨g, _, rfl⟩ := List.mem_map.mp hl
      rcases join_mem sp32 hc with h | ⟨p, hp, h⟩
      · cases h
      · exact row_words p hp 10 (by omega) h
  · rw [List.mem_singleton.mp hl] at hc
    cases hc
theorem linesG_words {n : Nat} {gs : List (Nat × List Nat)} : (linesG n gs).map wordsS = [("web" : Str), nS n] :: gs.map fun g => nS g.1 :: ("-" : Str) :: g.2.map nS := by
  unfold linesG
  rw [List.map_cons, List.map_map]
  congr 1
  · refine words_back _ (by simp) fun w hw => ?_
    rcases List.mem_cons.mp hw with rfl | hw
    · rw [web_tl]; simp
    · rw [List.mem_singleton.mp hw]
      exact nS_free (by omega)
  · refine List.map_congr_left fun g _ => ?_
    exact words_back _ (by simp) fun w hw => row_words w hw 32 (by omega)
theorem read_back {n : Nat} {gs : List (Nat × List Nat)} (hn : n ≤ 24) (h : GOk n 0 gs) : readM (textG n gs) = .ok (n, gs) := by
  have e : Txt.split (textG n gs) "\n" = linesG n gs ++ [("" : Str)] := sp10.split_join (by simp) linesG_free
  unfold readM
  simp only [e, List.getLast?_append, List.getLast?_singleton, Option.some_or, if_true, List.dropLast_concat]
  rw [linesG_words]
  unfold rowsM
  dsimp only
  rw [if_pos rfl, numIn_nS (by omega) (by omega) (by omega)]
  dsimp only
  rw [goW_back (by omega) h]
theorem read_ok {x : Str} {n : Nat} {gs : List (Nat × List Nat)} (h : readM x = .ok (n, gs)) : n ≤ 24 ∧ GOk n 0 gs ∧ textG n gs = x := by
  obtain ⟨a, z, e⟩ := last_split (sp10.ne x)
  unfold readM at h
  simp only [e, List.getLast?_append, List.getLast?_singleton, Option.some_or, List.dropLast_concat] at h
  split at h
  · rename_i hz
    have hz : z = "" := Option.some.inj hz
    subst hz
    have hrows : n ≤ 24 ∧ GOk n 0 gs ∧ a.map wordsS = [("web" : Str), nS n] :: gs.map fun g => nS g.1 :: ("-" : Str) :: g.2.map nS := by
      generalize a.map wordsS = rows at h
      unfold rowsM at h
      split at h
      · cases h
      · split at h
        · cases h
        · split at h
          · rename_i hw
            split at h
            · cases h
            · split at h
              · cases h
              · rename_i m hm
                split at h
                · cases h
                · split at h
                  · cases h
                  · rename_i g2 hg
                    cases h
                    obtain ⟨p, q⟩ := goW_ok hg
                    obtain ⟨_, e2, _, e4⟩ := numIn_some hm
                    exact ⟨by omega, q, by rw [hw, e2, p]⟩
          · cases h
    refine ⟨hrows.1, hrows.2.1, ?_⟩
    have ea : a = linesG n gs := by
      have e3 : a = (a.map wordsS).map (Txt.join " ") := by
        rw [List.map_map]
        conv => lhs; rw [← List.map_id a]
        exact List.map_congr_left fun l _ => (join_words l).symm
      rw [e3, hrows.2.2, List.map_cons, List.map_map]
      rfl
    unfold textG
    rw [← ea, ← e]
    exact sp10.join_split x
  · cases h
end TL
set_option Elab.async false
set_option linter.all false
set_option maxRecDepth 100000
set_option maxHeartbeats 4000000
namespace TL
open PySem PySem.Spec PyProof.Rows L2
theorem prD_lay (p : Nat × Nat) : (prD p).canLay0 = true := rfl
theorem prD_dep (p : Nat × Nat) : (prD p).depth ≤ 1 := by simp [prD, PyData.depth, PyData.depthAll]
theorem webD_shaped (n : Nat) (gs : List (Nat × List Nat)) : SeqAt.shaped (webD n gs) = true := by
  unfold SeqAt.shaped webD
  have h1 := lay_all prD (prsN gs) fun p _ => prD_lay p
  have h2 := dep_all prD 1 (prsN gs) fun p _ => prD_dep p
  have h3 : PyData.strOk ("web" : Str) = true := by decide +kernel
  simp [PyData.canLay0, PyData.canLayAll0, h1, h3, PyData.depth, PyData.depthAll]
  omega
theorem eqv_self {d : D} (h : SeqAt.shaped d = true) : PyData.eqv d d = true := SeqAt.eqv_refl d (SeqAt.canLay_of_shaped h)
theorem pl__law_holds : ∀ ds (R : D → Prop), p__law_holds ds R → fBody 1 (N__law_holds.length - 1) b__law_holds ds R := by
  rintro _ R ⟨x, rfl, hx, ha, h⟩
  refine ⟨rfl, ?_⟩
  show b__law_holds [.fz (.str x), .un, .un, .un] _
  cases hr : readM x with
  | error e =>
    refine st_set (d := .tuple [.int e.1, .int e.2]) (ev_f (lv_c (ev_v rfl) lv_0) fun R z => ⟨x, rfl, hx, ha, by rw [hr]; exact z⟩) ?_
    refine st_setX (lv_c (ev_v rfl) lv_0) ⟨x, rfl, hx, ha, ?_⟩
    rw [hr]
    refine ⟨rfl, Nat.lt_succ_self 3, e.1, e.2, .tuple [.int e.1, .int e.2], rfl, rfl, rfl, ?_⟩
    show R _
    rw [eqv_self (d := .tuple [.int e.1, .int e.2]) rfl]
    exact h
  | ok q =>
    obtain ⟨n, gs⟩ := q
    obtain ⟨h1, h2, h3⟩ := read_ok hr
    have sh := webD_shaped n gs
    refine st_set (d := webD n gs) (ev_f (lv_c (ev_v rfl) lv_0) fun R z => ⟨x, rfl, hx, ha, by rw [hr]; exact z⟩) ?_
    refine st_setX (lv_c (ev_v rfl) lv_0) ⟨x, rfl, hx, ha, ?_⟩
    rw [hr]
    refine st_ret (Ev.eq (ev_and (ev_1 (ev_v rfl) (v_isiT (k := true))) fun _ => ev_and (ev_2 (ev_v rfl) (ev_v rfl) (v_eqD sh sh)) fun _ =>
      ev_and (ev_2 (ev_f (d := .bool true) (lv_c (ev_v rfl) lv_0) fun R z => ⟨n, gs, h1, h2, rfl, z⟩) ev_k v_isB) fun _ =>
        ev_2 (ev_f (d := .str (textG n gs)) (lv_c (ev_v rfl) lv_0) fun R z => ⟨n, gs, h1, h2, rfl, z⟩) (ev_v rfl) v_eqS) (e := .bool true) ?_) h
    rw [eqv_self sh, h3]
    simp
end TL
set_option Elab.async false
set_option linter.all false
set_option maxRecDepth 100000
set_option maxHeartbeats 4000000
namespace TL
open PySem PySem.Spec PyProof.Rows L2
/-- pairs that rise -/
theorem prsN_mem {n : Nat} : ∀ {gs : List (Nat × List Nat)} {low : Nat}, GOk n low gs → ∀ p ∈ prsN gs, low ≤ p.1 ∧ p.1 < p.2 ∧ p.2 < n
  | [], low, _, p, hp => by cases hp
  | g :: t, low, h, p, hp => by
    obtain ⟨h1, h2, h3, h4, h5, h6⟩ := h
    unfold prsN at hp
    rw [List.flatMap_cons] at hp
    rcases List.mem_append.mp hp with hp | hp
    · obtain ⟨b, hb, rfl⟩ := List.mem_map.mp hp
      have := h4 b hb
      exact ⟨h1, this.1, this.2⟩
    · have := prsN_mem h6 p hp
      omega
def ltP (p q : Nat × Nat) : Prop := p.1 < q.1 ∨ p.1 = q.1 ∧ p.2 < q.2
theorem prsN_up {n : Nat} : ∀ {gs : List (Nat × List Nat)} {low : Nat}, GOk n low gs → (prsN gs).Pairwise ltP
  | [], low, _ => .nil
  | g :: t, low, h => by
    obtain ⟨h1, h2, h3, h4, h5, h6⟩ := h
    unfold prsN
    rw [List.flatMap_cons, List.pairwise_append]
    refine ⟨?_, prsN_up h6, fun p hp q hq => ?_⟩
    · rw [List.pairwise_map]
      exact h5.imp fun h => .inr ⟨rfl, h⟩
    · obtain ⟨b, hb, rfl⟩ := List.mem_map.mp hp
      have := prsN_mem h6 q hq
      exact .inl (by omega)
theorem up_len {n : Nat} : ∀ {l : List Nat} {m : Nat}, l.Pairwise (· < ·) → (∀ b ∈ l, m ≤ b ∧ b < n) → l.length ≤ n - m
  | [], m, _, _ => Nat.zero_le _
  | b :: t, m, h, hb => by
    obtain ⟨p1, p2⟩ := List.pairwise_cons.1 h
    have ih := up_len (m := b + 1) p2 fun x hx => ⟨p1 x hx, (hb x (List.mem_cons_of_mem _ hx)).2⟩
    have := hb b List.mem_cons_self
    rw [List.length_cons]
    omega
theorem prsN_len {n : Nat} : ∀ {gs : List (Nat × List Nat)} {low : Nat}, n ≤ 24 → GOk n low gs → (prsN gs).length ≤ (n - low) * 24
  | [], low, _, _ => Nat.zero_le _
  | g :: t, low, hn, h => by
    obtain ⟨h1, h2, h3, h4, h5, h6⟩ := h
    have ih := prsN_len hn h6
    unfold prsN at ih ⊢
    rw [List.flatMap_cons, List.length_append, List.length_map]
    have hl : g.2.length ≤ 24 := by
      have := up_len (m := g.1 + 1) (n := n) h5 fun b hb => h4 b hb
      omega
    have e : (n - low) * 24 ≥ (n - (g.1 + 1)) * 24 + 24 := by
      have : n - low ≥ (n - (g.1 + 1)) + 1 := by omega
      omega
    omega
end TL
set_option Elab.async false
set_option linter.all false
set_option maxRecDepth 100000
set_option maxHeartbeats 4000000
namespace TL
open PySem PySem.Spec PyProof.Rows L2
/-- two rising lists of the same members are one -/
theorem up_unique {α : Type} {lt : α → α → Prop} (as : ∀ x y, lt x y → ¬ lt y x) : ∀ {l m : List α}, l.Pairwise lt → m.Pairwise lt → (∀ x, x ∈ l ↔ x ∈ m) → l = m
  | [], [], _, _, _ => rfl
  | [], b :: m, _, _, h => nomatch (h b).2 List.mem_cons_self
  | a :: l, [], _, _, h => nomatch (h a).1 List.mem_cons_self
  | a :: l, b :: m, h1, h2, h => by
    obtain ⟨p1, p2⟩ := List.pairwise_cons.1 h1
    obtain ⟨q1, q2⟩ := List.pairwise_cons.1 h2
    have e : a = b := by
      rcases List.mem_cons.mp ((h a).1 List.mem_cons_self) with e | ha
      · exact e
      · rcases List.mem_cons.mp ((h b).2 List.mem_cons_self) with e | hb
        · exact e.symm
        · exact absurd (p1 b hb) (as _ _ (q1 a ha))
    subst e
    have irr : ∀ x, ¬ lt x x := fun x hx => as x x hx hx
    rw [up_unique as p2 q2 fun x => ⟨fun hx => ?_, fun hx => ?_⟩]
    · rcases List.mem_cons.mp ((h x).1 (List.mem_cons_of_mem _ hx)) with e | hm
      · subst e; exact absurd (p1 x hx) (irr x)
      · exact hm
    · rcases List.mem_cons.mp ((h x).2 (List.mem_cons_of_mem _ hx)) with e | hm
      · subst e; exact absurd (q1 x hx) (irr x)
      · exact hm
theorem lt_prD {p q : Nat × Nat} : ltK (nk (prD p)) (nk (prD q)) = true ↔ ltP p q := by
  obtain ⟨a, b⟩ := p
  obtain ⟨c, d⟩ := q
  simp only [prD, nk, nks, ltK, ltKs_cons, ltP]
  by_cases h : a = c
  · subst h
    by_cases k : b = d
    · subst k
      simp [ltKs]
    · simp [k, ltN]
      intro; omega
  · have h2 : ¬ ((a : Int) = c) := fun z => h (by omega)
    simp [h, h2, ltN]
    try (intro z; exact absurd z h2)
end TL
set_option Elab.async false
set_option linter.all false
set_option maxRecDepth 100000
set_option maxHeartbeats 4000000
namespace TL
open PySem PySem.Spec PyProof.Rows L2
theorem ev_whole {φ : FF} {ρ : Rho} {n : NF} {v lo hi : Int} (hφ : φ = p_is_whole) (k : Lv n ρ [.int v, .int lo, .int hi]) : Ev (sCall φ n) ρ (.bool (decide (lo ≤ v) && decide (v ≤ hi))) := by
  subst hφ
  exact ev_f k fun R z => ⟨v, lo, hi, rfl, z⟩
theorem key_prD (p : Nat × Nat) : KeyD (prD p) := ⟨⟨_, rfl⟩, rfl, by simp [prD, nk, nks, NestedKey.depth, NestedKey.depthAll]⟩
theorem sortset_prs {ps : List (Nat × Nat)} (h : ps.Pairwise ltP) (hl : ps.length < 1000) : VN1 kSortSet (.tuple (ps.map prD)) (ps.map prD) := by
  intro R z
  have hup : (ps.map prD).Pairwise fun x y => ltK (nk x) (nk y) = true := List.pairwise_map.2 (h.imp fun q => lt_prD.2 q)
  refine ⟨_, rfl, fun d hd => ?_, by rw [List.length_map]; exact hl, ⟨fun x hx y hy => ?_, 2, fun d hd => ?_⟩, fun es h1 h2 h3 => ?_⟩
  · obtain ⟨p, _, rfl⟩ := List.mem_map.mp hd
    exact key_prD p
  · obtain ⟨p, _, rfl⟩ := List.mem_map.mp hx
    obtain ⟨q, _, rfl⟩ := List.mem_map.mp hy
    simp [prD, nk, nks, cmpK, cmpKs]
  · obtain ⟨p, _, rfl⟩ := List.mem_map.mp hd
    rfl
  · have e : es = ps.map prD := by
      have hes : ∀ d ∈ es, ∃ p, d = prD p := fun d hd => by
        obtain ⟨p, _, rfl⟩ := List.mem_map.mp ((h1 d).1 hd)
        exact ⟨p, rfl⟩
      refine up_unique (lt := fun x y => ltK (nk x) (nk y) = true ∧ (∃ p, x = prD p) ∧ ∃ q, y = prD q) (fun x y hx hy => ?_) ?_ ?_ h1
      · obtain ⟨k1, ⟨p, rfl⟩, ⟨q, rfl⟩⟩ := hx
        have a := lt_prD.1 k1
        have b := lt_prD.1 hy.1
        unfold ltP at a b
        omega
      · exact List.pairwise_iff_forall_sublist.2 fun {x y} s => ⟨List.pairwise_iff_forall_sublist.1 h3 s, hes x (s.subset (by simp)), hes y (s.subset (by simp))⟩
      · exact List.pairwise_map.2 (h.imp fun q => ⟨lt_prD.2 q, ⟨_, rfl⟩, ⟨_, rfl⟩⟩)
    rw [e]
    exact z
end TL
set_option Elab.async false
set_option linter.all false
set_option maxRecDepth 100000
set_option maxHeartbeats 4000000
namespace TL
open PySem PySem.Spec PyProof.Rows L2
theorem shaped_prs (ps : List (Nat × Nat)) : SeqAt.shaped (.list (ps.map prD)) = true := by
  unfold SeqAt.shaped
  have h1 := lay_all prD ps fun p _ => prD_lay p
  have h2 := dep_all prD 1 ps fun p _ => prD_dep p
  simp [PyData.canLay0, h1, PyData.depth]
  omega
theorem pl_is_web : ∀ ds (R : D → Prop), p_is_web ds R → fBody 1 (N_is_web.length - 1) b_is_web ds R := by
  rintro _ R ⟨n, gs, hn, hg, rfl, h⟩
  refine ⟨rfl, ?_⟩
  show b_is_web [.fz (webD n gs), .un, .un] _
  have hm := prsN_mem hg
  have hl := prsN_len hn hg
  have i0 : atI [PyData.str "web", .int n, .tuple ((prsN gs).map prD)] 0 = some (.str "web") := at_0
  have i1 : atI [PyData.str "web", .int n, .tuple ((prsN gs).map prD)] 1 = some (.int n) := at_1
  have i2 : atI [PyData.str "web", .int n, .tuple ((prsN gs).map prD)] 2 = some (.tuple ((prsN gs).map prD)) := at_2
  refine st_if (b := false) (Tv.eq (tv_o (tv_n (tv_b (ev_1 (ev_v rfl) (v_isiT (k := true))))) fun _ => tv_o (tv_b (ev_2 (ev_1 (ev_v rfl) v_lenT) ev_k v_neI)) fun _ =>
    tv_o (tv_b (ev_2 (ev_2 (ev_v rfl) ev_k (v_ixT i0)) ev_k v_neS)) fun _ => tv_n (tv_b (ev_whole rfl (lv_c (ev_2 (ev_v rfl) ev_k (v_ixT i1)) (lv_c ev_k (lv_c ev_k lv_0)))))) ?_) (fun c => nomatch c) fun _ => ?_
  · simp
    omega
  refine st_if (b := false) (tv_n (tv_b (ev_1 (ev_2 (ev_v rfl) ev_k (v_ixT i2)) (v_isiT (k := true))))) (fun c => nomatch c) fun _ => ?_
  refine st_for (lv_seq (ev_2 (ev_v rfl) ev_k (v_ixT i2)) rfl) ?_
  refine for_rec (fun ds ρ => ∃ (ps : List (Nat × Nat)) (s1 : Sl), ds = ps.map prD ∧ (∀ p ∈ ps, p ∈ prsN gs) ∧ ρ = [.fz (webD n gs), s1, .un]) (fun ρ q => ?_) (fun d ds ρ E' q k1 k2 k3 k4 => ?_) _ _ ⟨prsN gs, _, rfl, fun p hp => hp, rfl⟩
  · obtain ⟨ps, s1, _, _, rfl⟩ := q
    refine st_ret (ev_2 (ev_N (lv_1 (ev_2 (ev_v rfl) ev_k (v_ixT i2)) v_listT)) (ev_N (lv_1 (ev_2 (ev_v rfl) ev_k (v_ixT i2)) (sortset_prs (prsN_up hg) (by omega)))) (v_eqD (shaped_prs _) (shaped_prs _))) ?_
    show R _
    rw [eqv_self (shaped_prs _)]
    exact h
  · obtain ⟨ps, s1, e1, hps, rfl⟩ := q
    cases ps with
    | nil => cases e1
    | cons p t =>
      cases e1
      have hp := hm p (hps p List.mem_cons_self)
      have j0 : atI [PyData.int p.1, .int p.2] 0 = some (.int p.1) := at_0
      have j1 : atI [PyData.int p.1, .int p.2] 1 = some (.int p.2) := at_1
      refine st_if (b := false) (Tv.eq (tv_o (tv_n (tv_b (ev_1 (ev_v rfl) (v_isiT (k := true))))) fun _ => tv_o (tv_b (ev_2 (ev_1 (ev_v rfl) v_lenT) ev_k v_neI)) fun _ =>
        tv_n (tv_b (ev_1 (ev_N (lv_map1 (fun d => match d with | .int v => .bool (decide (0 ≤ v) && decide (v ≤ (n : Int) - 1)) | _ => .none) (lv_seq (ev_v rfl) rfl) sz2 (fun _ => rfl) fun d hd => ?_)) (v_all rfl)))) ?_) (fun c => nomatch c) fun _ => ?_
      · rcases List.mem_cons.mp hd with rfl | hd
        · exact ev_whole rfl (lv_c (ev_v rfl) (lv_c ev_k (lv_c (ev_2 (ev_2 (ev_v rfl) ev_k (v_ixT i1)) ev_k v_subI) lv_0)))
        · rw [List.mem_singleton.mp hd]
          exact ev_whole rfl (lv_c (ev_v rfl) (lv_c ev_k (lv_c (ev_2 (ev_2 (ev_v rfl) ev_k (v_ixT i1)) ev_k v_subI) lv_0)))
      · simp
        omega
      · refine st_if (b := false) (Tv.eq (tv_b (ev_2 (ev_2 (ev_v rfl) ev_k (v_ixT j0)) (ev_2 (ev_v rfl) ev_k (v_ixT j1)) v_geI)) ?_) (fun c => nomatch c) fun _ => ?_
        · simp
          omega
        · exact k1 _ ⟨t, _, rfl, fun q hq => hps q (List.mem_cons_of_mem _ hq), rfl⟩
end TL
set_option Elab.async false
set_option linter.all false
set_option maxRecDepth 100000
set_option maxHeartbeats 4000000
namespace TL
open PySem PySem.Spec PyProof.Rows L2
theorem natsD_inj : ∀ {l m : List Nat}, natsD l = natsD m → l = m
  | [], [], _ => rfl
  | [], _ :: _, h => by cases h
  | _ :: _, [], h => by cases h
  | a :: l, b :: m, h => by
    unfold natsD at h
    rw [List.map_cons, List.map_cons] at h
    injection h with h1 h2
    injection h1 with h1
    rw [natsD_inj h2, show a = b by omega]
theorem mem_natsD {l : List Nat} {d : D} : d ∈ natsD l ↔ ∃ a ∈ l, d = .int (a : Int) := by
  unfold natsD
  rw [List.mem_map]
  exact ⟨fun ⟨a, h, e⟩ => ⟨a, h, e.symm⟩, fun ⟨a, h, e⟩ => ⟨a, h, e.symm⟩⟩
/-- a list of ints that is a permutation of another's numbers -/
theorem perm_nats {l : List Nat} {es : List D} (h : es.Perm (natsD l)) : ∃ l', es = natsD l' ∧ l'.Perm l := by
  refine ⟨es.map (fun d => match d with | .int i => i.toNat | _ => 0), ?_, ?_⟩
  · unfold natsD
    rw [List.map_map]
    conv => lhs; rw [← List.map_id es]
    refine List.map_congr_left fun d hd => ?_
    obtain ⟨a, _, rfl⟩ := mem_natsD.1 (h.mem_iff.1 hd)
    rfl
  · have q := h.map (fun d : D => match d with | .int i => i.toNat | _ => 0)
    refine q.trans ?_
    unfold natsD
    rw [List.map_map]
    have e : l.map ((fun d : D => match d with | .int i => i.toNat | _ => 0) ∘ fun a : Nat => PyData.int (a : Int)) = l := by
      conv => rhs; rw [← List.map_id l]
      exact List.map_congr_left fun a _ => rfl
    rw [e]
theorem sorted_nats {l : List Nat} {R : List D → Prop} (h : ∀ l' : List Nat, l'.Perm l → l'.Pairwise (· ≤ ·) → R (natsD l')) : kSorted (.list (natsD l)) R := by
  refine ⟨_, rfl, fun d hd => ?_, fun _ => ⟨fun x hx y hy => ?_, 0, fun d hd => ?_⟩, fun es h1 h2 => ?_⟩
  · obtain ⟨a, _, rfl⟩ := mem_natsD.1 hd
    exact ⟨rfl, by simp [nk, NestedKey.depth]⟩
  · obtain ⟨a, _, rfl⟩ := mem_natsD.1 hx
    obtain ⟨b, _, rfl⟩ := mem_natsD.1 hy
    rfl
  · obtain ⟨a, _, rfl⟩ := mem_natsD.1 hd
    rfl
  · obtain ⟨l', rfl, hp⟩ := perm_nats h1
    refine h l' hp ?_
    unfold natsD at h2
    exact (List.pairwise_map.1 h2).imp fun {a b} q => by
      simp [nk, ltK, ltN] at q
      omega
end TL
set_option Elab.async false
set_option linter.all false
set_option maxRecDepth 100000
set_option maxHeartbeats 4000000
namespace TL
open PySem PySem.Spec PyProof.Rows L2
theorem comp2_nil {vs : List Nat} {g : GF} {te : NF} {ρ : Rho} : ∀ (ds : List D) (acc : List (List D)) (R : List (List D) → Rho → Prop), acc.length + ds.length ≤ sizeLine →
    (∀ d ∈ ds, ∀ A : List D → Rho → Prop, (∀ ρ3, backR ρ vs ρ3 = ρ → A [] ρ3) → g d (hideR vs ρ) fun ρ1 => te ρ1 A) → R (acc ++ List.replicate ds.length []) ρ → compW2 vs g te ds acc ρ R
  | [], acc, R, _, _, h => by
    have q := h
    simp at q
    exact q
  | d :: ds, acc, R, hl, hs, h => by
    rw [List.length_cons] at hl
    refine hs d List.mem_cons_self _ fun ρ3 e => ⟨by omega, ?_⟩
    rw [e]
    refine comp2_nil ds (acc ++ [[]]) R (by rw [List.length_append, List.length_singleton]; omega) (fun d' h' => hs d' (List.mem_cons_of_mem _ h')) ?_
    rw [List.append_assoc]
    exact h
/-- one more in a row of rows -/
theorem st_app2 {i : Nat} {g f : EF} {ρ : Rho} {E : EndF} {rows : List (List D)} {j : Nat} {row : List D} {d : D} (kg : Ev g ρ (.int (j : Int))) (kf : Ev f ρ d) (e : ρ[i]? = some (.ow2 rows)) (er : rows[j]? = some row) (l : row.length < sizeLine)
    (q : E.nx (ρ.set i (.ow2 (rows.set j (row ++ [d]))))) : fApp2 i g f ρ E :=
  ⟨⟨rows, e⟩, kg _ ⟨⟨rows, j, row, e, rfl, atI_nat er⟩, kf _ ⟨rows, j, j, row, e, rfl, ixN_j (List.getElem?_eq_some_iff.mp er).1, er, l, q⟩⟩⟩
/-- neighbours rows: what each row holds above its own place, and how long it is -/
structure NRows (n : Nat) (rows : List (List Nat)) (done : List (Nat × Nat)) : Prop where
  len : rows.length = n
  up : ∀ (k : Nat) (row : List Nat), rows[k]? = some row → row.filter (fun j => decide (k < j)) = (done.filter fun p => decide (p.1 = k)).map (·.2)
  sz : ∀ row ∈ rows, row.length ≤ done.length * 2
theorem NRows.add {n : Nat} {rows : List (List Nat)} {done : List (Nat × Nat)} (h : NRows n rows done) {a b : Nat} (hab : a < b) (hb : b < n) {ra rb : List Nat} (ea : rows[a]? = some ra) (eb : rows[b]? = some rb) :
    NRows n ((rows.set a (ra ++ [b])).set b (rb ++ [a])) (done ++ [(a, b)]) := by
  refine ⟨by rw [List.length_set, List.length_set]; exact h.len, fun k row e => ?_, fun row hr => ?_⟩
  · have la : a < rows.length := by rw [h.len]; omega
    have lb : b < rows.length := by rw [h.len]; omega
    rw [List.getElem?_set] at e
    rw [List.filter_append, List.map_append]
    by_cases kb : b = k
    · subst kb
      rw [if_pos rfl, if_pos (by rw [List.length_set]; exact lb)] at e
      cases e
      rw [List.filter_append, h.up b rb eb]
      simp [show ¬ a = b by omega, show ¬ b < a by omega]
    · rw [if_neg kb, List.getElem?_set] at e
      by_cases ka : a = k
      · subst ka
        rw [if_pos rfl, if_pos la] at e
        cases e
        rw [List.filter_append, h.up a ra ea]
        simp [hab]
      · rw [if_neg ka] at e
        rw [h.up k row e]
        simp [ka]
  · rw [List.length_append, List.length_singleton]
    have m1 := h.sz ra (List.mem_of_getElem? ea)
    have m2 := h.sz rb (List.mem_of_getElem? eb)
    rcases List.mem_or_eq_of_mem_set hr with hr | rfl
    · rcases List.mem_or_eq_of_mem_set hr with hr | rfl
      · have := h.sz row hr; omega
      · rw [List.length_append, List.length_singleton]; omega
    · rw [List.length_append, List.length_singleton]; omega
theorem lk_def (gs : List (Nat × List Nat)) (k : Nat) : lk gs k = ((prsN gs).filter fun p => decide (p.1 = k)).map (·.2) := rfl
theorem lk_up {n : Nat} {gs : List (Nat × List Nat)} (h : GOk n 0 gs) (k : Nat) : (lk gs k).Pairwise (· < ·) := by
  rw [lk_def, List.pairwise_map]
  refine ((prsN_up h).sublist List.filter_sublist).imp_of_mem fun {p q} hp hq hpq => ?_
  have e1 := of_decide_eq_true (List.mem_filter.mp hp).2
  have e2 := of_decide_eq_true (List.mem_filter.mp hq).2
  unfold ltP at hpq
  omega
/-- sorting keeps what stands above -/
theorem filt_sorted {l l' u : List Nat} {P : Nat → Bool} (hp : l'.Perm l) (hs : l'.Pairwise (· ≤ ·)) (hu : l.filter P = u) (hup : u.Pairwise (· < ·)) : l'.filter P = u := by
  have q : (l'.filter P).Perm u := by rw [← hu]; exact hp.filter P
  have nd : (l'.filter P).Nodup := q.nodup_iff.2 (hup.imp fun h => Nat.ne_of_lt h)
  have st : (l'.filter P).Pairwise (· < ·) := ((hs.sublist List.filter_sublist).and nd).imp fun h => Nat.lt_of_le_of_ne h.1 h.2
  exact up_unique (fun x y a b => by omega) st hup fun x => q.mem_iff
end TL
set_option Elab.async false
set_option linter.all false
set_option maxRecDepth 100000
set_option maxHeartbeats 4000000
namespace TL
open PySem PySem.Spec PyProof.Rows L2
theorem kv_N2 {vs : List Nat} {it : NF} {gt : GF} {te : NF} {ρ : Rho} {ds : List D} (k : Lv it ρ ds) (l : ds.length ≤ sizeLine) (hs : ∀ d ∈ ds, ∀ A : List D → Rho → Prop, (∀ ρ3, backR ρ vs ρ3 = ρ → A [] ρ3) → gt d (hideR vs ρ) fun ρ1 => te ρ1 A) :
    ∀ Q : Sl → Rho → Prop, Q (.ow2 (List.replicate ds.length [])) ρ → kN2 (nComp2 vs it gt te) ρ Q := fun Q q => k _ (comp2_nil ds [] _ (by simpa using l) hs (by simpa using q))
theorem st_setK {i : Nat} {k : KF} {ρ : Rho} {E : EndF} {s : Sl} (h : ∀ Q : Sl → Rho → Prop, Q s ρ → k ρ Q) (q : E.nx (ρ.set i s)) : fSetK i k ρ E := h _ q
theorem st_frz2 {i : Nat} {s : SF} {ρ : Rho} {E : EndF} {rows : List (List D)} (e : ρ[i]? = some (.ow2 rows)) (q : s (ρ.set i (.fz (.list (rows.map .list)))) E) : fFrz2 i s ρ E := ⟨rows, e, q⟩
def rowsN (rows : List (List Nat)) : List (List D) := rows.map natsD
theorem rowsN_get {rows : List (List Nat)} {k : Nat} {r : List Nat} (h : rows[k]? = some r) : (rowsN rows)[k]? = some (natsD r) := by unfold rowsN; rw [List.getElem?_map, h]; rfl
theorem rowsN_set (rows : List (List Nat)) (k : Nat) (r : List Nat) : (rowsN rows).set k (natsD r) = rowsN (rows.set k r) := by unfold rowsN; rw [List.map_set]
theorem ret_compR {vs : List Nat} {it : NF} {gt : GF} {tt : TF} {f : EF} {ρ : Rho} {E : EndF} {ds : List D} (Rel : D → Option D → Prop) (k : Lv it ρ ds) (l : ds.length ≤ sizeLine) (hs : ∀ d ∈ ds, StepC vs gt tt f Rel ρ d) (h : ∀ os, Paired Rel ds os → E.rt (.list (os.filterMap id)) ρ) :
    fRet (sN (nComp vs it gt tt f)) ρ E := k _ (comp_rel ds [] _ hs (by simpa using l) fun os hp => by rw [List.nil_append]; exact h os hp)
def RelSort (d : D) (o : Option D) : Prop := ∃ l l' : List Nat, d = .list (natsD l) ∧ o = some (.list (natsD l')) ∧ l'.Perm l ∧ l'.Pairwise (· ≤ ·)
theorem paired_sort : ∀ {rows : List (List Nat)} {os : List (Option D)}, Paired RelSort (rows.map fun r => .list (natsD r)) os →
    ∃ rows' : List (List Nat), os.filterMap id = rows'.map (fun r => .list (natsD r)) ∧ rows'.length = rows.length ∧ ∀ (k : Nat) (r' : List Nat), rows'[k]? = some r' → ∃ r, rows[k]? = some r ∧ r'.Perm r ∧ r'.Pairwise (· ≤ ·)
  | [], _, .nil => ⟨[], rfl, rfl, fun k r' h => by simp at h⟩
  | r :: t, _, .cons h hs => by
    obtain ⟨l, l', e1, rfl, e3, e4⟩ := h
    injection e1 with e1
    have e1 := natsD_inj e1
    subst e1
    obtain ⟨rows', f1, f2, f3⟩ := paired_sort hs
    refine ⟨l' :: rows', by rw [List.filterMap_cons]; show _ :: _ = _; rw [f1]; rfl, by rw [List.length_cons, List.length_cons, f2], fun k r' hk => ?_⟩
    cases k with
    | zero =>
      cases hk
      exact ⟨r, rfl, e3, e4⟩
    | succ k => exact f3 k r' hk
theorem pl_near : ∀ ds (R : D → Prop), p_near ds R → fBody 1 (N_near.length - 1) b_near ds R := by
  rintro _ R ⟨n, gs, hn, hg, rfl, h⟩
  refine ⟨rfl, ?_⟩
  show b_near [.fz (webD n gs), .un, .un, .un, .un, .un] _
  have hm := prsN_mem hg
  have hl := prsN_len hn hg
  have i1 : atI [PyData.str "web", .int n, .tuple ((prsN gs).map prD)] 1 = some (.int n) := at_1
  have i2 : atI [PyData.str "web", .int n, .tuple ((prsN gs).map prD)] 2 = some (.tuple ((prsN gs).map prD)) := at_2
  have rl : (rngD 0 (n : Int)).length = n := by unfold rngD; simp
  refine st_setK (kv_N2 (lv_rA (lv_c (ev_2 (ev_v rfl) ev_k (v_ixT i1)) lv_0) (by omega)) (by rw [rl, sizeLine_eq]; omega) fun d _ A hA => lv_l lv_0 (Nat.zero_le _) _ (hA _ rfl)) ?_
  rw [rl]
  refine st_for (lv_seq (ev_2 (ev_v rfl) ev_k (v_ixT i2)) rfl) ?_
  refine for_rec (fun ds ρ => ∃ (ps done : List (Nat × Nat)) (rows : List (List Nat)) (s2 s3 : Sl), ds = ps.map prD ∧ done ++ ps = prsN gs ∧ NRows n rows done ∧ ρ = [.fz (webD n gs), .ow2 (rowsN rows), s2, s3, .un, .un]) (fun ρ q => ?_) (fun d ds ρ E' q k1 k2 k3 k4 => ?_) _ _ ⟨prsN gs, [], List.replicate n [], _, _, rfl, rfl, ⟨by simp, fun k row e => ?_, fun row hr => ?_⟩, by unfold rowsN; rw [List.map_replicate]; rfl⟩
  · obtain ⟨ps, done, rows, s2, s3, e1, e2, nr, rfl⟩ := q
    obtain rfl : ps = [] := by
      cases ps with
      | nil => rfl
      | cons a t => cases e1
    rw [List.append_nil] at e2
    subst e2
    refine st_frz2 rfl ?_
    have e0 : (rowsN rows).map PyData.list = rows.map fun r => .list (natsD r) := by unfold rowsN; rw [List.map_map]; rfl
    rw [e0]
    have hlr : rows.length = n := nr.len
    refine ret_compR RelSort (lv_seq (ev_v (i := 1) (d := .list (rows.map fun r => .list (natsD r))) rfl) rfl) (by rw [List.length_map, hlr, sizeLine_eq]; omega) (fun d hd A B hA hB => ?_) fun os hp => ?_
    · obtain ⟨r, _, rfl⟩ := List.mem_map.mp hd
      exact ⟨.list (natsD r), rfl, sorted_nats fun l' hp hs => hA _ ⟨r, l', rfl, rfl, hp, hs⟩ _ rfl⟩
    · obtain ⟨rows', f1, f2, f3⟩ := paired_sort hp
      rw [f1]
      refine h rows' (by rw [f2, hlr]) fun k r' hk => ?_
      obtain ⟨r, g1, g2, g3⟩ := f3 k r' hk
      refine ⟨filt_sorted g2 g3 (nr.up k r g1) (lk_up hg k), ?_⟩
      have sz := nr.sz r (List.mem_of_getElem? g1)
      have e := g2.length_eq
      have : (n - 0) * 24 ≤ 576 := by omega
      omega
  · obtain ⟨ps, done, rows, s2, s3, e1, e2, nr, rfl⟩ := q
    cases ps with
    | nil => cases e1
    | cons p t =>
      cases e1
      have hp := hm p (by rw [← e2]; simp)
      obtain ⟨a, b⟩ := p
      dsimp only at hp
      have la : a < rows.length := by rw [nr.len]; omega
      have lb : b < rows.length := by rw [nr.len]; omega
      have ea := List.getElem?_eq_getElem la
      have eb := List.getElem?_eq_getElem lb
      have hd : done.length ≤ (n - 0) * 24 := by
        have : (prsN gs).length = done.length + (t.length + 1) := by rw [← e2]; simp
        omega
      have sza := nr.sz _ (List.mem_of_getElem? ea)
      have szb := nr.sz _ (List.mem_of_getElem? eb)
      refine ⟨_, rfl, rfl, _, _, rfl, _, _, rfl, rfl, ?_⟩
      refine st_app2 (j := a) (ev_v rfl) (ev_v (d := .int (b : Int)) rfl) rfl (rowsN_get ea) (by unfold natsD; rw [List.length_map, sizeLine_eq]; omega) ?_
      refine st_app2 (j := b) (row := natsD rows[b]) (ev_v rfl) (ev_v (d := .int (a : Int)) rfl) rfl ?_ (by unfold natsD; rw [List.length_map, sizeLine_eq]; omega) ?_
      · rw [List.getElem?_set, if_neg (by omega)]
        exact rowsN_get eb
      · refine k1 _ ⟨t, done ++ [(a, b)], (rows.set a (rows[a] ++ [b])).set b (rows[b] ++ [a]), .fz (.int (a : Int)), .fz (.int (b : Int)), rfl, by rw [← e2]; simp, nr.add hp.2.1 hp.2.2 ea eb, ?_⟩
        rw [natsD_app, natsD_app, rowsN_set, rowsN_set]
        rfl
  · rw [List.getElem?_replicate] at e
    split at e
    · cases e; rfl
    · cases e
  · rw [List.eq_of_mem_replicate hr]
    simp
end TL
set_option Elab.async false
set_option linter.all false
set_option maxRecDepth 100000
set_option maxHeartbeats 4000000
namespace TL
open PySem PySem.Spec PyProof.Rows L2
def ltG (k : Nat) (gs : List (Nat × List Nat)) : List (Nat × List Nat) := gs.filter fun g => decide (g.1 < k)
theorem lk_cons (g : Nat × List Nat) (t : List (Nat × List Nat)) (k : Nat) : lk (g :: t) k = (if g.1 = k then g.2 else []) ++ lk t k := by
  unfold lk prsN
  rw [List.flatMap_cons, List.filter_append, List.map_append]
  congr 1
  by_cases h : g.1 = k
  · rw [if_pos h, List.filter_eq_self.2 (fun p hp => by obtain ⟨b, _, rfl⟩ := List.mem_map.mp hp; simpa using h), List.map_map]
    exact List.map_id _
  · rw [if_neg h, List.filter_eq_nil_iff.2 (fun p hp => by obtain ⟨b, _, rfl⟩ := List.mem_map.mp hp; simpa using h)]
    rfl
theorem lk_above {n : Nat} : ∀ {gs : List (Nat × List Nat)} {low k : Nat}, GOk n low gs → k < low → lk gs k = [] ∧ ltG k gs = [] ∧ ltG (k + 1) gs = []
  | [], _, _, _, _ => ⟨rfl, rfl, rfl⟩
  | g :: t, low, k, h, hk => by
    obtain ⟨h1, h2, h3, h4, h5, h6⟩ := h
    obtain ⟨a, b, c⟩ := lk_above h6 (k := k) (by omega)
    refine ⟨by rw [lk_cons, a, if_neg (by omega)]; rfl, ?_, ?_⟩
    · unfold ltG at b ⊢
      rw [List.filter_cons_of_neg (by simp; omega)]
      exact b
    · unfold ltG at c ⊢
      rw [List.filter_cons_of_neg (by simp; omega)]
      exact c
theorem lk_cases {n : Nat} : ∀ {gs : List (Nat × List Nat)} {low : Nat} (k : Nat), GOk n low gs → (lk gs k = [] ∧ ltG (k + 1) gs = ltG k gs) ∨ ∃ g ∈ gs, g.1 = k ∧ g.2 = lk gs k ∧ g.2 ≠ [] ∧ ltG (k + 1) gs = ltG k gs ++ [g]
  | [], _, _, _ => .inl ⟨rfl, rfl⟩
  | g :: t, low, k, h => by
    obtain ⟨h1, h2, h3, h4, h5, h6⟩ := h
    by_cases e : g.1 = k
    · obtain ⟨a, b, c⟩ := lk_above h6 (k := k) (by omega)
      refine .inr ⟨g, List.mem_cons_self, e, by rw [lk_cons, a, if_pos e, List.append_nil], h3, ?_⟩
      unfold ltG at b c ⊢
      rw [List.filter_cons_of_pos (by simp; omega), List.filter_cons_of_neg (by simp; omega), b, c]
      rfl
    · by_cases l : g.1 < k
      · rcases lk_cases k h6 with ⟨a, b⟩ | ⟨g2, m, a, b, c, d⟩
        · refine .inl ⟨by rw [lk_cons, a, if_neg e]; rfl, ?_⟩
          unfold ltG at b ⊢
          rw [List.filter_cons_of_pos (by simp; omega), List.filter_cons_of_pos (by simp; omega), b]
        · refine .inr ⟨g2, List.mem_cons_of_mem _ m, a, by rw [lk_cons, if_neg e, List.nil_append]; exact b, c, ?_⟩
          unfold ltG at d ⊢
          rw [List.filter_cons_of_pos (by simp; omega), List.filter_cons_of_pos (by simp; omega), d]
          rfl
      · obtain ⟨a, b, c⟩ := lk_above h6 (k := k) (by omega)
        refine .inl ⟨by rw [lk_cons, a, if_neg e]; rfl, ?_⟩
        unfold ltG at b c ⊢
        rw [List.filter_cons_of_neg (by simp; omega), List.filter_cons_of_neg (by simp; omega), b, c]
theorem ltG_all {n : Nat} : ∀ {gs : List (Nat × List Nat)} {low : Nat}, GOk n low gs → ltG n gs = gs
  | [], _, _ => rfl
  | g :: t, low, h => by
    obtain ⟨h1, h2, h3, h4, h5, h6⟩ := h
    have ih := ltG_all h6
    unfold ltG at ih ⊢
    rw [List.filter_cons_of_pos (by simpa using h2), ih]
theorem joinL_nil : ∀ ps : List (List Nat), joinL [] ps = ps.flatten
  | [] => rfl
  | [p] => by simp [joinL]
  | p :: q :: r => by
    show p ++ ([] ++ joinL [] (q :: r)) = _
    rw [joinL_nil (q :: r)]
    simp
theorem joinL_ends {s : Nat} : ∀ ls : List (List Nat), joinL [s] (ls ++ [[]]) = (ls.map (· ++ [s])).flatten
  | [] => rfl
  | [p] => by simp [joinL]
  | p :: q :: r => by
    have ih := joinL_ends (s := s) (q :: r)
    show p ++ ([s] ++ joinL [s] (q :: r ++ [[]])) = _
    rw [ih]
    simp
theorem text_ends (ls : List Str) : Txt.join "" (ls.map fun l => l ++ ("\n" : Str)) = Txt.join "\n" (ls ++ [("" : Str)]) := by
  refine ext_tl ?_
  rw [join_eq, tl_join, join_eq, tl_join]
  have e1 : tl ("" : Str) = [] := rfl
  have e2 : tl ("\n" : Str) = [10] := rfl
  rw [e1, e2, joinL_nil, List.map_append, List.map_cons, List.map_nil, e1, joinL_ends, List.map_map, List.map_map]
  congr 1
  refine List.map_congr_left fun l _ => ?_
  show tl (l ++ "\n") = tl l ++ [10]
  rw [tl_append]
  rfl
theorem web_line (n : Nat) : ("web " : Str) ++ nS n = Txt.join " " [("web" : Str), nS n] := by
  refine ext_tl ?_
  rw [tl_append, join_eq, tl_join]
  have e1 : tl ("web " : Str) = [119, 101, 98, 32] := by decide +kernel
  have e2 : tl (" " : Str) = [32] := rfl
  rw [e1, e2, List.map_cons, List.map_cons, web_tl]
  rfl
end TL
set_option Elab.async false
set_option linter.all false
set_option maxRecDepth 100000
set_option maxHeartbeats 4000000
namespace TL
open PySem PySem.Spec PyProof.Rows L2
def lineT (g : Nat × List Nat) : Str := Txt.join " " (nS g.1 :: ("-" : Str) :: g.2.map nS)
theorem linesG_eq (n : Nat) (gs : List (Nat × List Nat)) : linesG n gs = Txt.join " " [("web" : Str), nS n] :: gs.map lineT := rfl
theorem szW_cons (w : Str) (ws : List Str) : szW (w :: ws) = w.length + 1 + szW ws := by unfold szW; rw [List.map_cons, List.sum_cons]
theorem szW_app (a b : List Str) : szW (a ++ b) = szW a + szW b := by unfold szW; rw [List.map_append, List.sum_append]
theorem szW_nS : ∀ {l : List Nat}, (∀ b ∈ l, b < 1000) → szW (l.map nS) ≤ 4 * l.length
  | [], _ => Nat.le_refl _
  | a :: t, h => by
    have ih := szW_nS (l := t) fun b hb => h b (List.mem_cons_of_mem _ hb)
    have := nS_len (n := a) (k := 3) (by omega) (h a List.mem_cons_self)
    rw [List.map_cons, szW_cons, List.length_cons]
    omega
theorem szW_row {k : Nat} {l : List Nat} (hk : k < 1000) (h : ∀ b ∈ l, b < 1000) (hl : l.length ≤ 24) : szW (nS k :: ("-" : Str) :: l.map nS) ≤ 102 := by
  have := szW_nS h
  have := nS_len (n := k) (k := 3) (by omega) hk
  have e : ("-" : Str).length = 1 := rfl
  rw [szW_cons, szW_cons, e]
  omega
theorem lineT_len {k : Nat} {l : List Nat} (hk : k < 1000) (h : ∀ b ∈ l, b < 1000) (hl : l.length ≤ 24) : (lineT (k, l)).length ≤ 101 := by
  have := szW_row hk h hl
  have e := join_sp (ws := nS k :: ("-" : Str) :: l.map nS) (by simp)
  show (Txt.join " " (nS k :: ("-" : Str) :: l.map nS)).length ≤ 101
  omega
theorem GOk.row {n : Nat} : ∀ {gs : List (Nat × List Nat)} {low : Nat}, n ≤ 24 → GOk n low gs → ∀ g ∈ gs, g.1 < n ∧ (∀ b ∈ g.2, g.1 < b ∧ b < n) ∧ g.2.length ≤ 24 ∧ (lineT g).length ≤ 101
  | [], _, _, _, g, hg => by cases hg
  | g :: t, low, hn, h, g', hg => by
    obtain ⟨h1, h2, h3, h4, h5, h6⟩ := h
    rcases List.mem_cons.mp hg with rfl | hg
    · have hl : g'.2.length ≤ 24 := by
        have := up_len (m := g'.1 + 1) (n := n) h5 fun b hb => h4 b hb
        omega
      exact ⟨h2, h4, hl, lineT_len (k := g'.1) (l := g'.2) (by omega) (fun b hb => by have := h4 b hb; omega) hl⟩
    · exact GOk.row hn h6 g' hg
theorem GOk.len {n : Nat} : ∀ {gs : List (Nat × List Nat)} {low : Nat}, GOk n low gs → gs.length ≤ n - low
  | [], _, _ => Nat.zero_le _
  | g :: t, low, h => by
    obtain ⟨h1, h2, h3, h4, h5, h6⟩ := h
    have := GOk.len h6
    rw [List.length_cons]
    omega
theorem web_len {n : Nat} (hn : n ≤ 24) : (Txt.join " " [("web" : Str), nS n]).length ≤ 101 := by
  have e := join_sp (ws := [("web" : Str), nS n]) (by simp)
  have := nS_len (n := n) (k := 3) (by omega) (by omega)
  have e3 : ("web" : Str).length = 3 := rfl
  have e4 : szW [] = 0 := rfl
  rw [szW_cons, szW_cons, e3, e4] at e
  omega
theorem linesG_len {n : Nat} {gs : List (Nat × List Nat)} (hn : n ≤ 24) (h : GOk n 0 gs) : (linesG n gs).length ≤ 25 ∧ ∀ l ∈ linesG n gs, l.length ≤ 101 := by
  rw [linesG_eq]
  constructor
  · have := h.len
    rw [List.length_cons, List.length_map]
    omega
  · intro l hl
    rcases List.mem_cons.mp hl with rfl | hl
    · exact web_len hn
    · obtain ⟨g, hg, rfl⟩ := List.mem_map.mp hl
      exact (h.row hn g hg).2.2.2
theorem sum_le {c : Nat} : ∀ {ws : List Str}, (∀ w ∈ ws, w.length ≤ c) → (ws.map (·.length)).sum ≤ ws.length * c ∧ szW ws ≤ ws.length * (c + 1)
  | [], _ => ⟨Nat.zero_le _, Nat.zero_le _⟩
  | a :: t, h => by
    obtain ⟨i1, i2⟩ := sum_le (c := c) (ws := t) fun w hw => h w (List.mem_cons_of_mem _ hw)
    have := h a List.mem_cons_self
    rw [szW_cons, List.map_cons, List.sum_cons, List.length_cons, Nat.succ_mul, Nat.succ_mul]
    omega
theorem shaped_nats (l : List Nat) : SeqAt.shaped (.list (natsD l)) = true := by
  unfold SeqAt.shaped natsD
  have h1 := lay_all (fun a : Nat => PyData.int (a : Int)) l fun _ _ => rfl
  have h2 := dep_all (fun a : Nat => PyData.int (a : Int)) 1 l fun _ _ => by simp [PyData.depth]
  simp [PyData.canLay0, h1, PyData.depth]
  omega
theorem eqv_nats {l : List Nat} : PyData.eqv (.list (natsD l)) (.list []) = decide (l = []) := by
  cases l with
  | nil => rfl
  | cons a t => rfl
def aboveD (k : Nat) : D → Bool
  | .int j => decide ((k : Int) < j)
  | _ => false
theorem above_nats (k : Nat) (l : List Nat) : ((natsD l).filter (aboveD k)).map id = natsD (l.filter fun j => decide (k < j)) := by
  rw [List.map_id]
  unfold natsD
  rw [List.filter_map]
  congr 1
  refine List.filter_congr fun a _ => ?_
  show decide ((k : Int) < (a : Int)) = decide (k < a)
  simp
theorem strs_nats (l : List Nat) : (natsD l).map (fun d => match d with | .int i => .str (toString i) | d => d) = (l.map nS).map PyData.str := by
  unfold natsD
  rw [List.map_map, List.map_map]
  rfl
theorem st_parKF {i j : Nat} {k : KF} {φ : FF} {n : NF} {ρ : Rho} {E : EndF} {s : Sl} {ds : List D} (h : ∀ Q : Sl → Rho → Prop, Q s ρ → k ρ Q) (kl : Lv n ρ ds) (q : φ ds fun d => E.nx ((ρ.set i s).set j (.fz d))) : fParK i j k (kE (sCall φ n)) ρ E := h _ (kl _ q)
/-- str(k), '-', and the texts of the greater ones -/
theorem lv_row {ρ : Rho} {i j k : Nat} {l : List Nat} {v : Nat} (e1 : ρ[i]? = some (.fz (.int (k : Int)))) (e2 : ρ[j]? = some (.fz (.list (natsD l)))) (hk : k < 1000) (h : ∀ b ∈ l, b < 1000) (hl : l.length ≤ 24)
    (hb : ∀ d, (((hideR [v] ρ).set v (.fz d)).set v (resF ρ[v]?)) = ρ) (hv : ∀ d, ((hideR [v] ρ).set v (.fz d))[v]? = some (.fz d)) :
    Lv (n2 kCat (sN (nLst (aCons (s1 gStrOf (sVar i)) (aCons (sC (.str "-")) aNil)))) (sN (nComp [v] (iSeq (sVar j)) (gNm v) tYs (s1 gStrOf (sVar v))))) ρ ((nS k :: ("-" : Str) :: l.map nS).map .str) := by
  refine Lv.eq (lv_2 (ev_N (lv_l (lv_c (ev_1 (ev_v e1) (v_str (nS_log hk))) (lv_c ev_k lv_0)) sz2)) (ev_N (lv_map1 (fun d => match d with | .int i => .str (toString i) | d => d) (lv_seq (ev_v e2) rfl) (by unfold natsD; rw [List.length_map, sizeLine_eq]; omega) hb fun d hd => ?_)) (v_cat ?_)) ?_
  · obtain ⟨a, ha, rfl⟩ := mem_natsD.1 hd
    exact ev_1 (ev_v (hv _)) (v_str (nS_log (h a ha)))
  · unfold natsD
    rw [List.length_map, List.length_map, sizeLine_eq]
    show 2 + _ ≤ _
    omega
  · rw [strs_nats]
    rfl
theorem row_join {k : Nat} {l : List Nat} (hk : k < 1000) (h : ∀ b ∈ l, b < 1000) (hl : l.length ≤ 24) : V2 gJoin (.str " ") (.list ((nS k :: ("-" : Str) :: l.map nS).map .str)) (.str (lineT (k, l))) :=
  v_join (join_room (by have := szW_row hk h hl; unfold big; omega))
theorem pl_show_web : ∀ ds (R : D → Prop), p_show_web ds R → fBody 1 (N_show_web.length - 1) b_show_web ds R := by
  rintro _ R ⟨n, gs, hn, hg, rfl, h⟩
  refine ⟨rfl, ?_⟩
  show b_show_web [.fz (webD n gs), .un, .un, .un, .un, .un, .un] _
  have i1 : atI [PyData.str "web", .int n, .tuple ((prsN gs).map prD)] 1 = some (.int n) := at_1
  have hw := web_len hn
  obtain ⟨hL1, hL2⟩ := linesG_len hn hg
  refine st_parKF (kv_N (ds := [.str (Txt.join " " [("web" : Str), nS n])]) (lv_l (lv_c (Ev.eq (ev_2 ev_k (ev_1 (ev_2 (ev_v rfl) ev_k (v_ixT i1)) (v_str (nS_log (by omega)))) (v_addS ?_)) ?_) lv_0) (by rw [sizeLine_eq]; exact (by decide : 1 ≤ 16777216)))) (lv_c (ev_v rfl) lv_0) ⟨n, gs, hn, hg, rfl, fun rows hr hf => ?_⟩
  · have := nS_len (n := n) (k := 3) (by omega) (by omega)
    have e : ("web " : Str).length = 4 := rfl
    show _ + (nS n).length ≤ _
    rw [e, sizeLine_eq]
    omega
  · exact congrArg PyData.str (web_line n)
  refine st_for (lv_rA (lv_c (ev_2 (ev_v rfl) ev_k (v_ixT i1)) lv_0) (by omega)) ?_
  have e0 : rngD 0 (n : Int) = upD 0 n := by
    have := rng_up 0 n
    simpa using this
  rw [e0]
  have l0 : ltG 0 gs = [] := by
    unfold ltG
    rw [List.filter_eq_nil_iff]
    intro g _
    simp
  refine for_rec (fun ds ρ => ∃ (k m : Nat) (s3 s4 : Sl), ds = upD k m ∧ k + m = n ∧ ρ = [.fz (webD n gs), .ow ((linesG n (ltG k gs)).map .str), .fz (.list (rows.map fun r => .list (natsD r))), s3, s4, .un, .un]) (fun ρ q => ?_) (fun d ds ρ E' q k1 k2 k3 k4 => ?_) _ _ ⟨0, n, .un, .un, rfl, by omega, by rw [l0]; rfl⟩
  · obtain ⟨k, m, s3, s4, e1, e2, rfl⟩ := q
    obtain rfl : m = 0 := by
      cases m with
      | zero => rfl
      | succ m => rw [up_cons] at e1; cases e1
    obtain rfl : k = n := e2
    rw [ltG_all hg]
    refine st_ret (ev_m ev_k (rv_of (ev_N (Lv.eq (lv_map1 (fun d => match d with | .str l => .str (l ++ "\n") | d => d) (lv_seqR (rv_own rfl) rfl) (by rw [List.length_map, sizeLine_eq]; omega) (fun _ => rfl) fun d hd => ?_) (show _ = ((linesG k gs).map fun l => l ++ ("\n" : Str)).map .str by rw [List.map_map, List.map_map]; rfl)))) (v_join ?_)) ?_
    · obtain ⟨l, hl, rfl⟩ := List.mem_map.mp hd
      have := hL2 l hl
      exact ev_2 (ev_v rfl) ev_k (v_addS (by rw [sizeLine_eq, sp10.len]; omega))
    · have q : ∀ w ∈ (linesG k gs).map (fun l => l ++ ("\n" : Str)), w.length ≤ 102 := fun w hw => by
        obtain ⟨l, hl, rfl⟩ := List.mem_map.mp hw
        have := hL2 l hl
        rw [len_tl, tl_append, List.length_append, ← len_tl, ← len_tl, sp10.len]
        omega
      have := (sum_le q).1
      rw [List.length_map] at this ⊢
      have e : ("" : Str).length = 0 := rfl
      rw [e]
      omega
    · rw [text_ends]
      exact h
  · obtain ⟨k, m, s3, s4, e1, e2, rfl⟩ := q
    cases m with
    | zero => rw [up_nil] at e1; cases e1
    | succ m =>
      rw [up_cons] at e1
      cases e1
      have hk : k < rows.length := by omega
      have er := List.getElem?_eq_getElem hk
      obtain ⟨f1, f2⟩ := hf k _ er
      refine st_set (d := .list (natsD (lk gs k))) (ev_N (Lv.eq (lv_comp1 (aboveD k) id (lv_seq (d := .list (natsD rows[k])) (ev_2 (ev_v rfl) (ev_v rfl) (v_ixL (atI_nat (by rw [List.getElem?_map, er]; rfl)))) rfl) (by unfold natsD; rw [List.length_map, sizeLine_eq]; omega) (fun _ => rfl) (fun d hd => ?_) fun d hd _ => ev_v rfl) ?_)) ?_
      · obtain ⟨a, ha, rfl⟩ := mem_natsD.1 hd
        exact tv_b (ev_2 (ev_v rfl) (ev_v rfl) v_gtI)
      · rw [above_nats, f1]
      refine st_if (Tv.eq (tv_b (ev_2 (ev_v rfl) (ev_N (lv_l lv_0 (Nat.zero_le _))) (v_neD (shaped_nats _) rfl))) (by rw [eqv_nats])) (fun c => ?_) fun c => ?_
      · have hne : lk gs k ≠ [] := by simpa using c
        rcases lk_cases k hg with ⟨a, b⟩ | ⟨g, m1, a, b, c2, d⟩
        · exact absurd a hne
        · obtain ⟨r1, r2, r3, r4⟩ := hg.row hn g m1
          rw [← b]
          have hall : ∀ b ∈ g.2, b < 1000 := fun b hb => by have := r2 b hb; omega
          have r1' : k < 1000 := by omega
          have hlen : (ltG k gs).length ≤ gs.length := List.length_filter_le _ _
          have := hg.len
          refine st_app (ev_m ev_k (rv_of (ev_N (lv_row rfl rfl r1' hall r3 (fun _ => rfl) fun _ => rfl))) (row_join r1' hall r3)) rfl (by rw [List.length_map, linesG_eq, List.length_cons, List.length_map, sizeLine_eq]; omega) ?_
          refine k1 _ ⟨k + 1, m, .fz (.int (k : Int)), .fz (.list (natsD g.2)), rfl, by omega, ?_⟩
          have e5 : (k, g.2) = g := by rw [← a]
          rw [d, linesG_eq, linesG_eq, e5, List.map_append]
          simp
      · have hne : lk gs k = [] := by simpa using c
        rcases lk_cases k hg with ⟨a, b⟩ | ⟨g, m1, a, b, c2, d⟩
        · refine k1 _ ⟨k + 1, m, .fz (.int (k : Int)), .fz (.list (natsD (lk gs k))), rfl, by omega, ?_⟩
          rw [b]
          rfl
        · rw [← b] at hne
          exact absurd hne c2
end TL
set_option Elab.async false
set_option linter.all false
set_option maxRecDepth 100000
set_option maxHeartbeats 4000000
namespace TL
open PySem PySem.Spec PyProof.Rows L2
section
variable {ρ : Rho} {E : EndF} {i j s : Nat} {f g : EF} {n : NF} {d x y : D} {ds : List D} {r r' : RF}
theorem ev_2r {g2 : G2} (k : Rv r ρ x) (k' : Rv r' ρ y) (q : V2 g2 x y d) : Ev (s2r g2 r r') ρ d := fun R z => k _ (k' _ (q _ z))
theorem take_of {p q : Addr} {m : Nat} {R : D → Rho → Prop} (ks : ρ[s]? = some (.st p q)) (k : Lv n ρ [.int (m : Int)]) (h0 : 0 < m) (hm : m < 1000000) (z : ∀ r : Nat, r < m → R (.int (r : Int)) ρ) : sCallS s p__law_take n ρ R :=
  ⟨p, q, ks, k _ ⟨ks, (m : Int), rfl, by omega, fun r h1 h2 => by
    obtain ⟨j, rfl, hj⟩ : ∃ j : Nat, r = (j : Int) ∧ j < m := by
      by_cases c : (m : Int) < 2
      · exact ⟨0, h1 c, h0⟩
      · obtain ⟨a, b⟩ := h2 (by omega)
        exact ⟨r.toNat, by omega, by omega⟩
    exact z j hj⟩⟩
theorem pick_of {p q : Addr} {es : List D} {R : D → Rho → Prop} (ks : ρ[s]? = some (.st p q)) (k : Lv n ρ [.list es]) (hne : es ≠ []) (hl : es.length < 1000) (z : ∀ d ∈ es, R d ρ) : sCallS s p__law_pick n ρ R :=
  ⟨p, q, ks, k _ ⟨ks, es, rfl, hne, hl, z⟩⟩
theorem st_parE (h : f ρ fun d ρ1 => g ρ1 fun e ρ2 => E.nx ((ρ2.set i (.fz d)).set j (.fz e))) : fParK i j (kE f) (kE g) ρ E := h
theorem st_setE (h : f ρ fun d ρ1 => E.nx (ρ1.set i (.fz d))) : fSet i f ρ E := h
theorem setix_in {k : Nat} (e : ρ[i]? = some (.ow ds)) (hk : k < ds.length) (kg : Ev g ρ (.int (k : Int))) (q : E.nx (ρ.set i (.ow (ds.set k d)))) :
    (∃ es, ρ[i]? = some (.ow es)) ∧ g ρ fun x ρ2 => ∃ (ds : List D) (j : Int) (k : Nat), ρ2[i]? = some (.ow ds) ∧ x = .int j ∧ ixN ds.length j = some k ∧ E.nx (ρ2.set i (.ow (ds.set k d))) :=
  ⟨⟨_, e⟩, kg _ ⟨ds, _, k, e, rfl, ixN_j hk, q⟩⟩
theorem st_setixE (h : f ρ fun d ρ1 => (∃ es, ρ1[i]? = some (.ow es)) ∧ g ρ1 fun x ρ2 => ∃ (ds : List D) (j : Int) (k : Nat), ρ2[i]? = some (.ow ds) ∧ x = .int j ∧ ixN ds.length j = some k ∧ E.nx (ρ2.set i (.ow (ds.set k d)))) : fSetIx i f g ρ E := h
end
theorem seqIx {k n : Nat} (h : k < n) : seqIndex? (k : Int) n = some k := by
  unfold seqIndex?
  simp only
  rw [if_neg (show ¬ ((k : Int) < 0) by omega), if_pos (by simp; exact h)]
  rfl
/-- texts of plain signs, how long -/
structure Tx (ls : List Str) (B : Nat) : Prop where
  a : ∀ w ∈ ls, asc w
  s : szW ls ≤ B
theorem szW_take_drop (ls : List Str) (k : Nat) : szW (ls.take k) + szW (ls.drop k) = szW ls := by rw [← szW_app, List.take_append_drop]
theorem Tx.mono {ls : List Str} {B C : Nat} (h : Tx ls B) (e : B ≤ C) : Tx ls C := ⟨h.a, Nat.le_trans h.s e⟩
theorem Tx.ins {ls : List Str} {B : Nat} {d : Str} (h : Tx ls B) (ha : asc d) (k : Nat) : Tx (ls.take k ++ [d] ++ ls.drop k) (B + (d.length + 1)) := by
  refine ⟨fun w hw => ?_, ?_⟩
  · rw [List.mem_append, List.mem_append] at hw
    rcases hw with (hw | hw) | hw
    · exact h.a w (List.mem_of_mem_take hw)
    · rw [List.mem_singleton.mp hw]; exact ha
    · exact h.a w (List.mem_of_mem_drop hw)
  · rw [szW_app, szW_app, szW_cons]
    have := szW_take_drop ls k
    have := h.s
    have e : szW [] = 0 := rfl
    omega
theorem Tx.er {ls : List Str} {B : Nat} (h : Tx ls B) (k : Nat) : Tx (ls.eraseIdx k) B := by
  refine ⟨fun w hw => h.a w (List.mem_of_mem_eraseIdx hw), ?_⟩
  rw [List.eraseIdx_eq_take_drop_succ, szW_app]
  have e1 := szW_take_drop ls k
  have e2 : szW (ls.drop (k + 1)) ≤ szW (ls.drop k) := by
    by_cases hk : k < ls.length
    · rw [List.drop_eq_getElem_cons hk, szW_cons]
      omega
    · rw [List.drop_of_length_le (by omega), List.drop_of_length_le (by omega)]
      exact Nat.le_refl _
  have := h.s
  omega
theorem Tx.st {ls : List Str} {B : Nat} {d : Str} (h : Tx ls B) (ha : asc d) (k : Nat) : Tx (ls.set k d) (B + (d.length + 1)) := by
  refine ⟨fun w hw => ?_, ?_⟩
  · rcases List.mem_or_eq_of_mem_set hw with hw | rfl
    · exact h.a w hw
    · exact ha
  · by_cases hk : k < ls.length
    · rw [List.set_eq_take_append_cons_drop, if_pos hk, szW_app, szW_cons]
      have e1 := szW_take_drop ls (k + 1)
      have e3 := szW_take_drop ls k
      have e2 : szW (ls.drop (k + 1)) ≤ szW (ls.drop k) := by
        rw [List.drop_eq_getElem_cons hk, szW_cons]
        omega
      have := h.s
      omega
    · rw [List.set_eq_of_length_le (by omega)]
      have := h.s
      omega
theorem Tx.join {ls : List Str} {B : Nat} {y : Str} {c : Nat} (hy : Sep1 y c) (hc : c < 128) (h : Tx ls B) : asc (Txt.join y ls) ∧ (Txt.join y ls).length ≤ B := by
  refine ⟨fun e he => ?_, ?_⟩
  · rcases join_mem hy he with rfl | ⟨p, hp, hq⟩
    · exact hc
    · exact h.a p hp e hq
  · by_cases e : ls = []
    · subst e
      rw [len_tl, join_eq, tl_join]
      exact Nat.zero_le _
    · have := hy.join_len e
      have := h.s
      unfold szW at this
      omega
theorem Tx.len {ls : List Str} {B : Nat} (h : Tx ls B) : ls.length ≤ B := Nat.le_trans (len_szW ls) h.s
theorem Tx.mem {ls : List Str} {B : Nat} (h : Tx ls B) {w : Str} (hw : w ∈ ls) : w.length + 1 ≤ B := Nat.le_trans (sum_mem hw) h.s
theorem Tx.room {ls : List Str} {B : Nat} {y : Str} {c : Nat} (hy : Sep1 y c) (h : Tx ls B) (hB : B ≤ 1000000) : (ls.map (·.length)).sum + ls.length * y.length ≤ 16777216 := by
  rw [hy.len, Nat.mul_one, sum_len]
  have := h.s
  omega
theorem Tx.split {x : Str} {y : Str} {c : Nat} (hy : Sep1 y c) (ha : asc x) : Tx (Txt.split x y) (x.length + 1) := ⟨fun w hw => asc_part hy ha hw, Nat.le_of_eq (hy.split_sum x)⟩
def oddL : List Str := ["0", "1", "7", "23", "24", "00", "-", "web", "", "x", "\n", "100", "-1", "2"]
theorem oddL_ok : ∀ d ∈ oddL.map PyData.str, ∃ w, d = .str w ∧ asc w ∧ w.length ≤ 3 := by
  intro d hd
  obtain ⟨w, hw, rfl⟩ := List.mem_map.mp hd
  refine ⟨w, rfl, ?_⟩
  have h : ∀ w ∈ oddL, (tl w).all (· < 128) = true ∧ w.length ≤ 3 := by decide +kernel
  obtain ⟨h1, h2⟩ := h w hw
  exact ⟨fun c hc => by simpa using List.all_eq_true.mp h1 c hc, h2⟩
theorem map_ins (ls : List Str) (k : Nat) (d : Str) : (ls.map PyData.str).take k ++ [.str d] ++ (ls.map PyData.str).drop k = (ls.take k ++ [d] ++ ls.drop k).map .str := by simp
theorem map_er (ls : List Str) (k : Nat) : (ls.map PyData.str).eraseIdx k = (ls.eraseIdx k).map .str := by
  rw [List.eraseIdx_eq_take_drop_succ, List.eraseIdx_eq_take_drop_succ]
  simp
theorem map_st (ls : List Str) (k : Nat) (d : Str) : (ls.map PyData.str).set k (.str d) = (ls.set k d).map .str := by rw [List.map_set]
theorem asc_cut {x : Str} (h : asc x) (lo hi : Option Int) : asc (cutS x lo hi) := fun c hc => by
  have e : tl (cutS x lo hi) = ((tl x).drop (HT.sIx x.length 0 lo)).take (HT.sIx x.length x.length hi - HT.sIx x.length 0 lo) := by
    unfold cutS tl
    simp
  rw [e] at hc
  exact h c (List.mem_of_mem_drop (List.mem_of_mem_take hc))
theorem cut_len {x : Str} (lo hi : Option Int) : (cutS x lo hi).length ≤ x.length := by
  have e : tl (cutS x lo hi) = ((tl x).drop (HT.sIx x.length 0 lo)).take (HT.sIx x.length x.length hi - HT.sIx x.length 0 lo) := by
    unfold cutS tl
    simp
  rw [len_tl, e, len_tl, List.length_take, List.length_drop]
  omega
theorem pl__law_bent : ∀ ds (R : D → Prop), p__law_bent ds R → fBodyS 2 (N__law_bent.length - 2) b__law_bent ds R := by
  rintro _ R ⟨x, rfl, hx, ha, h⟩
  refine ⟨rfl, fun p q => ?_⟩
  show b__law_bent [.st p q, .fz (.str x), .un, .un, .un, .un, .un, .un, .un] _
  refine st_set (ev_N (ds := oddL.map .str) (fun S z => ⟨by rw [sizeLine_eq]; decide, z⟩)) ?_
  have T0 := Tx.split sp10 ha
  have ne0 := sp10.ne x
  refine st_setK (kv_N (lv_split (ev_v rfl) ev_k rfl (by rw [sizeLine_eq]; omega))) ?_
  generalize Txt.split x "\n" = L at T0 ne0
  have hL := T0.len
  have pL : 0 < L.length := List.length_pos_iff.mpr ne0
  refine st_parE (take_of (m := (L.map PyData.str).length) rfl (lv_c (ev_1r (rv_own rfl) v_lenL) lv_0) (by rw [List.length_map]; exact pL) (by rw [List.length_map]; omega) fun k hk => ?_)
  rw [List.length_map] at hk
  have mk := List.getElem_mem hk
  have ek := List.getElem?_eq_getElem hk
  generalize L[k] = lin at mk ek
  have hlin := T0.mem mk
  refine take_of (m := 8) rfl (lv_c ev_k lv_0) (by omega) (by omega) fun way hway => ?_
  have T1 := Tx.split sp32 (T0.a lin mk)
  have ne1 := sp32.ne lin
  have lineAt : ∀ {ρ : Rho}, ρ[3]? = some (.ow (L.map .str)) → ρ[4]? = some (.fz (.int (k : Int))) → Ev (s2r gIx (rOwn 3) (rOf (sVar 4))) ρ (.str lin) := fun {ρ} h1 h2 => ev_2r (rv_own h1) (rv_of (ev_v h2)) (v_ixL (ix_strs ek))
  refine st_setK (kv_N (lv_split (lineAt rfl rfl) ev_k rfl (by rw [sizeLine_eq]; omega))) ?_
  generalize Txt.split lin " " = ws0 at T1 ne1
  have hW := T1.len
  have pW : 0 < ws0.length := List.length_pos_iff.mpr ne1
  refine st_setE (take_of (m := (ws0.map PyData.str).length) rfl (lv_c (ev_1r (rv_own rfl) v_lenL) lv_0) (by rw [List.length_map]; exact pW) (by rw [List.length_map]; omega) fun w hw => ?_)
  rw [List.length_map] at hw
  have odd1 : oddL.map PyData.str ≠ [] := by unfold oddL; simp
  have odd2 : (oddL.map PyData.str).length < 1000 := by decide
  have slen : ∀ {ls : List Str} {B : Nat}, Tx ls B → B ≤ 1000000 → (ls.map PyData.str).length < sizeLine := fun h hB => by
    have := h.len
    rw [List.length_map, sizeLine_eq]; omega
  -- the rest, behind the first change
  have rest2 : ∀ (ws : List Str), Tx ws (lin.length + 9) → 0 < ws.length → (¬ (way = 4) ∨ ws = ws0) → ∀ E : EndF, (∀ ws' : List Str, Tx ws' (lin.length + 9) → E.nx [.st p q, .fz (.str x), .fz (.list (oddL.map .str)), .ow (L.map .str), .fz (.int (k : Int)), .fz (.int (way : Int)), .ow (ws'.map .str), .fz (.int (w : Int)), .un]) →
      fIf (tBool (s2 uEq (sVar 5) (sC (.int 4)))) (fExpr (sPopAt 6 (sVar 7))) fNext [.st p q, .fz (.str x), .fz (.list (oddL.map .str)), .ow (L.map .str), .fz (.int (k : Int)), .fz (.int (way : Int)), .ow (ws.map .str), .fz (.int (w : Int)), .un] E := fun ws T pw e0 E hE => by
    refine st_if (tv_b (ev_2 (ev_v rfl) ev_k v_eqI)) (fun c => ?_) fun c => hE ws T
    have c4 : way = 4 := by have : (way : Int) = 4 := by simpa using c
                            omega
    have e1 : ws = ws0 := e0.resolve_left (by omega)
    subst e1
    have hw' : w < (ws.map PyData.str).length := by rw [List.length_map]; exact hw
    refine ⟨⟨_, rfl⟩, ev_v rfl _ ⟨ws.map .str, w, w, (ws.map PyData.str)[w], rfl, rfl, by omega, by omega, seqIx hw', List.getElem?_eq_getElem hw', ?_⟩⟩
    rw [map_er]
    exact hE _ (T.er w)
  have T1' : Tx ws0 (lin.length + 9) := T1.mono (by omega)
  -- behind the words
  have rest3 : ∀ (ws : List Str), Tx ws (lin.length + 9) → ∀ E : EndF, (∀ R1 : D, E.rt R1 = fun ρ => ρ[0]? = some (.st p q) ∧ R R1) →
      (fSeq (fSetIx 3 (sM1 gJoin (sC (.str " ")) (rOwn 6)) (sVar 4))
 (fSeq (fIf (tBool (s2 uEq (sVar 5) (sC (.int 5))))
 (fIns 3 (aCons (sCallS 0 p__law_take (aCons (s1r gLen (rOwn 3)) aNil)) (aCons (s2r gIx (rOwn 3) (rOf (sVar 4))) aNil)))
 fNext)
 (fSeq (fIf (tBool (s2 uEq (sVar 5) (sC (.int 6))))
 (fExpr (sPopAt 3 (sVar 4)))
 fNext)
 (fSeq (fSet 8 (sM1 gJoin (sC (.str "\n")) (rOwn 3))) (fRet (sIf (tBool (s2 uEq (sVar 5) (sC (.int 7)))) (sSl (sVar 8) oNo (oIs (s1 gNeg (sC (.int 1))))) (sVar 8))))))) [.st p q, .fz (.str x), .fz (.list (oddL.map .str)), .ow (L.map .str), .fz (.int (k : Int)), .fz (.int (way : Int)), .ow (ws.map .str), .fz (.int (w : Int)), .un] E := fun ws T E hrt => by
    obtain ⟨j1, j2⟩ := T.join sp32 (by omega)
    refine st_setixE (ev_m (d := .str (Txt.join " " ws)) ev_k (rv_own rfl) (v_join (T.room sp32 (by omega))) _ (setix_in rfl (by rw [List.length_map]; exact hk) (ev_v rfl) ?_))
    rw [map_st]
    have T2 := T0.st j1 k
    have T2 : Tx (L.set k (Txt.join " " ws)) (2 * x.length + 12) := T2.mono (by omega)
    have kL2 : k < (L.set k (Txt.join " " ws)).length := by rw [List.length_set]; exact hk
    have eL2 : (L.set k (Txt.join " " ws))[k]? = some (Txt.join " " ws) := List.getElem?_set_self hk
    generalize Txt.join " " ws = lin2 at T2 kL2 eL2 j1 j2
    generalize L.set k lin2 = L2 at T2 kL2 eL2
    have hL2 := T2.len
    have fin : ∀ (L3 : List Str), Tx L3 (3 * x.length + 40) → ∀ E : EndF, (∀ R1 : D, E.rt R1 = fun ρ => ρ[0]? = some (.st p q) ∧ R R1) → fSeq (fSet 8 (sM1 gJoin (sC (.str "\n")) (rOwn 3))) (fRet (sIf (tBool (s2 uEq (sVar 5) (sC (.int 7)))) (sSl (sVar 8) oNo (oIs (s1 gNeg (sC (.int 1))))) (sVar 8))) [.st p q, .fz (.str x), .fz (.list (oddL.map .str)), .ow (L3.map .str), .fz (.int (k : Int)), .fz (.int (way : Int)), .ow (ws.map .str), .fz (.int (w : Int)), .un] E := fun L3 T3 E hrt => by
      obtain ⟨i1, i2⟩ := T3.join sp10 (by omega)
      refine st_set (ev_m ev_k (rv_own rfl) (v_join (T3.room sp10 (by omega)))) ?_
      generalize Txt.join "\n" L3 = told at i1 i2
      by_cases c : way = 7
      · refine st_ret (d := .str (cutS told none (some (-1)))) (ev_if_ (b := true) (Tv.eq (tv_b (ev_2 (ev_v rfl) ev_k v_eqI)) (by simp; omega)) (fun _ => ?_) fun c => nomatch c) ?_
        · exact fun R z => ev_v rfl _ (ov_no _ (ov_is (ev_1 ev_k v_neg) _ (.inr ⟨told, rfl, by rw [sizeLine_eq]; omega, z⟩)))
        · rw [hrt]
          exact ⟨rfl, h _ (Nat.le_trans (cut_len _ _) i2) (asc_cut i1 _ _)⟩
      · refine st_ret (d := .str told) (ev_if_ (b := false) (Tv.eq (tv_b (ev_2 (ev_v rfl) ev_k v_eqI)) (by simp; omega)) (fun c => nomatch c) fun _ => ev_v rfl) ?_
        rw [hrt]
        exact ⟨rfl, h _ i2 i1⟩
    refine st_if (tv_b (ev_2 (ev_v rfl) ev_k v_eqI)) (fun c => ?_) fun c => ?_
    · have c5 : way = 5 := by have : (way : Int) = 5 := by simpa using c
                              omega
      refine ⟨⟨_, rfl⟩, take_of (m := (L2.map PyData.str).length) rfl (lv_c (ev_1r (rv_own rfl) v_lenL) lv_0) (by rw [List.length_map]; omega) (by rw [List.length_map]; omega) fun a ha => ?_⟩
      refine ev_2r (rv_own rfl) (rv_of (ev_v rfl)) (v_ixL (ix_strs eL2)) _ ⟨L2.map .str, a, .str lin2, rfl, rfl, slen T2 (by omega), by omega, ?_, ?_⟩
      · rw [List.length_map] at ha
        omega
      · rw [Int.toNat_natCast, map_ins]
        have T3 : Tx _ (3 * x.length + 40) := (T2.ins j1 a).mono (by omega)
        refine st_if (b := false) (Tv.eq (tv_b (ev_2 (ev_v rfl) ev_k v_eqI)) (by simp; omega)) (fun c => nomatch c) fun _ => ?_
        exact fin _ T3 _ hrt
    · refine st_if (tv_b (ev_2 (ev_v rfl) ev_k v_eqI)) (fun c => ?_) fun c => ?_
      · have hk' : k < (L2.map PyData.str).length := by rw [List.length_map]; exact kL2
        refine ⟨⟨_, rfl⟩, ev_v rfl _ ⟨L2.map .str, k, k, (L2.map PyData.str)[k], rfl, rfl, by omega, by omega, seqIx hk', List.getElem?_eq_getElem hk', ?_⟩⟩
        rw [map_er]
        exact fin _ ((T2.er k).mono (by omega)) _ hrt
      · exact fin _ (T2.mono (by omega)) _ hrt
  refine st_if (tv_b (ev_2 (ev_v rfl) ev_k v_ltI)) (fun c => ?_) fun c => ?_
  · refine st_setixE (pick_of rfl (lv_c (ev_v rfl) lv_0) odd1 odd2 fun d hd => ?_)
    obtain ⟨o, rfl, o1, o2⟩ := oddL_ok d hd
    refine setix_in rfl (by rw [List.length_map]; exact hw) (ev_v rfl) ?_
    rw [map_st]
    have c3 : way < 3 := by have : (way : Int) < 3 := by simpa using c
                            omega
    refine st_if (b := false) (Tv.eq (tv_b (ev_2 (ev_v rfl) ev_k v_eqI)) (by simp; omega)) (fun c => nomatch c) fun _ => ?_
    refine st_if (b := false) (Tv.eq (tv_b (ev_2 (ev_v rfl) ev_k v_eqI)) (by simp; omega)) (fun c => nomatch c) fun _ => ?_
    exact rest3 _ ((T1.st o1 w).mono (by omega)) _ fun _ => rfl
  · refine st_if (tv_b (ev_2 (ev_v rfl) ev_k v_eqI)) (fun c => ?_) fun c => ?_
    · have c3 : way = 3 := by have : (way : Int) = 3 := by simpa using c
                              omega
      refine ⟨⟨_, rfl⟩, ev_v rfl _ (pick_of rfl (lv_c (ev_v rfl) lv_0) odd1 odd2 fun d hd => ?_)⟩
      obtain ⟨o, rfl, o1, o2⟩ := oddL_ok d hd
      refine ⟨ws0.map .str, w, .str o, rfl, rfl, slen T1' (by omega), by omega, by omega, ?_⟩
      rw [Int.toNat_natCast, map_ins]
      refine st_if (b := false) (Tv.eq (tv_b (ev_2 (ev_v rfl) ev_k v_eqI)) (by simp; omega)) (fun c => nomatch c) fun _ => ?_
      exact rest3 _ ((T1.ins o1 w).mono (by omega)) _ fun _ => rfl
    · exact rest2 ws0 T1' pW (.inr rfl) _ fun ws' T' => rest3 ws' T' _ fun _ => rfl
end TL
set_option Elab.async false
set_option linter.all false
set_option maxRecDepth 100000
set_option maxHeartbeats 4000000
namespace TL
open PySem PySem.Spec PyProof.Rows L2
section
variable {ρ : Rho} {E : EndF} {i j s : Nat} {f g : EF} {n : NF} {d x y : D} {ds : List D} {p q : Addr}
theorem callS_args {φ : FF} {R : D → Rho → Prop} (ks : ρ[s]? = some (.st p q)) (h : n ρ fun ds ρ1 => ρ1[s]? = some (.st p q) ∧ φ ds fun d => R d ρ1) : sCallS s φ n ρ R := ⟨p, q, ks, h⟩
theorem take_in {m : Nat} {R : D → Prop} (h0 : 0 < m) (hm : m < 1000000) (z : ∀ r : Nat, r < m → R (.int (r : Int))) : p__law_take [.int (m : Int)] R :=
  ⟨(m : Int), rfl, by omega, fun r h1 h2 => by
    obtain ⟨j, rfl, hj⟩ : ∃ j : Nat, r = (j : Int) ∧ j < m := by
      by_cases c : (m : Int) < 2
      · exact ⟨0, h1 c, h0⟩
      · obtain ⟨a, b⟩ := h2 (by omega)
        exact ⟨r.toNat, by omega, by omega⟩
    exact z j hj⟩
theorem bent_of {t : Str} {R : D → Rho → Prop} (ks : ρ[s]? = some (.st p q)) (k : Lv n ρ [.str t]) (hl : t.length ≤ 20000) (ha : asc t) (z : ∀ y : Str, y.length ≤ 3 * t.length + 40 → asc y → R (.str y) ρ) : sCallS s p__law_bent n ρ R :=
  ⟨p, q, ks, k _ ⟨ks, t, rfl, hl, ha, z⟩⟩
theorem ev_X {W : WD} {φ : FX} (k : Lv n ρ ds) (q : ∀ (R : D → Prop) (V : Str → List D → Prop), R d → φ ds R V) : Ev (sCallX W φ n) ρ d := fun R z => k _ (q _ _ z)
end
theorem asc_nS (n : Nat) : asc (nS n) := fun c hc => by
  refine Decidable.byContradiction fun h => ?_
  exact nS_free (s := c) (.inr (by omega)) hc
theorem asc_dec {w : Str} (h : (tl w).all (· < 128) = true) : asc w := fun c hc => by simpa using List.all_eq_true.mp h c hc
theorem asc_line (g : Nat × List Nat) : asc (lineT g) := by
  have T : Tx (nS g.1 :: ("-" : Str) :: g.2.map nS) (szW (nS g.1 :: ("-" : Str) :: g.2.map nS)) := ⟨fun w hw => by
    rcases List.mem_cons.mp hw with rfl | hw
    · exact asc_nS _
    rcases List.mem_cons.mp hw with rfl | hw
    · exact asc_dec (by decide +kernel)
    obtain ⟨b, _, rfl⟩ := List.mem_map.mp hw
    exact asc_nS _, Nat.le_refl _⟩
  exact (T.join sp32 (by omega)).1
theorem text_ok {n : Nat} {gs : List (Nat × List Nat)} (hn : n ≤ 24) (h : GOk n 0 gs) : asc (textG n gs) ∧ (textG n gs).length ≤ 3000 := by
  obtain ⟨h1, h2⟩ := linesG_len hn h
  have T : Tx (linesG n gs ++ [("" : Str)]) 3000 := by
    refine ⟨fun w hw => ?_, ?_⟩
    · rcases List.mem_append.mp hw with hw | hw
      · rw [linesG_eq] at hw
        rcases List.mem_cons.mp hw with rfl | hw
        · have T : Tx [("web" : Str), nS n] (szW [("web" : Str), nS n]) := ⟨fun w hw => by
            rcases List.mem_cons.mp hw with rfl | hw
            · exact asc_dec (by decide +kernel)
            rw [List.mem_singleton.mp hw]
            exact asc_nS _, Nat.le_refl _⟩
          exact (T.join sp32 (by omega)).1
        · obtain ⟨g, _, rfl⟩ := List.mem_map.mp hw
          exact asc_line g
      · rw [List.mem_singleton.mp hw]
        exact asc_dec (by decide +kernel)
    · have q := (sum_le h2).2
      have e : szW [("" : Str)] = 1 := rfl
      rw [szW_app, e]
      omega
  exact T.join sp10 (by omega)
theorem textG_nil (n : Nat) : textG n [] = ("web " : Str) ++ nS n ++ ("\n" : Str) := by
  show Txt.join "\n" (linesG n [] ++ [("" : Str)]) = _
  rw [← text_ends, web_line]
  refine ext_tl ?_
  rw [join_eq, tl_join]
  have e : tl ("" : Str) = [] := rfl
  rw [e, joinL_nil, linesG_eq]
  simp
theorem textG_app (n : Nat) (gs : List (Nat × List Nat)) (g : Nat × List Nat) : textG n (gs ++ [g]) = textG n gs ++ lineT g ++ ("\n" : Str) := by
  show Txt.join "\n" (linesG n (gs ++ [g]) ++ [("" : Str)]) = Txt.join "\n" (linesG n gs ++ [("" : Str)]) ++ _ ++ _
  rw [← text_ends, ← text_ends]
  refine ext_tl ?_
  rw [join_eq, tl_append, tl_append, join_eq, tl_join, tl_join]
  have e : tl ("" : Str) = [] := rfl
  rw [e, joinL_nil, joinL_nil, linesG_eq, linesG_eq]
  simp [tl_append]
theorem GOk.app {n : Nat} {g : Nat × List Nat} : ∀ {gs : List (Nat × List Nat)} {low : Nat}, GOk n low gs → (∀ g' ∈ gs, g'.1 < g.1) → low ≤ g.1 → g.1 < n → g.2 ≠ [] → (∀ b ∈ g.2, g.1 < b ∧ b < n) → g.2.Pairwise (· < ·) → GOk n low (gs ++ [g])
  | [], low, _, _, h1, h2, h3, h4, h5 => ⟨h1, h2, h3, h4, h5, trivial⟩
  | a :: t, low, h, hl, h1, h2, h3, h4, h5 => by
    obtain ⟨a1, a2, a3, a4, a5, a6⟩ := h
    have := hl a List.mem_cons_self
    exact ⟨a1, a2, a3, a4, a5, GOk.app a6 (fun g' hg' => hl g' (List.mem_cons_of_mem _ hg')) (by omega) h2 h3 h4 h5⟩
def RelSub (d : D) (o : Option D) : Prop := o = none ∨ o = some d
theorem paired_sub : ∀ {l : List Nat} {os : List (Option D)}, Paired RelSub (natsD l) os → ∃ l' : List Nat, os.filterMap id = natsD l' ∧ l'.Sublist l
  | [], os, h => by
    cases h
    exact ⟨[], rfl, .slnil⟩
  | a :: t, os, h => by
    unfold natsD at h
    rw [List.map_cons] at h
    cases h with
    | cons h hs =>
      obtain ⟨l', e1, e2⟩ := paired_sub (l := t) hs
      rcases h with rfl | rfl
      · refine ⟨l', by rw [List.filterMap_cons]; exact e1, e2.cons a⟩
      · refine ⟨a :: l', by rw [List.filterMap_cons]; show _ :: _ = _; rw [e1]; rfl, e2.cons_cons a⟩
theorem upD_nats (k m : Nat) : upD k m = natsD (List.range' k m) := rfl
theorem lv_comp_rel {vs : List Nat} {it : NF} {gt : GF} {tt : TF} {f : EF} {ρ : Rho} {ds : List D} {S : List D → Rho → Prop} (Rel : D → Option D → Prop) (k : Lv it ρ ds) (l : ds.length ≤ sizeLine) (hs : ∀ d ∈ ds, StepC vs gt tt f Rel ρ d) (h : ∀ os, Paired Rel ds os → S (os.filterMap id) ρ) :
    nComp vs it gt tt f ρ S := k _ (comp_rel ds [] _ hs (by simpa using l) fun os hp => by rw [List.nil_append]; exact h os hp)
def edgesA : List Str := ["", "\n", "web", "web\n", "web 3\n", "web 25\n", "web 3 4\n", "web 03\n", "web 3\n0 -\n", "web 3\n0 - 1 1\n", "web 3\n1 - 2\n0 - 1\n"]
def edgesB : List Str := ["web 3\n0\n", "web 3\n0 - 0\n", "web 3\n0 - 3\n", "web 3\n0 -  1\n", "web  3\n", "web 3\n\n", "web 0\n"]
theorem edges_ok : ∀ w ∈ edgesA ++ edgesB, w.length ≤ 100000 ∧ asc w := by
  intro w hw
  have h : ∀ w ∈ edgesA ++ edgesB, w.length ≤ 100000 ∧ (tl w).all (· < 128) = true := by decide +kernel
  exact ⟨(h w hw).1, asc_dec (h w hw).2⟩
theorem bls_true : ∀ ds : List D, blsD (ds.map fun _ => PyData.bool true) = some (ds.map fun _ => true)
  | [] => rfl
  | d :: t => by
    rw [List.map_cons, List.map_cons]
    show (blsD (t.map fun _ => PyData.bool true)).map (true :: ·) = _
    rw [bls_true t]
    rfl
theorem all_true (ds : List D) : (ds.map fun _ => true).all id = true := by simp
end TL
set_option Elab.async false
set_option linter.all false
set_option maxRecDepth 100000
set_option maxHeartbeats 4000000
namespace TL
open PySem PySem.Spec PyProof.Rows L2
def noW : WD := fun _ _ _ => False
/-- the edges at the end -/
theorem law_end {u0 u1 u2 u3 u4 u5 u6 u7 u8 u9 u10 u11 u12 u13 u14 : Sl} (h13 : u13 = .un) (h14 : u14 = .un) :
    (fSeq (fSet 12 (sN (nLst (aCons (sC (.str "")) (aCons (sC (.str "\n")) (aCons (sC (.str "web")) (aCons (sC (.str "web\n")) (aCons (sC (.str "web 3\n")) (aCons (sC (.str "web 25\n")) (aCons (sC (.str "web 3 4\n")) (aCons (sC (.str "web 03\n")) (aCons (sC (.str "web 3\n0 -\n")) (aCons (sC (.str "web 3\n0 - 1 1\n")) (aCons (sC (.str "web 3\n1 - 2\n0 - 1\n")) aNil))))))))))))))
 (fRet (s1 gAll (sN (nComp [14] (iSeq (sN (n2 kCat (sVar 12) (sN (nLst (aCons (sC (.str "web 3\n0\n")) (aCons (sC (.str "web 3\n0 - 0\n")) (aCons (sC (.str "web 3\n0 - 3\n")) (aCons (sC (.str "web 3\n0 -  1\n")) (aCons (sC (.str "web  3\n")) (aCons (sC (.str "web 3\n\n")) (aCons (sC (.str "web 0\n")) aNil)))))))))))) (gNm 14) tYs (sCall p__law_holds (aCons (sVar 14) aNil)))))))
    [u0, u1, u2, u3, u4, u5, u6, u7, u8, u9, u10, u11, u12, u13, u14] { nx := fun _ => False, rt := fun d _ => d = .bool true } := by
  subst h13 h14
  refine st_set (ev_N (ds := edgesA.map .str) (fun S z => ⟨by rw [sizeLine_eq]; decide, z⟩)) ?_
  refine st_ret (ev_1 (ev_N (lv_map1 (fun _ => .bool true) (lv_seq (ds := (edgesA ++ edgesB).map .str) (ev_N (lv_2 (ev_v rfl) (ev_N (ds := edgesB.map .str) (fun S z => ⟨by rw [sizeLine_eq]; decide, z⟩)) (v_cat (by rw [sizeLine_eq]; decide)))) rfl) (by rw [sizeLine_eq]; decide) (fun _ => rfl) fun d hd => ?_)) (v_all (bls_true _))) ?_
  · obtain ⟨w, hw, rfl⟩ := List.mem_map.mp hd
    obtain ⟨h1, h2⟩ := edges_ok w hw
    exact ev_f (lv_c (ev_v rfl) lv_0) fun R z => ⟨w, rfl, h1, h2, z⟩
  · show PyData.bool _ = _
    rw [all_true]
theorem pick3 {es : List D} (h : es = [.int 5, .int 9, .int 25] ∨ es = [.int 2, .int 3, .int 6]) : ∀ d ∈ es, ∃ m : Nat, d = .int (m : Int) ∧ 0 < m ∧ m ≤ 25 := by
  rcases h with rfl | rfl
  · intro d hd
    rcases List.mem_cons.mp hd with rfl | hd
    · exact ⟨5, rfl, by omega, by omega⟩
    rcases List.mem_cons.mp hd with rfl | hd
    · exact ⟨9, rfl, by omega, by omega⟩
    rw [List.mem_singleton.mp hd]
    exact ⟨25, rfl, by omega, by omega⟩
  · intro d hd
    rcases List.mem_cons.mp hd with rfl | hd
    · exact ⟨2, rfl, by omega, by omega⟩
    rcases List.mem_cons.mp hd with rfl | hd
    · exact ⟨3, rfl, by omega, by omega⟩
    rw [List.mem_singleton.mp hd]
    exact ⟨6, rfl, by omega, by omega⟩
theorem prD_pairs (a : Nat) (l : List Nat) : (natsD l).map (fun d => .tuple [.int (a : Int), d]) = prsD a l := by
  unfold natsD prsD
  rw [List.map_map, List.map_map]
  rfl
theorem pl_law : ∀ ns : List Int, ns.length ≤ 63 → b_law (fun _ _ _ => False) (.raw ns :: List.replicate (N_law.length - 1) .un) { nx := fun _ => False, rt := fun d _ => d = .bool true } := by
  intro ns hns
  show b_law noW [.raw ns, .un, .un, .un, .un, .un, .un, .un, .un, .un, .un, .un, .un, .un, .un] _
  refine ⟨⟨ns, rfl, hns⟩, fun p q => ?_⟩
  refine st_for (lv_rA (lv_c ev_k lv_0) (by omega)) ?_
  refine for_rec (fun ds ρ => ∃ (s2 s3 s4 s5 s6 s7 s8 s9 s10 s11 s12 : Sl), ρ = [.raw ns, .st p q, s2, s3, s4, s5, s6, s7, s8, s9, s10, s11, s12, .un, .un]) (fun ρ z => ?_) (fun d ds ρ E' z k1 k2 k3 k4 => ?_) _ _ ⟨_, _, _, _, _, _, _, _, _, _, _, rfl⟩
  · obtain ⟨s2, s3, s4, s5, s6, s7, s8, s9, s10, s11, s12, rfl⟩ := z
    exact law_end rfl rfl
  · obtain ⟨s2, s3, s4, s5, s6, s7, s8, s9, s10, s11, s12, rfl⟩ := z
    refine st_parE (callS_args rfl (pick_of rfl (lv_c (ev_N (ds := [.int 5, .int 9, .int 25]) (fun S z => ⟨by rw [sizeLine_eq]; decide, z⟩)) lv_0) (by simp) (by decide) fun m0 hm0 => ?_))
    obtain ⟨m, rfl, m1, m2⟩ := pick3 (.inl rfl) _ hm0
    refine ⟨rfl, take_in m1 (by omega) fun n hn => ?_⟩
    refine pick_of rfl (lv_c (ev_N (ds := [.int 2, .int 3, .int 6]) (fun S z => ⟨by rw [sizeLine_eq]; decide, z⟩)) lv_0) (by simp) (by decide) fun dn0 hd0 => ?_
    obtain ⟨dn, rfl, d1, d2⟩ := pick3 (.inr rfl) _ hd0
    have hn24 : n ≤ 24 := by omega
    have hnS := nS_len (n := n) (k := 3) (by omega) (by omega)
    refine st_parK (kv_E (d := .str (textG n [])) (Ev.eq (ev_2 (ev_2 ev_k (ev_1 (ev_v rfl) (v_str (nS_log (by omega)))) (v_addS ?_)) ev_k (v_addS ?_)) (congrArg PyData.str (textG_nil n).symm))) (kv_E (ev_N (lv_l lv_0 (Nat.zero_le _)))) ?_
    · have e : ("web " : Str).length = 4 := rfl
      show _ + (nS n).length ≤ _
      rw [e, sizeLine_eq]
      omega
    · have e : ("web " : Str).length = 4 := rfl
      show (("web " : Str) ++ nS n).length + _ ≤ _
      rw [len_tl, tl_append, List.length_append, ← len_tl, ← len_tl, e, sp10.len, sizeLine_eq]
      omega
    refine st_for (lv_rA (lv_c (ev_v rfl) lv_0) (by omega)) ?_
    have e0 : rngD 0 (n : Int) = upD 0 n := by
      have := rng_up 0 n
      simpa using this
    rw [e0]
    refine for_rec (fun ds ρ => ∃ (a b : Nat) (gs : List (Nat × List Nat)) (s2 s7 s8 s9 s10 s11 s12 : Sl), ds = upD a b ∧ a + b = n ∧ GOk n 0 gs ∧ (∀ g ∈ gs, g.1 < a) ∧
      ρ = [.raw ns, .st p q, s2, .fz (.int (n : Int)), .fz (.int (dn : Int)), .fz (.str (textG n gs)), .fz (.list ((prsN gs).map prD)), s7, s8, s9, s10, s11, s12, .un, .un]) (fun ρ z => ?_) (fun d ds ρ E2 z j1 j2 j3 j4 => ?_) _ _ ⟨0, n, [], _, _, _, _, _, _, _, rfl, by omega, trivial, fun g hg => (by cases hg), rfl⟩
    · obtain ⟨a, b, gs, s2, s7, s8, s9, s10, s11, s12, _, _, hg, _, rfl⟩ := z
      obtain ⟨t1, t2⟩ := text_ok hn24 hg
      have hp := prsN_len hn24 hg
      refine st_set (d := webD n gs) (ev_T (lv_c ev_k (lv_c (ev_v rfl) (lv_c (ev_1 (ev_v rfl) v_tupL) lv_0))) (by rw [sizeLine_eq]; exact (by decide : 3 ≤ 16777216))) ?_
      have sh := webD_shaped n gs
      refine st_if (b := false) (Tv.eq (tv_o (tv_b (ev_2 (ev_f (d := .str (textG n gs)) (lv_c (ev_v rfl) lv_0) fun R z => ⟨n, gs, hn24, hg, rfl, z⟩) (ev_v rfl) v_neS)) fun _ =>
        tv_b (ev_2 (ev_X (d := webD n gs) (lv_c (ev_v rfl) lv_0) fun R V z => ⟨textG n gs, rfl, by omega, t1, by rw [read_back hn24 hg]; exact z⟩) (ev_v rfl) (v_neD sh sh))) (by rw [eqv_self sh]; simp)) (fun c => nomatch c) fun _ => ?_
      refine st_for (lv_rA (lv_c ev_k lv_0) (by omega)) ?_
      refine for_rec (fun ds ρ => ∃ (s2 s7 s8 s9 s10 s11 s12 : Sl), ρ = [.raw ns, .st p q, s2, .fz (.int (n : Int)), .fz (.int (dn : Int)), .fz (.str (textG n gs)), .fz (.list ((prsN gs).map prD)), s7, s8, s9, s10, s11, s12, .un, .un]) (fun ρ z => ?_) (fun d ds ρ E3 z i1 i2 i3 i4 => ?_) _ _ ⟨_, _, _, _, _, _, _, rfl⟩
      · obtain ⟨s2, s7, s8, s9, s10, s11, s12, rfl⟩ := z
        exact k1 _ ⟨_, _, _, _, _, _, _, _, _, _, _, rfl⟩
      · obtain ⟨s2, s7, s8, s9, s10, s11, s12, rfl⟩ := z
        refine st_setE (bent_of rfl (lv_c (ev_v rfl) lv_0) (by omega) t1 fun y y1 y2 => ?_)
        have y3 : y.length ≤ 9040 := by omega
        have hh : ∀ {ρ : Rho} {f : EF}, Ev f ρ (.str y) → Ev (sCall p__law_holds (aCons f aNil)) ρ (.bool true) := fun h => ev_f (lv_c h lv_0) fun R z => ⟨y, rfl, by omega, y2, z⟩
        refine st_if (b := false) (Tv.eq (tv_o (b' := false) (tv_n (tv_b (hh (ev_v rfl)))) fun _ => tv_n (b := true) fun T z => ?_) rfl) (fun c => nomatch c) fun _ => i1 _ ⟨_, _, _, _, _, _, _, rfl⟩
        refine bent_of rfl (lv_c (ev_v rfl) lv_0) (by omega) y2 fun y' y1' y2' => ?_
        exact ⟨y', rfl, by omega, y2', true, rfl, z⟩
    · obtain ⟨a, b, gs, s2, s7, s8, s9, s10, s11, s12, e1, e2, hg, hga, rfl⟩ := z
      cases b with
      | zero => rw [up_nil] at e1; cases e1
      | succ b =>
        rw [up_cons] at e1
        cases e1
        obtain ⟨t1, t2⟩ := text_ok hn24 hg
        have hp := prsN_len hn24 hg
        have er : rngD ((a + 1 : Nat) : Int) (n : Int) = upD (a + 1) b := by
          rw [← e2, show a + (b + 1) = (a + 1) + b by omega]
          exact rng_up (a + 1) b
        refine st_setE (f := sN _) ?_
        refine lv_comp_rel (ds := upD (a + 1) b) RelSub (Lv.eq (lv_rB (i := ((a + 1 : Nat) : Int)) (j := (n : Int)) (lv_c (ev_2 (ev_v rfl) ev_k v_addI) (lv_c (ev_v rfl) lv_0)) (by omega)) er) (by unfold upD; rw [List.length_map, List.length_range', sizeLine_eq]; omega) (fun d hd A B hA hB => ?_) fun os hos => ?_
        · refine take_of (m := dn) rfl (lv_c (ev_v rfl) lv_0) d1 (by omega) fun r hr => ?_
          refine uEq_int.2 ⟨_, rfl, ?_⟩
          by_cases c : (r : Int) = 0
          · exact ifT (decide_eq_true c) ⟨d, rfl, hA d (.inr rfl) _ rfl⟩
          · exact ifF (decide_eq_false c) (hB (.inl rfl) _ rfl)
        · rw [upD_nats] at hos
          obtain ⟨l, l1, l2⟩ := paired_sub hos
          rw [l1]
          have lup : l.Pairwise (· < ·) := (List.pairwise_lt_range' (s := a + 1) (n := b)).sublist l2
          have lin : ∀ x ∈ l, a < x ∧ x < n := fun x hx => by
            have := List.mem_range'_1.1 (l2.subset hx)
            omega
          have llen : l.length ≤ 24 := by
            have := l2.length_le
            rw [List.length_range'] at this
            omega
          have lin3 : ∀ x ∈ l, x < 1000 := fun x hx => by have := lin x hx; omega
          refine st_set (d := .list ((prsN gs).map prD ++ prsD a l)) (ev_N (lv_2 (ev_v rfl) (ev_N (Lv.eq (lv_map1 (fun d => .tuple [.int (a : Int), d]) (lv_seq (ds := natsD l) (ev_v rfl) rfl) (by unfold natsD; rw [List.length_map, sizeLine_eq]; omega) (fun _ => rfl) fun d hd => ev_T (lv_c (ev_v rfl) (lv_c (ev_v rfl) lv_0)) sz2) (prD_pairs a l))) (v_cat (by rw [List.length_map, prsD_len, sizeLine_eq]; omega)))) ?_
          refine st_if (Tv.eq (tv_b (ev_2 (ev_v rfl) (ev_N (lv_l lv_0 (Nat.zero_le _))) (v_neD (shaped_nats _) rfl))) (by rw [eqv_nats])) (fun c => ?_) fun c => ?_
          · have hne : l ≠ [] := by simpa using c
            have hline := lineT_len (k := a) (l := l) (by omega) lin3 llen
            have ht := textG_app n gs (a, l)
            refine st_set (d := .str (textG n (gs ++ [(a, l)]))) (Ev.eq (ev_2 (ev_2 (ev_v rfl) (ev_m (d := .str (lineT (a, l))) ev_k (rv_of (ev_N (lv_row rfl rfl (by omega) lin3 llen (fun _ => rfl) fun _ => rfl))) (row_join (by omega) lin3 llen)) (v_addS ?_)) ev_k (v_addS ?_)) (congrArg PyData.str ht.symm)) ?_
            · rw [sizeLine_eq]; omega
            · rw [len_tl, tl_append, List.length_append, ← len_tl, ← len_tl, sp10.len, sizeLine_eq]
              omega
            refine j1 _ ⟨a + 1, b, gs ++ [(a, l)], s2, .fz (.int (a : Int)), .fz (.list (natsD l)), s9, s10, s11, s12, rfl, by omega, hg.app hga (by omega) (by show a < n; omega) hne lin lup, fun g hg => ?_, ?_⟩
            · rcases List.mem_append.mp hg with hg | hg
              · have := hga g hg; omega
              · rw [List.mem_singleton.mp hg]
                show a < a + 1
                omega
            · rw [prsN_app]
              rfl
          · have hne : l = [] := by simpa using c
            subst hne
            refine j1 _ ⟨a + 1, b, gs, s2, .fz (.int (a : Int)), .fz (.list (natsD [])), s9, s10, s11, s12, rfl, by omega, hg, fun g hg => by have := hga g hg; omega, ?_⟩
            show _ = _
            rw [show prsD a [] = [] from rfl, List.append_nil]
            rfl
end TL
set_option Elab.async false
set_option linter.all false
set_option maxRecDepth 100000
set_option maxHeartbeats 4000000
namespace TL
open PySem PySem.Spec PyProof.Rows L2
theorem exm_selfT {K : PySem.W.Frag} {S : Addr} (h1 : PySem.W.subIn K (.ref S) (.type "BaseException") = some true) (h2 : PySem.W.isClsIn K S = true) (h3 : PySem.W.typeIn K (.ref S) = some (.type "type")) (h4 : PySem.W.subIn K (.ref S) (.ref S) = some true) :
    PySem.W.exmOne K (.ref S) (.ref S) = some true := by
  have e1 : (PySem.W.subIn K (.ref S) (.type "BaseException") == some true) = true := by rw [h1] <;> rfl
  have e2 : ((PySem.W.clsIn K S).isSome && PySem.W.typeIn K (.ref S) == some (.type "type")) = true := by
    have h2' : (PySem.W.clsIn K S).isSome = true := h2
    rw [h2', h3] <;> rfl
  show (if (PySem.W.subIn K (.ref S) (.type "BaseException") == some true) = true then (if ((PySem.W.clsIn K S).isSome && PySem.W.typeIn K (.ref S) == some (.type "type")) = true then PySem.W.subIn K (.ref S) (.ref S) else none) else none) = some true
  rw [if_pos e1, if_pos e2]
  exact h4
theorem all_mk {P : Program} {w : World} {K : PySem.W.Frag} {h : Heap} {mg : Str → Option Value} {fa : Addr} (X : K.In h) (G : h.Ns mainGlobals mg) (hfa : mg "law" = some (.ref fa))
    {f_is_whole : Addr} {od_is_whole an_is_whole : Option Addr} {sl_is_whole : Array (Option Value)} {oc_is_whole kv_is_whole dc_is_whole pm_is_whole cd_is_whole ct_is_whole : Value}
    {f_is_web : Addr} {od_is_web an_is_web : Option Addr} {sl_is_web : Array (Option Value)} {oc_is_web kv_is_web dc_is_web pm_is_web cd_is_web ct_is_web : Value}
    {f_near : Addr} {od_near an_near : Option Addr} {sl_near : Array (Option Value)} {oc_near kv_near dc_near pm_near cd_near ct_near : Value}
    {f_show_web : Addr} {od_show_web an_show_web : Option Addr} {sl_show_web : Array (Option Value)} {oc_show_web kv_show_web dc_show_web pm_show_web cd_show_web ct_show_web : Value}
    {f_number_in : Addr} {od_number_in an_number_in : Option Addr} {sl_number_in : Array (Option Value)} {oc_number_in kv_number_in dc_number_in pm_number_in cd_number_in ct_number_in : Value}
    {f_place_of : Addr} {od_place_of an_place_of : Option Addr} {sl_place_of : Array (Option Value)} {oc_place_of kv_place_of dc_place_of pm_place_of cd_place_of ct_place_of : Value}
    {f_lines_of : Addr} {od_lines_of an_lines_of : Option Addr} {sl_lines_of : Array (Option Value)} {oc_lines_of kv_lines_of dc_lines_of pm_lines_of cd_lines_of ct_lines_of : Value}
    {f_read_line : Addr} {od_read_line an_read_line : Option Addr} {sl_read_line : Array (Option Value)} {oc_read_line kv_read_line dc_read_line pm_read_line cd_read_line ct_read_line : Value}
    {f_read_web : Addr} {od_read_web an_read_web : Option Addr} {sl_read_web : Array (Option Value)} {oc_read_web kv_read_web dc_read_web pm_read_web cd_read_web ct_read_web : Value}
    {f__law_state : Addr} {od__law_state an__law_state : Option Addr} {sl__law_state : Array (Option Value)} {oc__law_state kv__law_state dc__law_state pm__law_state cd__law_state ct__law_state : Value}
    {f__law_take : Addr} {od__law_take an__law_take : Option Addr} {sl__law_take : Array (Option Value)} {oc__law_take kv__law_take dc__law_take pm__law_take cd__law_take ct__law_take : Value}
    {f__law_pick : Addr} {od__law_pick an__law_pick : Option Addr} {sl__law_pick : Array (Option Value)} {oc__law_pick kv__law_pick dc__law_pick pm__law_pick cd__law_pick ct__law_pick : Value}
    {f__law_number : Addr} {od__law_number an__law_number : Option Addr} {sl__law_number : Array (Option Value)} {oc__law_number kv__law_number dc__law_number pm__law_number cd__law_number ct__law_number : Value}
    {f__law_place : Addr} {od__law_place an__law_place : Option Addr} {sl__law_place : Array (Option Value)} {oc__law_place kv__law_place dc__law_place pm__law_place cd__law_place ct__law_place : Value}
    {f__law_line : Addr} {od__law_line an__law_line : Option Addr} {sl__law_line : Array (Option Value)} {oc__law_line kv__law_line dc__law_line pm__law_line cd__law_line ct__law_line : Value}
    {f__law_read : Addr} {od__law_read an__law_read : Option Addr} {sl__law_read : Array (Option Value)} {oc__law_read kv__law_read dc__law_read pm__law_read cd__law_read ct__law_read : Value}
    {f__law_holds : Addr} {od__law_holds an__law_holds : Option Addr} {sl__law_holds : Array (Option Value)} {oc__law_holds kv__law_holds dc__law_holds pm__law_holds cd__law_holds ct__law_holds : Value}
    {f__law_bent : Addr} {od__law_bent an__law_bent : Option Addr} {sl__law_bent : Array (Option Value)} {oc__law_bent kv__law_bent dc__law_bent pm__law_bent cd__law_bent ct__law_bent : Value}
    {f_law : Addr} {od_law an_law : Option Addr} {sl_law : Array (Option Value)} {oc_law kv_law dc_law pm_law cd_law ct_law : Value}
    {t_MOST_PLACES : Tok}
    {C_BadText i_BadText cc_BadText co_BadText N_BadText : Addr} {nm_BadText q_BadText file_BadText : Str} {bs_BadText bm_BadText sub_BadText : List Value} {sn_BadText : List Str} {ab_BadText : Bool} {cl_BadText : Option Bool} {dd_BadText od_BadText an_BadText cdd_BadText ced_BadText : Option Addr} {m0_BadText m1_BadText m2_BadText m3_BadText m5_BadText : Option Value}
    {oc_BadText kv_BadText dc_BadText pm_BadText ct_BadText ccl_BadText cec_BadText : Value} {sl_BadText ccs_BadText ces_BadText : Array (Option Value)} {vs_BadText : Array Value} {tf_BadText : Tok}
    (a_is_whole : PySem.W.nsIn K mainGlobals "is_whole" = some (some (.ref f_is_whole)))
    (l_is_whole : K.lookup f_is_whole = some ⟨oc_is_whole, od_is_whole, .func (PySem.W.fnOf "is_whole" "is_whole" (defArgs s_is_whole) (defBody s_is_whole) (defScope s_is_whole) .none kv_is_whole dc_is_whole pm_is_whole an_is_whole cd_is_whole ct_is_whole), sl_is_whole⟩)
    (c_is_whole : PySem.W.codeIn K cd_is_whole "is_whole" = true)
    (k_is_whole : PySem.W.keepIn K (.ref f_is_whole) = true)
    (a_is_web : PySem.W.nsIn K mainGlobals "is_web" = some (some (.ref f_is_web)))
    (l_is_web : K.lookup f_is_web = some ⟨oc_is_web, od_is_web, .func (PySem.W.fnOf "is_web" "is_web" (defArgs s_is_web) (defBody s_is_web) (defScope s_is_web) .none kv_is_web dc_is_web pm_is_web an_is_web cd_is_web ct_is_web), sl_is_web⟩)
    (c_is_web : PySem.W.codeIn K cd_is_web "is_web" = true)
    (k_is_web : PySem.W.keepIn K (.ref f_is_web) = true)
    (a_near : PySem.W.nsIn K mainGlobals "near" = some (some (.ref f_near)))
    (l_near : K.lookup f_near = some ⟨oc_near, od_near, .func (PySem.W.fnOf "near" "near" (defArgs s_near) (defBody s_near) (defScope s_near) .none kv_near dc_near pm_near an_near cd_near ct_near), sl_near⟩)
    (c_near : PySem.W.codeIn K cd_near "near" = true)
    (k_near : PySem.W.keepIn K (.ref f_near) = true)
    (a_show_web : PySem.W.nsIn K mainGlobals "show_web" = some (some (.ref f_show_web)))
    (l_show_web : K.lookup f_show_web = some ⟨oc_show_web, od_show_web, .func (PySem.W.fnOf "show_web" "show_web" (defArgs s_show_web) (defBody s_show_web) (defScope s_show_web) .none kv_show_web dc_show_web pm_show_web an_show_web cd_show_web ct_show_web), sl_show_web⟩)
    (c_show_web : PySem.W.codeIn K cd_show_web "show_web" = true)
    (k_show_web : PySem.W.keepIn K (.ref f_show_web) = true)
    (a_number_in : PySem.W.nsIn K mainGlobals "number_in" = some (some (.ref f_number_in)))
    (l_number_in : K.lookup f_number_in = some ⟨oc_number_in, od_number_in, .func (PySem.W.fnOf "number_in" "number_in" (defArgs s_number_in) (defBody s_number_in) (defScope s_number_in) .none kv_number_in dc_number_in pm_number_in an_number_in cd_number_in ct_number_in), sl_number_in⟩)
    (c_number_in : PySem.W.codeIn K cd_number_in "number_in" = true)
    (k_number_in : PySem.W.keepIn K (.ref f_number_in) = true)
    (a_place_of : PySem.W.nsIn K mainGlobals "place_of" = some (some (.ref f_place_of)))
    (l_place_of : K.lookup f_place_of = some ⟨oc_place_of, od_place_of, .func (PySem.W.fnOf "place_of" "place_of" (defArgs s_place_of) (defBody s_place_of) (defScope s_place_of) .none kv_place_of dc_place_of pm_place_of an_place_of cd_place_of ct_place_of), sl_place_of⟩)
    (c_place_of : PySem.W.codeIn K cd_place_of "place_of" = true)
    (k_place_of : PySem.W.keepIn K (.ref f_place_of) = true)
    (a_lines_of : PySem.W.nsIn K mainGlobals "lines_of" = some (some (.ref f_lines_of)))
    (l_lines_of : K.lookup f_lines_of = some ⟨oc_lines_of, od_lines_of, .func (PySem.W.fnOf "lines_of" "lines_of" (defArgs s_lines_of) (defBody s_lines_of) (defScope s_lines_of) .none kv_lines_of dc_lines_of pm_lines_of an_lines_of cd_lines_of ct_lines_of), sl_lines_of⟩)
    (c_lines_of : PySem.W.codeIn K cd_lines_of "lines_of" = true)
    (k_lines_of : PySem.W.keepIn K (.ref f_lines_of) = true)
    (a_read_line : PySem.W.nsIn K mainGlobals "read_line" = some (some (.ref f_read_line)))
    (l_read_line : K.lookup f_read_line = some ⟨oc_read_line, od_read_line, .func (PySem.W.fnOf "read_line" "read_line" (defArgs s_read_line) (defBody s_read_line) (defScope s_read_line) .none kv_read_line dc_read_line pm_read_line an_read_line cd_read_line ct_read_line), sl_read_line⟩)
    (c_read_line : PySem.W.codeIn K cd_read_line "read_line" = true)
    (k_read_line : PySem.W.keepIn K (.ref f_read_line) = true)
    (a_read_web : PySem.W.nsIn K mainGlobals "read_web" = some (some (.ref f_read_web)))
    (l_read_web : K.lookup f_read_web = some ⟨oc_read_web, od_read_web, .func (PySem.W.fnOf "read_web" "read_web" (defArgs s_read_web) (defBody s_read_web) (defScope s_read_web) .none kv_read_web dc_read_web pm_read_web an_read_web cd_read_web ct_read_web), sl_read_web⟩)
    (c_read_web : PySem.W.codeIn K cd_read_web "read_web" = true)
    (k_read_web : PySem.W.keepIn K (.ref f_read_web) = true)
    (a__law_state : PySem.W.nsIn K mainGlobals "_law_state" = some (some (.ref f__law_state)))
    (l__law_state : K.lookup f__law_state = some ⟨oc__law_state, od__law_state, .func (PySem.W.fnOf "_law_state" "_law_state" (defArgs s__law_state) (defBody s__law_state) (defScope s__law_state) .none kv__law_state dc__law_state pm__law_state an__law_state cd__law_state ct__law_state), sl__law_state⟩)
    (c__law_state : PySem.W.codeIn K cd__law_state "_law_state" = true)
    (k__law_state : PySem.W.keepIn K (.ref f__law_state) = true)
    (a__law_take : PySem.W.nsIn K mainGlobals "_law_take" = some (some (.ref f__law_take)))
    (l__law_take : K.lookup f__law_take = some ⟨oc__law_take, od__law_take, .func (PySem.W.fnOf "_law_take" "_law_take" (defArgs s__law_take) (defBody s__law_take) (defScope s__law_take) .none kv__law_take dc__law_take pm__law_take an__law_take cd__law_take ct__law_take), sl__law_take⟩)
    (c__law_take : PySem.W.codeIn K cd__law_take "_law_take" = true)
    (k__law_take : PySem.W.keepIn K (.ref f__law_take) = true)
    (a__law_pick : PySem.W.nsIn K mainGlobals "_law_pick" = some (some (.ref f__law_pick)))
    (l__law_pick : K.lookup f__law_pick = some ⟨oc__law_pick, od__law_pick, .func (PySem.W.fnOf "_law_pick" "_law_pick" (defArgs s__law_pick) (defBody s__law_pick) (defScope s__law_pick) .none kv__law_pick dc__law_pick pm__law_pick an__law_pick cd__law_pick ct__law_pick), sl__law_pick⟩)
    (c__law_pick : PySem.W.codeIn K cd__law_pick "_law_pick" = true)
    (k__law_pick : PySem.W.keepIn K (.ref f__law_pick) = true)
    (a__law_number : PySem.W.nsIn K mainGlobals "_law_number" = some (some (.ref f__law_number)))
    (l__law_number : K.lookup f__law_number = some ⟨oc__law_number, od__law_number, .func (PySem.W.fnOf "_law_number" "_law_number" (defArgs s__law_number) (defBody s__law_number) (defScope s__law_number) .none kv__law_number dc__law_number pm__law_number an__law_number cd__law_number ct__law_number), sl__law_number⟩)
    (c__law_number : PySem.W.codeIn K cd__law_number "_law_number" = true)
    (k__law_number : PySem.W.keepIn K (.ref f__law_number) = true)
    (a__law_place : PySem.W.nsIn K mainGlobals "_law_place" = some (some (.ref f__law_place)))
    (l__law_place : K.lookup f__law_place = some ⟨oc__law_place, od__law_place, .func (PySem.W.fnOf "_law_place" "_law_place" (defArgs s__law_place) (defBody s__law_place) (defScope s__law_place) .none kv__law_place dc__law_place pm__law_place an__law_place cd__law_place ct__law_place), sl__law_place⟩)
    (c__law_place : PySem.W.codeIn K cd__law_place "_law_place" = true)
    (k__law_place : PySem.W.keepIn K (.ref f__law_place) = true)
    (a__law_line : PySem.W.nsIn K mainGlobals "_law_line" = some (some (.ref f__law_line)))
    (l__law_line : K.lookup f__law_line = some ⟨oc__law_line, od__law_line, .func (PySem.W.fnOf "_law_line" "_law_line" (defArgs s__law_line) (defBody s__law_line) (defScope s__law_line) .none kv__law_line dc__law_line pm__law_line an__law_line cd__law_line ct__law_line), sl__law_line⟩)
    (c__law_line : PySem.W.codeIn K cd__law_line "_law_line" = true)
    (k__law_line : PySem.W.keepIn K (.ref f__law_line) = true)
    (a__law_read : PySem.W.nsIn K mainGlobals "_law_read" = some (some (.ref f__law_read)))
    (l__law_read : K.lookup f__law_read = some ⟨oc__law_read, od__law_read, .func (PySem.W.fnOf "_law_read" "_law_read" (defArgs s__law_read) (defBody s__law_read) (defScope s__law_read) .none kv__law_read dc__law_read pm__law_read an__law_read cd__law_read ct__law_read), sl__law_read⟩)
    (c__law_read : PySem.W.codeIn K cd__law_read "_law_read" = true)
    (k__law_read : PySem.W.keepIn K (.ref f__law_read) = true)
    (a__law_holds : PySem.W.nsIn K mainGlobals "_law_holds" = some (some (.ref f__law_holds)))
    (l__law_holds : K.lookup f__law_holds = some ⟨oc__law_holds, od__law_holds, .func (PySem.W.fnOf "_law_holds" "_law_holds" (defArgs s__law_holds) (defBody s__law_holds) (defScope s__law_holds) .none kv__law_holds dc__law_holds pm__law_holds an__law_holds cd__law_holds ct__law_holds), sl__law_holds⟩)
    (c__law_holds : PySem.W.codeIn K cd__law_holds "_law_holds" = true)
    (k__law_holds : PySem.W.keepIn K (.ref f__law_holds) = true)
    (a__law_bent : PySem.W.nsIn K mainGlobals "_law_bent" = some (some (.ref f__law_bent)))
    (l__law_bent : K.lookup f__law_bent = some ⟨oc__law_bent, od__law_bent, .func (PySem.W.fnOf "_law_bent" "_law_bent" (defArgs s__law_bent) (defBody s__law_bent) (defScope s__law_bent) .none kv__law_bent dc__law_bent pm__law_bent an__law_bent cd__law_bent ct__law_bent), sl__law_bent⟩)
    (c__law_bent : PySem.W.codeIn K cd__law_bent "_law_bent" = true)
    (k__law_bent : PySem.W.keepIn K (.ref f__law_bent) = true)
    (a_law : PySem.W.nsIn K mainGlobals "law" = some (some (.ref f_law)))
    (l_law : K.lookup f_law = some ⟨oc_law, od_law, .func (PySem.W.fnOf "law" "law" (defArgs s_law) (defBody s_law) (defScope s_law) .none kv_law dc_law pm_law an_law cd_law ct_law), sl_law⟩)
    (c_law : PySem.W.codeIn K cd_law "law" = true)
    (k_law : PySem.W.keepIn K (.ref f_law) = true)
    (b_len : PySem.W.nsIn K mainGlobals "len" = some none)
    (b_range : PySem.W.nsIn K mainGlobals "range" = some none)
    (b_sorted : PySem.W.nsIn K mainGlobals "sorted" = some none)
    (b_list : PySem.W.nsIn K mainGlobals "list" = some none)
    (b_tuple : PySem.W.nsIn K mainGlobals "tuple" = some none)
    (b_set : PySem.W.nsIn K mainGlobals "set" = some none)
    (b_int : PySem.W.nsIn K mainGlobals "int" = some none)
    (b_str : PySem.W.nsIn K mainGlobals "str" = some none)
    (b_bool : PySem.W.nsIn K mainGlobals "bool" = some none)
    (b_abs : PySem.W.nsIn K mainGlobals "abs" = some none)
    (b_min : PySem.W.nsIn K mainGlobals "min" = some none)
    (b_max : PySem.W.nsIn K mainGlobals "max" = some none)
    (b_sum : PySem.W.nsIn K mainGlobals "sum" = some none)
    (b_all : PySem.W.nsIn K mainGlobals "all" = some none)
    (b_any : PySem.W.nsIn K mainGlobals "any" = some none)
    (b_isinstance : PySem.W.nsIn K mainGlobals "isinstance" = some none)
    (b_dict : PySem.W.nsIn K mainGlobals "dict" = some none)
    (b_enumerate : PySem.W.nsIn K mainGlobals "enumerate" = some none)
    (b_reversed : PySem.W.nsIn K mainGlobals "reversed" = some none)
    (m_MOST_PLACES : PySem.W.nsIn K mainGlobals "MOST_PLACES" = some (some (.int 24 t_MOST_PLACES)))
    (b_super : PySem.W.nsIn K mainGlobals "super" = some none)
    (third : PySem.W.nsIn K PySem.cStatics "thirdparty.any" = some none)
    (aC_BadText : PySem.W.nsIn K mainGlobals "BadText" = some (some (.ref C_BadText)))
    (xL_BadText : K.lookup C_BadText = some (excClassObj nm_BadText q_BadText C_BadText N_BadText bs_BadText bm_BadText true sn_BadText sub_BadText ab_BadText cl_BadText dd_BadText m0_BadText m1_BadText m2_BadText m3_BadText m5_BadText "ValueError.__new__"))
    (bm_ok_BadText : PySem.HandSPX.refsVE bm_BadText = true)
    (sa_BadText : PySem.W.findIn K (.ref C_BadText) "__setattr__" = some (some (.builtin "object.__setattr__")))
    (ga_BadText : PySem.W.findIn K (.ref C_BadText) "__getattribute__" = some (some (.builtin "BaseException.__getattribute__")))
    (gg_BadText : PySem.W.findIn K (.ref C_BadText) "__getattr__" = some none)
    (n0_BadText : PySem.W.findIn K (.ref C_BadText) "line" = some none)
    (n1_BadText : PySem.W.findIn K (.ref C_BadText) "place" = some none)
    (iC_BadText : PySem.W.findIn K (.ref C_BadText) "__init__" = some (some (.ref i_BadText)))
    (tI_BadText : PySem.W.typeIn K (.ref i_BadText) = some (.type "function"))
    (lI_BadText : K.lookup i_BadText = some ⟨oc_BadText, od_BadText, .func (PySem.W.fnX "__init__" "BadText.__init__" (defArgs sI_BadText) (defBody sI_BadText) (defScope sI_BadText) [("__class__", cc_BadText)] .none kv_BadText dc_BadText pm_BadText an_BadText (.ref co_BadText) ct_BadText), sl_BadText⟩)
    (cI_BadText : PySem.W.codeIn K (.ref co_BadText) "BadText.__init__" = true)
    (lc_BadText : K.lookup co_BadText = some ⟨ccl_BadText, cdd_BadText, .fields vs_BadText, ccs_BadText⟩)
    (vs_ok_BadText : vs_BadText[2]? = some (.str file_BadText tf_BadText))
    (fl_ok_BadText : ((P.main.file : Str) == file_BadText) = true)
    (ce_BadText : K.lookup cc_BadText = some ⟨cec_BadText, ced_BadText, .cell (some (.ref C_BadText)), ces_BadText⟩)
    (kC_BadText : PySem.W.keepIn K (.ref C_BadText) = true)
    (eC_BadText : PySem.W.subIn K (.ref C_BadText) (.type "BaseException") = some true)
    (tC_BadText : PySem.W.typeIn K (.ref C_BadText) = some (.type "type"))
    (hC_BadText : PySem.W.hasDictIn K C_BadText = true)
    (jC_BadText : PySem.W.isClsIn K C_BadText = true)
    (sC_BadText : PySem.W.subIn K (.ref C_BadText) (.ref C_BadText) = some true)
    (mC_BadText : PySem.W.mroIn K C_BadText (.ref C_BadText) = some true)
    (sp_BadText : PySem.W.ks_superIn K C_BadText C_BadText "__init__" = some (some (.builtin "ValueError.__init__")))
    (ve_BadText : PySem.W.subIn K (.ref C_BadText) (.type "ValueError") = some true)
    (top_super : (P.main.scope.names.lookup ("super" : Str)).isSome = false) :
    ∃ fd : FuncData, (∀ (s : Shared) (u : Value), BindsTo s fd ⟨[u], []⟩ [(("script" : Str), u)]) ∧ ∀ base : Heap, K.In base → base.Ns mainGlobals mg → FnOk P w K mg base (L2.CX P w) 6 fa fd ["script"] (spLaw K) := by
  have e := hfa.symm.trans (PySem.W.mg_of X G a_law)
  cases e
  have bl : Bl mg := ⟨PySem.W.mg_none_of X G b_len, PySem.W.mg_none_of X G b_range, PySem.W.mg_none_of X G b_sorted, PySem.W.mg_none_of X G b_list, PySem.W.mg_none_of X G b_tuple, PySem.W.mg_none_of X G b_set, PySem.W.mg_none_of X G b_int, PySem.W.mg_none_of X G b_str, PySem.W.mg_none_of X G b_bool, PySem.W.mg_none_of X G b_abs, PySem.W.mg_none_of X G b_min, PySem.W.mg_none_of X G b_max, PySem.W.mg_none_of X G b_sum, PySem.W.mg_none_of X G b_all, PySem.W.mg_none_of X G b_any, PySem.W.mg_none_of X G b_isinstance, PySem.W.mg_none_of X G b_dict, PySem.W.mg_none_of X G b_enumerate, PySem.W.mg_none_of X G b_reversed⟩
  have g_MOST_PLACES : MgInt mg "MOST_PLACES" 24 := ⟨_, PySem.W.mg_of X G m_MOST_PLACES⟩
  have F_is_whole := fun_mk (st := s_is_whole) l_is_whole c_is_whole k_is_whole
  have B_is_whole := F_is_whole.binds (ps := P_is_whole) fun _ _ _ _ _ _ us hl => match us, hl with | [_, _, _], _ => rfl
  have F_is_web := fun_mk (st := s_is_web) l_is_web c_is_web k_is_web
  have B_is_web := F_is_web.binds (ps := P_is_web) fun _ _ _ _ _ _ us hl => match us, hl with | [_], _ => rfl
  have F_near := fun_mk (st := s_near) l_near c_near k_near
  have B_near := F_near.binds (ps := P_near) fun _ _ _ _ _ _ us hl => match us, hl with | [_], _ => rfl
  have F_show_web := fun_mk (st := s_show_web) l_show_web c_show_web k_show_web
  have B_show_web := F_show_web.binds (ps := P_show_web) fun _ _ _ _ _ _ us hl => match us, hl with | [_], _ => rfl
  have F_number_in := fun_mk (st := s_number_in) l_number_in c_number_in k_number_in
  have B_number_in := F_number_in.binds (ps := P_number_in) fun _ _ _ _ _ _ us hl => match us, hl with | [_, _, _], _ => rfl
  have F_place_of := fun_mk (st := s_place_of) l_place_of c_place_of k_place_of
  have B_place_of := F_place_of.binds (ps := P_place_of) fun _ _ _ _ _ _ us hl => match us, hl with | [_, _], _ => rfl
  have F_lines_of := fun_mk (st := s_lines_of) l_lines_of c_lines_of k_lines_of
  have B_lines_of := F_lines_of.binds (ps := P_lines_of) fun _ _ _ _ _ _ us hl => match us, hl with | [_], _ => rfl
  have F_read_line := fun_mk (st := s_read_line) l_read_line c_read_line k_read_line
  have B_read_line := F_read_line.binds (ps := P_read_line) fun _ _ _ _ _ _ us hl => match us, hl with | [_, _, _, _], _ => rfl
  have F_read_web := fun_mk (st := s_read_web) l_read_web c_read_web k_read_web
  have B_read_web := F_read_web.binds (ps := P_read_web) fun _ _ _ _ _ _ us hl => match us, hl with | [_], _ => rfl
  have F__law_state := fun_mk (st := s__law_state) l__law_state c__law_state k__law_state
  have B__law_state := F__law_state.binds (ps := P__law_state) fun _ _ _ _ _ _ us hl => match us, hl with | [_], _ => rfl
  have F__law_take := fun_mk (st := s__law_take) l__law_take c__law_take k__law_take
  have B__law_take := F__law_take.binds (ps := P__law_take) fun _ _ _ _ _ _ us hl => match us, hl with | [_, _], _ => rfl
  have F__law_pick := fun_mk (st := s__law_pick) l__law_pick c__law_pick k__law_pick
  have B__law_pick := F__law_pick.binds (ps := P__law_pick) fun _ _ _ _ _ _ us hl => match us, hl with | [_, _], _ => rfl
  have F__law_number := fun_mk (st := s__law_number) l__law_number c__law_number k__law_number
  have B__law_number := F__law_number.binds (ps := P__law_number) fun _ _ _ _ _ _ us hl => match us, hl with | [_, _, _], _ => rfl
  have F__law_place := fun_mk (st := s__law_place) l__law_place c__law_place k__law_place
  have B__law_place := F__law_place.binds (ps := P__law_place) fun _ _ _ _ _ _ us hl => match us, hl with | [_, _], _ => rfl
  have F__law_line := fun_mk (st := s__law_line) l__law_line c__law_line k__law_line
  have B__law_line := F__law_line.binds (ps := P__law_line) fun _ _ _ _ _ _ us hl => match us, hl with | [_, _, _], _ => rfl
  have F__law_read := fun_mk (st := s__law_read) l__law_read c__law_read k__law_read
  have B__law_read := F__law_read.binds (ps := P__law_read) fun _ _ _ _ _ _ us hl => match us, hl with | [_], _ => rfl
  have F__law_holds := fun_mk (st := s__law_holds) l__law_holds c__law_holds k__law_holds
  have B__law_holds := F__law_holds.binds (ps := P__law_holds) fun _ _ _ _ _ _ us hl => match us, hl with | [_], _ => rfl
  have F__law_bent := fun_mk (st := s__law_bent) l__law_bent c__law_bent k__law_bent
  have B__law_bent := F__law_bent.binds (ps := P__law_bent) fun _ _ _ _ _ _ us hl => match us, hl with | [_, _], _ => rfl
  have F_law := fun_mk (st := s_law) l_law c_law k_law
  refine ⟨PySem.W.fnOf "law" "law" (defArgs s_law) (defBody s_law) (defScope s_law) .none kv_law dc_law pm_law an_law cd_law ct_law, fun s u => .of_eq rfl, fun base _ _ => ?_⟩
  let xc : Str → Option (Addr × List Str) := fun x => if x = "BadText" then some (C_BadText, ["line", "place"]) else none
  have T_BadText : OexC K C_BadText := ⟨⟨_, _, _, _, _, _, _, _, _, _, _, _, _, _, _, xL_BadText, bm_ok_BadText⟩, sa_BadText, eC_BadText, tC_BadText, kC_BadText⟩
  have U_BadText : SupFn P K mg NI_BadText PI_BadText (nfI_BadText cc_BadText co_BadText) i_BadText cc_BadText C_BadText _ := ⟨rfl, ⟨_, _, _, _, _, _, _, _, _, rfl, lI_BadText⟩, cI_BadText, ⟨_, _, _, _, _, _, lc_BadText, vs_ok_BadText, fl_ok_BadText⟩, ⟨_, _, _, ce_BadText⟩, T_BadText, mC_BadText, third, sp_BadText, ve_BadText, scI_BadText, ⟨_, rfl, rfl⟩, rfl, top_super, PySem.W.mg_none_of X G b_super⟩
  have BI_BadText : Binds K (PySem.W.fnX "__init__" "BadText.__init__" (defArgs sI_BadText) (defBody sI_BadText) (defScope sI_BadText) [("__class__", cc_BadText)] .none kv_BadText dc_BadText pm_BadText an_BadText (.ref co_BadText) ct_BadText) PI_BadText [] := .all fun us hl => match us, hl with | [_, _, _], _ => rfl
  have x_BadText : XDn P w K mg base "BadText" C_BadText (["line", "place"] : List Str) okd_BadText 1 := ⟨T_BadText, ⟨ga_BadText, gg_BadText, eC_BadText, hC_BadText⟩, (fun n hn => by
      rcases List.mem_cons.mp hn with rfl | hn
      · exact n0_BadText
      rcases List.mem_cons.mp hn with rfl | hn
      · exact n1_BadText
      cases hn), exm_selfT eC_BadText jC_BadText tC_BadText sC_BadText, PySem.W.mg_of X G aC_BadText, ⟨i_BadText, _, PI_BadText, iC_BadText, tI_BadText, init_BadText bl U_BadText n0_BadText n1_BadText, BI_BadText⟩⟩
  have h_BadText : xc "BadText" = some (C_BadText, (["line", "place"] : List Str)) := by rfl
  have d_is_whole : Dn P w K mg base "is_whole" 1 P_is_whole (spF K p_is_whole) := ⟨⟨_, _, FnOk.spec (fn_ok (xc := xc) (n := 3) (m := N_is_whole.length - 3) F_is_whole sc_is_whole rfl rfl fun cdv A outer s H E hr => h_is_whole bl  hr) pl_is_whole, PySem.W.mg_of X G a_is_whole, k_is_whole, B_is_whole⟩⟩
  have d_is_web : Dn P w K mg base "is_web" 2 P_is_web (spF K p_is_web) := ⟨⟨_, _, FnOk.spec (fn_ok (xc := xc) (n := 1) (m := N_is_web.length - 1) F_is_web sc_is_web rfl rfl fun cdv A outer s H E hr => h_is_web bl d_is_whole g_MOST_PLACES hr) pl_is_web, PySem.W.mg_of X G a_is_web, k_is_web, B_is_web⟩⟩
  have d_near : Dn P w K mg base "near" 1 P_near (spF K p_near) := ⟨⟨_, _, FnOk.spec (fn_ok (xc := xc) (n := 1) (m := N_near.length - 1) F_near sc_near rfl rfl fun cdv A outer s H E hr => h_near bl  hr) pl_near, PySem.W.mg_of X G a_near, k_near, B_near⟩⟩
  have d_show_web : Dn P w K mg base "show_web" 2 P_show_web (spF K p_show_web) := ⟨⟨_, _, FnOk.spec (fn_ok (xc := xc) (n := 1) (m := N_show_web.length - 1) F_show_web sc_show_web rfl rfl fun cdv A outer s H E hr => h_show_web bl d_near hr) pl_show_web, PySem.W.mg_of X G a_show_web, k_show_web, B_show_web⟩⟩
  have d_number_in : Dn P w K mg base "number_in" 1 P_number_in (spF K p_number_in) := ⟨⟨_, _, FnOk.spec (fn_ok (xc := xc) (n := 3) (m := N_number_in.length - 3) F_number_in sc_number_in rfl rfl fun cdv A outer s H E hr => h_number_in bl  hr) pl_number_in, PySem.W.mg_of X G a_number_in, k_number_in, B_number_in⟩⟩
  have d_place_of : Dn P w K mg base "place_of" 1 P_place_of (spF K p_place_of) := ⟨⟨_, _, FnOk.spec (fn_ok (xc := xc) (n := 2) (m := N_place_of.length - 2) F_place_of sc_place_of rfl rfl fun cdv A outer s H E hr => h_place_of bl  hr) pl_place_of, PySem.W.mg_of X G a_place_of, k_place_of, B_place_of⟩⟩
  have d_lines_of : DnX P w K mg base "lines_of" 3 P_lines_of (spX K xc p_lines_of) := ⟨⟨_, _, FnOk.specX (fn_okX (n := 1) (m := N_lines_of.length - 1) F_lines_of sc_lines_of rfl rfl fun cdv A outer s H E W hr => h_lines_of bl x_BadText h_BadText hr) pl_lines_of, PySem.W.mg_of X G a_lines_of, k_lines_of, B_lines_of⟩⟩
  have d_read_line : DnX P w K mg base "read_line" 3 P_read_line (spX K xc p_read_line) := ⟨⟨_, _, FnOk.specX (fn_okX (n := 4) (m := N_read_line.length - 4) F_read_line sc_read_line rfl rfl fun cdv A outer s H E W hr => h_read_line bl d_number_in d_place_of x_BadText h_BadText hr) pl_read_line, PySem.W.mg_of X G a_read_line, k_read_line, B_read_line⟩⟩
  have d_read_web : DnX P w K mg base "read_web" 4 P_read_web (spX K xc p_read_web) := ⟨⟨_, _, FnOk.specX (fn_okX (n := 1) (m := N_read_web.length - 1) F_read_web sc_read_web rfl rfl fun cdv A outer s H E W hr => h_read_web bl d_lines_of d_number_in d_place_of d_read_line x_BadText h_BadText g_MOST_PLACES hr) pl_read_web, PySem.W.mg_of X G a_read_web, k_read_web, B_read_web⟩⟩
  have d__law_state : Dn P w K mg base "_law_state" 1 P__law_state (spStart K) := ⟨⟨_, _, ok__law_state F__law_state bl, PySem.W.mg_of X G a__law_state, k__law_state, B__law_state⟩⟩
  have d__law_take : Dn P w K mg base "_law_take" 1 P__law_take (spS K p__law_take) := ⟨⟨_, _, ok__law_take F__law_take bl, PySem.W.mg_of X G a__law_take, k__law_take, B__law_take⟩⟩
  have d__law_pick : Dn P w K mg base "_law_pick" 2 P__law_pick (spS K p__law_pick) := ⟨⟨_, _, FnOk.specS (fn_okS (xc := xc) (n := 2) (m := N__law_pick.length - 2) F__law_pick sc__law_pick rfl rfl fun cdv A outer s H E hr => h__law_pick bl d__law_take hr) pl__law_pick, PySem.W.mg_of X G a__law_pick, k__law_pick, B__law_pick⟩⟩
  have d__law_number : Dn P w K mg base "_law_number" 1 P__law_number (spF K p__law_number) := ⟨⟨_, _, FnOk.spec (fn_ok (xc := xc) (n := 3) (m := N__law_number.length - 3) F__law_number sc__law_number rfl rfl fun cdv A outer s H E hr => h__law_number bl  hr) pl__law_number, PySem.W.mg_of X G a__law_number, k__law_number, B__law_number⟩⟩
  have d__law_place : Dn P w K mg base "_law_place" 1 P__law_place (spF K p__law_place) := ⟨⟨_, _, FnOk.spec (fn_ok (xc := xc) (n := 2) (m := N__law_place.length - 2) F__law_place sc__law_place rfl rfl fun cdv A outer s H E hr => h__law_place bl  hr) pl__law_place, PySem.W.mg_of X G a__law_place, k__law_place, B__law_place⟩⟩
  have d__law_line : Dn P w K mg base "_law_line" 2 P__law_line (spF K p__law_line) := ⟨⟨_, _, FnOk.spec (fn_ok (xc := xc) (n := 3) (m := N__law_line.length - 3) F__law_line sc__law_line rfl rfl fun cdv A outer s H E hr => h__law_line bl d__law_number d__law_place hr) pl__law_line, PySem.W.mg_of X G a__law_line, k__law_line, B__law_line⟩⟩
  have d__law_read : Dn P w K mg base "_law_read" 3 P__law_read (spF K p__law_read) := ⟨⟨_, _, FnOk.spec (fn_ok (xc := xc) (n := 1) (m := N__law_read.length - 1) F__law_read sc__law_read rfl rfl fun cdv A outer s H E hr => h__law_read bl d__law_number d__law_place d__law_line hr) pl__law_read, PySem.W.mg_of X G a__law_read, k__law_read, B__law_read⟩⟩
  have d__law_holds : Dn P w K mg base "_law_holds" 5 P__law_holds (spF K p__law_holds) := ⟨⟨_, _, FnOk.spec (fn_ok (xc := xc) (n := 1) (m := N__law_holds.length - 1) F__law_holds sc__law_holds rfl rfl fun cdv A outer s H E hr => h__law_holds bl d__law_read d_read_web d_is_web d_show_web x_BadText h_BadText hr) pl__law_holds, PySem.W.mg_of X G a__law_holds, k__law_holds, B__law_holds⟩⟩
  have d__law_bent : Dn P w K mg base "_law_bent" 3 P__law_bent (spS K p__law_bent) := ⟨⟨_, _, FnOk.specS (fn_okS (xc := xc) (n := 2) (m := N__law_bent.length - 2) F__law_bent sc__law_bent rfl rfl fun cdv A outer s H E hr => h__law_bent bl d__law_take d__law_pick hr) pl__law_bent, PySem.W.mg_of X G a__law_bent, k__law_bent, B__law_bent⟩⟩
  exact law_fnX (xc := xc) (m := N_law.length - 1) F_law sc_law rfl (fun cdv A outer s H E hr => h_law bl d__law_state d__law_pick d__law_take d_show_web d_read_web d__law_bent d__law_holds hr) pl_law
end TL
open PySem PySem.W PyProof.Rows
set_option maxHeartbeats 0 in
theorem PySem.Challenge.cw_countedwebs_k54_webs_as_text_holds : PySem.Challenge.rw_countedwebs_k54_webs_as_text.Holds := by
  w_on; o_law; k_head; (case hw => w_witness2)
  k_fill
  refine L2.walk_of (l := PySem.Challenge.rw_countedwebs_k54_webs_as_text) (n := 63) (k := 6) (x := "script") (CX := fun w => L2.CX PySem.Challenge.pw_countedwebs_k54_webs_as_text w) (sp := fun w => TL.spLaw _) rfl (by decide) rfl ⟨rfl, by decide, by decide⟩ (fun w h Y => PySem.W.kIn_of Y) ?F (fun _ _ a ns hl _ hS => ⟨a, ns, rfl, hS, hl, fun _ => rfl⟩) (fun w H s e s' z => by obtain ⟨_, _, _, _, _, _, _, _, _, _, _, _, q⟩ := z; exact q)
  case F =>
    intro w mg fa h KX G hmg
    refine' TL.all_mk KX G hmg ?a_is_whole ?l_is_whole ?c_is_whole ?k_is_whole ?a_is_web ?l_is_web ?c_is_web ?k_is_web ?a_near ?l_near ?c_near ?k_near ?a_show_web ?l_show_web ?c_show_web ?k_show_web ?a_number_in ?l_number_in ?c_number_in ?k_number_in ?a_place_of ?l_place_of ?c_place_of ?k_place_of ?a_lines_of ?l_lines_of ?c_lines_of ?k_lines_of ?a_read_line ?l_read_line ?c_read_line ?k_read_line ?a_read_web ?l_read_web ?c_read_web ?k_read_web ?a__law_state ?l__law_state ?c__law_state ?k__law_state ?a__law_take ?l__law_take ?c__law_take ?k__law_take ?a__law_pick ?l__law_pick ?c__law_pick ?k__law_pick ?a__law_number ?l__law_number ?c__law_number ?k__law_number ?a__law_place ?l__law_place ?c__law_place ?k__law_place ?a__law_line ?l__law_line ?c__law_line ?k__law_line ?a__law_read ?l__law_read ?c__law_read ?k__law_read ?a__law_holds ?l__law_holds ?c__law_holds ?k__law_holds ?a__law_bent ?l__law_bent ?c__law_bent ?k__law_bent ?a_law ?l_law ?c_law ?k_law ?b_len ?b_range ?b_sorted ?b_list ?b_tuple ?b_set ?b_int ?b_str ?b_bool ?b_abs ?b_min ?b_max ?b_sum ?b_all ?b_any ?b_isinstance ?b_dict ?b_enumerate ?b_reversed ?m_MOST_PLACES ?b_super ?third ?aC_BadText ?xL_BadText ?bm_ok_BadText ?sa_BadText ?ga_BadText ?gg_BadText ?n0_BadText ?n1_BadText ?iC_BadText ?tI_BadText ?lI_BadText ?cI_BadText ?lc_BadText ?vs_ok_BadText ?fl_ok_BadText ?ce_BadText ?kC_BadText ?eC_BadText ?tC_BadText ?hC_BadText ?jC_BadText ?sC_BadText ?mC_BadText ?sp_BadText ?ve_BadText ?top_super
    (case a_is_whole => k_is)
    (case l_is_whole => k_is)
    (case c_is_whole => k_is)
    (case k_is_whole => k_is)
    (case a_is_web => k_is)
    (case l_is_web => k_is)
    (case c_is_web => k_is)
    (case k_is_web => k_is)
    (case a_near => k_is)
    (case l_near => k_is)
    (case c_near => k_is)
    (case k_near => k_is)
    (case a_show_web => k_is)
    (case l_show_web => k_is)
    (case c_show_web => k_is)
    (case k_show_web => k_is)
    (case a_number_in => k_is)
    (case l_number_in => k_is)
    (case c_number_in => k_is)
    (case k_number_in => k_is)
    (case a_place_of => k_is)
    (case l_place_of => k_is)
    (case c_place_of => k_is)
    (case k_place_of => k_is)
    (case a_lines_of => k_is)
    (case l_lines_of => k_is)
    (case c_lines_of => k_is)
    (case k_lines_of => k_is)
    (case a_read_line => k_is)
    (case l_read_line => k_is)
    (case c_read_line => k_is)
    (case k_read_line => k_is)
    (case a_read_web => k_is)
    (case l_read_web => k_is)
    (case c_read_web => k_is)
    (case k_read_web => k_is)
    (case a__law_state => k_is)
    (case l__law_state => k_is)
    (case c__law_state => k_is)
    (case k__law_state => k_is)
    (case a__law_take => k_is)
    (case l__law_take => k_is)
    (case c__law_take => k_is)
    (case k__law_take => k_is)
    (case a__law_pick => k_is)
    (case l__law_pick => k_is)
    (case c__law_pick => k_is)
    (case k__law_pick => k_is)
    (case a__law_number => k_is)
    (case l__law_number => k_is)
    (case c__law_number => k_is)
    (case k__law_number => k_is)
    (case a__law_place => k_is)
    (case l__law_place => k_is)
    (case c__law_place => k_is)
    (case k__law_place => k_is)
    (case a__law_line => k_is)
    (case l__law_line => k_is)
    (case c__law_line => k_is)
    (case k__law_line => k_is)
    (case a__law_read => k_is)
    (case l__law_read => k_is)
    (case c__law_read => k_is)
    (case k__law_read => k_is)
    (case a__law_holds => k_is)
    (case l__law_holds => k_is)
    (case c__law_holds => k_is)
    (case k__law_holds => k_is)
    (case a__law_bent => k_is)
    (case l__law_bent => k_is)
    (case c__law_bent => k_is)
    (case k__law_bent => k_is)
    (case a_law => k_is)
    (case l_law => k_is)
    (case c_law => k_is)
    (case k_law => k_is)
    (case b_len => k_is)
    (case b_range => k_is)
    (case b_sorted => k_is)
    (case b_list => k_is)
    (case b_tuple => k_is)
    (case b_set => k_is)
    (case b_int => k_is)
    (case b_str => k_is)
    (case b_bool => k_is)
    (case b_abs => k_is)
    (case b_min => k_is)
    (case b_max => k_is)
    (case b_sum => k_is)
    (case b_all => k_is)
    (case b_any => k_is)
    (case b_isinstance => k_is)
    (case b_dict => k_is)
    (case b_enumerate => k_is)
    (case b_reversed => k_is)
    (case m_MOST_PLACES => k_is)
    (case b_super => k_is)
    (case third => k_is)
    (case aC_BadText => k_is)
    (case xL_BadText => k_is)
    (case bm_ok_BadText => first | rfl | decide +kernel)
    (case sa_BadText => k_is)
    (case ga_BadText => k_is)
    (case gg_BadText => k_is)
    (case n0_BadText => k_is)
    (case n1_BadText => k_is)
    (case iC_BadText => k_is)
    (case tI_BadText => k_is)
    (case lI_BadText => k_is)
    (case cI_BadText => k_is)
    (case lc_BadText => k_is)
    (case vs_ok_BadText => rfl)
    (case fl_ok_BadText => first | rfl | decide)
    (case ce_BadText => k_is)
    (case kC_BadText => k_is)
    (case eC_BadText => k_is)
    (case tC_BadText => k_is)
    (case hC_BadText => k_is)
    (case jC_BadText => k_is)
    (case sC_BadText => first | rfl | k_is)
    (case mC_BadText => first | rfl | k_is)
    (case sp_BadText => ks_is)
    (case ve_BadText => k_is)
    (case top_super => rfl)
