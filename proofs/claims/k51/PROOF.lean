import PyProof.Rows.All
import Wide.All
import OpenK.AllK
import Wide.FinOn
import HandS.ForMost
import HandS.Evl
import HandS.Exc
import HandS.Zip
import HandS.DictComp
import HandS.Style
import HandS.Flow
import HandS.Defaults
import HandS.Property
import HandS.ClsMeth
import HandS.IsInst
import HandS.WordsExc
import HandS.CallSlots
import KE.SortData
import HandS.MakeKwOnly
import HandS.Head0
import HandS.Head1
import HandS.Head2
import HandS.HeadHook1
import HandS.HeadHook2
import HandS.HeadEnd
import HandS.EndBits
import HandS.ExcInit
import HandS.Star
import HandS.Wide
import HandS.WideMore
import HandS.SlotsOwn
import PySem.Challenge.RW_matchlines_k51_comparisons_by_name
set_option Elab.async false
set_option linter.all false
set_option maxRecDepth 100000
set_option maxHeartbeats 0
/-! Ml1: data, memory cells, the data-level wishes (WP) over the hand layer's readings. -/
namespace Ml
open PySem L2
abbrev Frag := PySem.W.Frag
abbrev Addr := PySem.Addr
/-- data -/
inductive Dt where
  | non | bl (b : Bool) | int (i : Int) | str (x : Str) | ref (a : Addr) | ty (n : String)
  | lst (ds : List Dt) | tup (ds : List Dt) | ins (C : Addr) (ns : List Str) (ds : List Dt)
  /-- a list that is never written (the script) -/
  | fls (ds : List Dt)
mutual
inductive Rep (K : Frag) (T : Hp) : V → Dt → Prop
  | non : Rep K T .non .non
  | bl (b : Bool) : Rep K T (.bl b) (.bl b)
  | int (i : Int) : Rep K T (.int i) (.int i)
  | str (x : Str) : Rep K T (.str x) (.str x)
  | ref (a : Addr) : Rep K T (.ref a) (.ref a)
  | ty (n : String) : Rep K T (.ty n) (.ty n)
  | lst {a : Addr} {xs : List V} {ds : List Dt} : T a = some (.lst xs) → Reps K T xs ds → Rep K T (.ref a) (.lst ds)
  | tup {a : Addr} {xs : List V} {ds : List Dt} : T a = some (.tup xs) → Reps K T xs ds → Rep K T (.ref a) (.tup ds)
  | fls {a : Addr} {xs : List V} {ds : List Dt} : SqL K T a xs → Reps K T xs ds → Rep K T (.ref a) (.fls ds)
  | ins {a C dx : Addr} {ns : List Str} {xs : List V} {ds : List Dt} : T a = some (.ins C dx (ns.zip xs)) → ns.length = xs.length → Reps K T xs ds → Rep K T (.ref a) (.ins C ns ds)
inductive Reps (K : Frag) (T : Hp) : List V → List Dt → Prop
  | nil : Reps K T [] []
  | cons {v : V} {vs : List V} {d : Dt} {ds : List Dt} : Rep K T v d → Reps K T vs ds → Reps K T (v :: vs) (d :: ds)
end
def Sub (T T' : Hp) : Prop := ∀ b o, T b = some o → T' b = some o
theorem Sub.refl (T : Hp) : Sub T T := fun _ _ h => h
theorem Sub.trans {A B C : Hp} (h : Sub A B) (g : Sub B C) : Sub A C := fun b o e => g b o (h b o e)
theorem Sub.l {K : Frag} {T T' : Hp} {a : Addr} {xs : List V} (e : Sub T T') (h : SqL K T a xs) : SqL K T' a xs := Evl.ex_l e h
theorem Sub.t {K : Frag} {T T' : Hp} {a : Addr} {xs : List V} (e : Sub T T') (h : SqT K T a xs) : SqT K T' a xs := Evl.ex_t e h
mutual
theorem Rep.mono {K : Frag} {T T' : Hp} (e : Sub T T') : ∀ {v : V} {d : Dt}, Rep K T v d → Rep K T' v d
  | _, _, .non => .non
  | _, _, .bl b => .bl b
  | _, _, .int i => .int i
  | _, _, .str x => .str x
  | _, _, .ref a => .ref a
  | _, _, .ty n => .ty n
  | _, _, .lst h r => .lst (e _ _ h) (Reps.mono e r)
  | _, _, .tup h r => .tup (e _ _ h) (Reps.mono e r)
  | _, _, .fls h r => .fls (e.l h) (Reps.mono e r)
  | _, _, .ins h l r => .ins (e _ _ h) l (Reps.mono e r)
theorem Reps.mono {K : Frag} {T T' : Hp} (e : Sub T T') : ∀ {vs : List V} {ds : List Dt}, Reps K T vs ds → Reps K T' vs ds
  | _, _, .nil => .nil
  | _, _, .cons h r => .cons (Rep.mono e h) (Reps.mono e r)
end
theorem Reps.length {K : Frag} {T : Hp} : ∀ {vs : List V} {ds : List Dt}, Reps K T vs ds → vs.length = ds.length
  | _, _, .nil => rfl
  | _, _, .cons _ r => by rw [List.length_cons, List.length_cons, Reps.length r]
theorem Reps.get {K : Frag} {T : Hp} : ∀ {vs : List V} {ds : List Dt} {i : Nat} {d : Dt}, Reps K T vs ds → ds[i]? = some d → ∃ v, vs[i]? = some v ∧ Rep K T v d
  | _, _, _, _, .nil, e => by simp at e
  | _, _, 0, _, .cons h _, e => by
    simp at e
    subst e
    exact ⟨_, rfl, h⟩
  | _, _, i + 1, d, .cons _ r, e => by
    obtain ⟨v, h1, h2⟩ := Reps.get (i := i) (d := d) r (by simpa using e)
    exact ⟨v, by simpa using h1, h2⟩
theorem Reps.get' {K : Frag} {T : Hp} {vs : List V} {ds : List Dt} {i : Nat} {v : V} (h : Reps K T vs ds) (e : vs[i]? = some v) : ∃ d, ds[i]? = some d ∧ Rep K T v d := by
  have hl := h.length
  obtain ⟨hi, _⟩ := List.getElem?_eq_some_iff.mp e
  have e2 : ds[i]? = some ds[i] := List.getElem?_eq_getElem (by omega)
  obtain ⟨v', h1, h2⟩ := h.get e2
  rw [e] at h1
  cases h1
  exact ⟨_, e2, h2⟩
theorem Reps.append {K : Frag} {T : Hp} : ∀ {vs us : List V} {ds es : List Dt}, Reps K T vs ds → Reps K T us es → Reps K T (vs ++ us) (ds ++ es)
  | _, _, _, _, .nil, r => r
  | _, _, _, _, .cons h r, q => .cons h (Reps.append r q)
theorem Reps.take {K : Frag} {T : Hp} : ∀ {vs : List V} {ds : List Dt} (n : Nat), Reps K T vs ds → Reps K T (vs.take n) (ds.take n)
  | _, _, 0, _ => by simp; exact .nil
  | _, _, _ + 1, .nil => .nil
  | _, _, n + 1, .cons h r => .cons h (Reps.take n r)
theorem Reps.drop {K : Frag} {T : Hp} : ∀ {vs : List V} {ds : List Dt} (n : Nat), Reps K T vs ds → Reps K T (vs.drop n) (ds.drop n)
  | _, _, 0, r => r
  | _, _, _ + 1, .nil => .nil
  | _, _, n + 1, .cons _ r => Reps.drop n r
theorem Reps.set {K : Frag} {T : Hp} {v : V} {d : Dt} (h : Rep K T v d) : ∀ {vs : List V} {ds : List Dt} (n : Nat), Reps K T vs ds → Reps K T (vs.set n v) (ds.set n d)
  | _, _, _, .nil => .nil
  | _, _, 0, .cons _ r => .cons h r
  | _, _, n + 1, .cons g r => .cons g (Reps.set h n r)
theorem Reps.one {K : Frag} {T : Hp} {v : V} {d : Dt} (h : Rep K T v d) : Reps K T [v] [d] := .cons h .nil
/-- flat data as a value -/
def Dt.flat : Dt → Option V
  | .non => some .non
  | .bl b => some (.bl b)
  | .int i => some (.int i)
  | .str x => some (.str x)
  | .ref a => some (.ref a)
  | _ => none
theorem Rep.int_inv {K : Frag} {T : Hp} {v : V} {i : Int} (h : Rep K T v (.int i)) : v = .int i := by cases h; rfl
theorem Rep.bl_inv {K : Frag} {T : Hp} {v : V} {b : Bool} (h : Rep K T v (.bl b)) : v = .bl b := by cases h; rfl
theorem Rep.str_inv {K : Frag} {T : Hp} {v : V} {x : Str} (h : Rep K T v (.str x)) : v = .str x := by cases h; rfl
theorem Rep.non_inv {K : Frag} {T : Hp} {v : V} (h : Rep K T v .non) : v = .non := by cases h; rfl
theorem Rep.ref_inv {K : Frag} {T : Hp} {v : V} {a : Addr} (h : Rep K T v (.ref a)) : v = .ref a := by cases h; rfl
theorem Rep.ty_inv {K : Frag} {T : Hp} {v : V} {a : String} (h : Rep K T v (.ty a)) : v = .ty a := by cases h; rfl
theorem Rep.lst_inv {K : Frag} {T : Hp} {v : V} {ds : List Dt} (h : Rep K T v (.lst ds)) : ∃ a xs, v = .ref a ∧ T a = some (.lst xs) ∧ Reps K T xs ds := by cases h with | lst h r => exact ⟨_, _, rfl, h, r⟩
theorem Rep.fls_inv {K : Frag} {T : Hp} {v : V} {ds : List Dt} (h : Rep K T v (.fls ds)) : ∃ a xs, v = .ref a ∧ SqL K T a xs ∧ Reps K T xs ds := by cases h with | fls h r => exact ⟨_, _, rfl, h, r⟩
theorem Rep.tup_inv {K : Frag} {T : Hp} {v : V} {ds : List Dt} (h : Rep K T v (.tup ds)) : ∃ a xs, v = .ref a ∧ T a = some (.tup xs) ∧ Reps K T xs ds := by cases h with | tup h r => exact ⟨_, _, rfl, h, r⟩
theorem Rep.ins_inv {K : Frag} {T : Hp} {v : V} {C : Addr} {ns : List Str} {ds : List Dt} (h : Rep K T v (.ins C ns ds)) : ∃ a dx xs, v = .ref a ∧ T a = some (.ins C dx (ns.zip xs)) ∧ ns.length = xs.length ∧ Reps K T xs ds := by cases h with | ins h l r => exact ⟨_, _, _, rfl, h, l, r⟩
theorem Reps.nil_inv {K : Frag} {T : Hp} {vs : List V} (h : Reps K T vs []) : vs = [] := by cases h; rfl
theorem Reps.cons_inv {K : Frag} {T : Hp} {vs : List V} {d : Dt} {ds : List Dt} (h : Reps K T vs (d :: ds)) : ∃ v us, vs = v :: us ∧ Rep K T v d ∧ Reps K T us ds := by cases h with | cons h r => exact ⟨_, _, rfl, h, r⟩

/-! ### memory: what may change -/
inductive Mo where
  | lst (ds : List Dt) | dK (kvs : List (Key × Dt)) | dT (kvs : List (List Key × Dt)) | ins (C : Addr) (fs : List (Str × Dt)) | raw (o : HO)
abbrev Mem := List (Addr × Mo)
def PRep {α : Type} (K : Frag) (T : Hp) (p : α × V) (q : α × Dt) : Prop := p.1 = q.1 ∧ Rep K T p.2 q.2
def Cell (K : Frag) (T H : Hp) (a : Addr) : Mo → Prop
  | .lst ds => ∃ vs, H a = some (.lst vs) ∧ Reps K T vs ds
  | .dK kvs => ∃ us, H a = some (.dK us) ∧ Paired (PRep K T) us kvs
  | .dT kvs => ∃ us, H a = some (.dT us) ∧ Paired (PRep K T) us kvs
  | .ins C fs => ∃ dx us, H a = some (.ins C dx us) ∧ Paired (PRep K T) us fs
  | .raw o => H a = some o
theorem PRep.mono {α : Type} {K : Frag} {T T' : Hp} (e : Sub T T') {us : List (α × V)} {kvs : List (α × Dt)} (h : Paired (PRep K T) us kvs) : Paired (PRep K T') us kvs :=
  Paired.mapP h fun _ _ ⟨h1, h2⟩ => ⟨h1, h2.mono e⟩
theorem Cell.mono {K : Frag} {T T' H H' : Hp} {a : Addr} {m : Mo} (e : Sub T T') (k : ∀ o, H a = some o → H' a = some o) (h : Cell K T H a m) : Cell K T' H' a m := by
  cases m with
  | lst ds => obtain ⟨vs, h1, h2⟩ := h; exact ⟨vs, k _ h1, h2.mono e⟩
  | dK kvs => obtain ⟨us, h1, h2⟩ := h; exact ⟨us, k _ h1, PRep.mono e h2⟩
  | dT kvs => obtain ⟨us, h1, h2⟩ := h; exact ⟨us, k _ h1, PRep.mono e h2⟩
  | ins C fs => obtain ⟨dx, us, h1, h2⟩ := h; exact ⟨dx, us, k _ h1, PRep.mono e h2⟩
  | raw o => exact k _ h
theorem Cell.there {K : Frag} {T H : Hp} {a : Addr} {m : Mo} (h : Cell K T H a m) : ∃ o, H a = some o := by
  cases m with
  | lst ds => obtain ⟨vs, h1, h2⟩ := h; exact ⟨_, h1⟩
  | dK kvs => obtain ⟨us, h1, h2⟩ := h; exact ⟨_, h1⟩
  | dT kvs => obtain ⟨us, h1, h2⟩ := h; exact ⟨_, h1⟩
  | ins C fs => obtain ⟨dx, us, h1, h2⟩ := h; exact ⟨_, h1⟩
  | raw o => exact ⟨_, h⟩
abbrev dom (μ : Mem) : List Addr := μ.map (·.1)
structure Mst (K : Frag) (T : Hp) (μ : Mem) (H : Hp) : Prop where
  sub : Sub T H
  mem : ∀ p ∈ μ, T p.1 = none ∧ Cell K T H p.1 p.2
  nd : (dom μ).Nodup
structure Step (T : Hp) (μ : Mem) (H : Hp) (T' : Hp) (μ' : Mem) (H' : Hp) : Prop where
  grow : Sub T T'
  kept : ∀ b o, H b = some o → b ∉ dom μ → H' b = some o
  new : ∀ b o, H b = some o → T b = none → b ∉ dom μ → T' b = none
  cells : ∀ b o, H b = some o → b ∉ dom μ → b ∉ dom μ'
theorem Step.refl (T : Hp) (μ : Mem) (H : Hp) : Step T μ H T μ H := ⟨Sub.refl T, fun _ _ h _ => h, fun _ _ _ h _ => h, fun _ _ _ h => h⟩
theorem Step.trans {T T1 T2 : Hp} {μ μ1 μ2 : Mem} {H H1 H2 : Hp} (a : Step T μ H T1 μ1 H1) (b : Step T1 μ1 H1 T2 μ2 H2) : Step T μ H T2 μ2 H2 where
  grow := a.grow.trans b.grow
  kept := fun c o h n => b.kept c o (a.kept c o h n) (a.cells c o h n)
  new := fun c o h t n => b.new c o (a.kept c o h n) (a.new c o h t n) (a.cells c o h n)
  cells := fun c o h n => b.cells c o (a.kept c o h n) (a.cells c o h n)
theorem Mst.fresh {K : Frag} {T H : Hp} {μ : Mem} (M : Mst K T μ H) {p : Addr} (h : H p = none) : T p = none := by
  cases e : T p with
  | none => rfl
  | some o => rw [M.sub _ _ e] at h; cases h
theorem Mst.notin {K : Frag} {T H : Hp} {μ : Mem} (M : Mst K T μ H) {p : Addr} (h : H p = none) : p ∉ dom μ := fun hp => by
  obtain ⟨q, hq, e⟩ := List.mem_map.mp hp
  obtain ⟨o, ho⟩ := (M.mem q hq).2.there
  rw [e, h] at ho
  cases ho
/-- a new object of data is laid -/
theorem Mst.lay {K : Frag} {T H : Hp} {μ : Mem} {p : Addr} {o : HO} (M : Mst K T μ H) (h : H p = none) : Mst K (upd T p o) μ (upd H p o) ∧ Step T μ H (upd T p o) μ (upd H p o) := by
  have ht := M.fresh h
  have g : Sub T (upd T p o) := fun b u e => by rw [upd_ne (ne_of_none e ht)]; exact e
  refine ⟨⟨fun b u e => ?_, fun q hq => ?_, M.nd⟩, ⟨g, fun b u e _ => ?_, fun b u e t _ => ?_, fun _ _ _ n => n⟩⟩
  · by_cases hb : b = p
    · subst hb; rw [upd_same] at e ⊢; exact e
    · rw [upd_ne hb] at e ⊢; exact M.sub _ _ e
  · obtain ⟨h1, h2⟩ := M.mem q hq
    have hne : q.1 ≠ p := fun e => M.notin h (List.mem_map.mpr ⟨q, hq, e⟩)
    exact ⟨by rw [upd_ne hne]; exact h1, h2.mono g fun u e => by rw [upd_ne hne]; exact e⟩
  · rw [upd_ne (ne_of_none e h)]; exact e
  · rw [upd_ne (ne_of_none e h)]; exact t
/-- a new cell -/
theorem Mst.cell {K : Frag} {T H : Hp} {μ : Mem} {p : Addr} {o : HO} {m : Mo} (M : Mst K T μ H) (h : H p = none) (c : Cell K T (upd H p o) p m) : Mst K T ((p, m) :: μ) (upd H p o) ∧ Step T μ H T ((p, m) :: μ) (upd H p o) := by
  have ht := M.fresh h
  refine ⟨⟨fun b u e => ?_, fun q hq => ?_, ?_⟩, ⟨Sub.refl T, fun b u e _ => ?_, fun b u e t _ => t, fun b u e n hb => ?_⟩⟩
  · rw [upd_ne (ne_of_none e ht)]; exact M.sub _ _ e
  · rcases List.mem_cons.mp hq with rfl | hq
    · exact ⟨ht, c⟩
    · obtain ⟨h1, h2⟩ := M.mem q hq
      have hne : q.1 ≠ p := fun e => M.notin h (List.mem_map.mpr ⟨q, hq, e⟩)
      exact ⟨h1, h2.mono (Sub.refl T) fun u e => by rw [upd_ne hne]; exact e⟩
  · exact List.nodup_cons.mpr ⟨M.notin h, M.nd⟩
  · rw [upd_ne (ne_of_none e h)]; exact e
  · rcases List.mem_cons.mp (show b ∈ p :: dom μ from hb) with hb | hb
    · subst hb; rw [h] at e; cases e
    · exact n hb
theorem dom_set {μ : Mem} {i : Nat} {a : Addr} {m m' : Mo} (h : μ[i]? = some (a, m)) : dom (μ.set i (a, m')) = dom μ := by
  show (μ.set i (a, m')).map (·.1) = μ.map (·.1)
  rw [List.map_set]
  obtain ⟨hi, e⟩ := List.getElem?_eq_some_iff.mp h
  have : (μ.map (·.1))[i]? = some a := by rw [List.getElem?_map, h]; rfl
  obtain ⟨hi', e'⟩ := List.getElem?_eq_some_iff.mp this
  apply List.ext_getElem (by simp)
  intro j h1 h2
  by_cases hj : j = i
  · subst hj; rw [List.getElem_set_self]; exact e'.symm
  · rw [List.getElem_set_ne (Ne.symm hj)]
theorem Mst.dom_inj {K : Frag} {T H : Hp} {μ : Mem} (M : Mst K T μ H) {i : Nat} {a : Addr} {m : Mo} (h : μ[i]? = some (a, m)) {j : Nat} {q : Addr × Mo} (hq : μ[j]? = some q) (e : q.1 = a) : j = i := by
  have h1 : (dom μ)[i]? = some a := by show (μ.map (·.1))[i]? = _; rw [List.getElem?_map, h]; rfl
  have h2 : (dom μ)[j]? = some a := by show (μ.map (·.1))[j]? = _; rw [List.getElem?_map, hq]; exact congrArg some e
  obtain ⟨h3, e3⟩ := List.getElem?_eq_some_iff.mp h1
  obtain ⟨h4, e4⟩ := List.getElem?_eq_some_iff.mp h2
  exact (List.getElem_inj M.nd).mp (e4.trans e3.symm)
/-- the i-th cell is written -/
theorem Mst.put {K : Frag} {T H : Hp} {μ : Mem} {i : Nat} {a : Addr} {m m' : Mo} {o : HO} (M : Mst K T μ H) (h : μ[i]? = some (a, m)) (c : Cell K T (upd H a o) a m') : Mst K T (μ.set i (a, m')) (upd H a o) ∧ Step T μ H T (μ.set i (a, m')) (upd H a o) := by
  have hm : (a, m) ∈ μ := List.mem_of_getElem? h
  have ha : a ∈ dom μ := List.mem_map.mpr ⟨_, hm, rfl⟩
  have ta : T a = none := (M.mem _ hm).1
  have hi := (List.getElem?_eq_some_iff.mp h).1
  refine ⟨⟨fun b u e => ?_, fun q hq => ?_, ?_⟩, ⟨Sub.refl T, fun b u e n => ?_, fun b u e t _ => t, fun b u e n => ?_⟩⟩
  · rw [upd_ne (ne_of_none e ta)]; exact M.sub _ _ e
  · obtain ⟨j, hj⟩ := List.mem_iff_getElem?.mp hq
    by_cases hji : j = i
    · subst hji
      rw [List.getElem?_set_self hi] at hj
      cases hj
      exact ⟨ta, c⟩
    · rw [List.getElem?_set_ne (Ne.symm hji)] at hj
      obtain ⟨h1, h2⟩ := M.mem q (List.mem_of_getElem? hj)
      have hne : q.1 ≠ a := fun e => hji (M.dom_inj h hj e)
      exact ⟨h1, h2.mono (Sub.refl T) fun u e => by rw [upd_ne hne]; exact e⟩
  · show (dom (μ.set i (a, m'))).Nodup
    rw [dom_set h]; exact M.nd
  · have hne : b ≠ a := fun e => n (e ▸ ha)
    rw [upd_ne hne]; exact e
  · rw [dom_set h]; exact n
theorem Mst.get {K : Frag} {T H : Hp} {μ : Mem} {i : Nat} {a : Addr} {m : Mo} (M : Mst K T μ H) (h : μ[i]? = some (a, m)) : Cell K T H a m := (M.mem _ (List.mem_of_getElem? h)).2
/-- some cells alone -/
theorem Mst.part {K : Frag} {T H : Hp} {μ foot rest : Mem} (M : Mst K T μ H) (p : μ.Perm (foot ++ rest)) : Mst K T foot H :=
  ⟨M.sub, fun q hq => M.mem q (p.mem_iff.mpr (List.mem_append_left _ hq)), by
    have h : (dom (foot ++ rest)).Nodup := (p.map (·.1)).nodup_iff.mp M.nd
    rw [show dom (foot ++ rest) = dom foot ++ dom rest from List.map_append] at h
    exact (List.nodup_append.mp h).1⟩
/-- the rest stays -/
theorem Mst.frame {K : Frag} {T H T' H' : Hp} {μ foot foot' rest : Mem} (M : Mst K T μ H) (p : μ.Perm (foot ++ rest)) (S : Step T foot H T' foot' H') (M' : Mst K T' foot' H') :
    Mst K T' (foot' ++ rest) H' ∧ Step T μ H T' (foot' ++ rest) H' := by
  have hnd : (dom (foot ++ rest)).Nodup := (p.map (·.1)).nodup_iff.mp M.nd
  rw [show dom (foot ++ rest) = dom foot ++ dom rest from List.map_append] at hnd
  obtain ⟨n1, n2, n3⟩ := List.nodup_append.mp hnd
  have memr : ∀ q ∈ rest, q ∈ μ := fun q hq => p.mem_iff.mpr (List.mem_append_right _ hq)
  have out : ∀ q ∈ rest, q.1 ∉ dom foot := fun q hq hf => n3 _ hf _ (List.mem_map.mpr ⟨q, hq, rfl⟩) rfl
  have dm : ∀ b, b ∈ dom μ ↔ b ∈ dom foot ∨ b ∈ dom rest := fun b => by
    have := (p.map (·.1)).mem_iff (a := b)
    rw [show (foot ++ rest).map (·.1) = dom foot ++ dom rest from List.map_append] at this
    exact this.trans List.mem_append
  refine ⟨⟨M'.sub, fun q hq => ?_, ?_⟩, ⟨S.grow, fun b o e n => S.kept b o e fun h => n ((dm b).mpr (.inl h)), fun b o e t n => S.new b o e t fun h => n ((dm b).mpr (.inl h)), fun b o e n h => ?_⟩⟩
  · rcases List.mem_append.mp hq with hq | hq
    · exact M'.mem q hq
    · obtain ⟨h1, h2⟩ := M.mem q (memr q hq)
      obtain ⟨o, ho⟩ := h2.there
      exact ⟨S.new _ o ho h1 (out q hq), h2.mono S.grow fun u e => S.kept _ u e (out q hq)⟩
  · show (dom (foot' ++ rest)).Nodup
    rw [show dom (foot' ++ rest) = dom foot' ++ dom rest from List.map_append]
    refine List.nodup_append.mpr ⟨M'.nd, n2, fun a ha b hb e => ?_⟩
    subst e
    obtain ⟨q, hq, e⟩ := List.mem_map.mp hb
    obtain ⟨o, ho⟩ := (M.mem q (memr q hq)).2.there
    have e' : q.1 = a := e
    subst e'
    exact S.cells _ o ho (out q hq) ha
  · rw [show dom (foot' ++ rest) = dom foot' ++ dom rest from List.map_append] at h
    rcases List.mem_append.mp h with h | h
    · exact S.cells b o e (fun z => n ((dm b).mpr (.inl z))) h
    · exact n ((dm b).mpr (.inr h))
theorem Mst.perm {K : Frag} {T H : Hp} {μ μ' : Mem} (M : Mst K T μ H) (p : μ.Perm μ') : Mst K T μ' H :=
  ⟨M.sub, fun q hq => M.mem q (p.mem_iff.mpr hq), (p.map (·.1)).nodup_iff.mp M.nd⟩
theorem Step.perm {T H T' H' : Hp} {μ μ' μ'' : Mem} (S : Step T μ H T' μ' H') (p : μ'.Perm μ'') : Step T μ H T' μ'' H' :=
  ⟨S.grow, S.kept, S.new, fun b o e n h => S.cells b o e n ((p.map (·.1)).mem_iff.mpr h)⟩
theorem Step.permL {T H T' H' : Hp} {μ μ' μ0 : Mem} (S : Step T μ H T' μ' H') (p : μ0.Perm μ) : Step T μ0 H T' μ' H' := by
  have d : ∀ b, b ∉ dom μ0 → b ∉ dom μ := fun b n h => n ((p.map (·.1)).mem_iff.mpr h)
  exact ⟨S.grow, fun b o e n => S.kept b o e (d b n), fun b o e t n => S.new b o e t (d b n), fun b o e n => S.cells b o e (d b n)⟩
/-- cells forgotten -/
theorem Mst.drop {K : Frag} {T H : Hp} {μ foot rest : Mem} (M : Mst K T μ H) (p : μ.Perm (foot ++ rest)) : Mst K T foot H ∧ Step T μ H T foot H :=
  ⟨M.part p, ⟨Sub.refl T, fun _ _ h _ => h, fun _ _ _ h _ => h, fun b o e n h => n ((p.map (·.1)).mem_iff.mpr (by rw [List.map_append]; exact List.mem_append_left _ h))⟩⟩
end Ml

/-! Ml2: the wishes over data. -/
namespace Ml
open PySem L2
abbrev Ro := List (Option Dt)
structure Locs (K : Frag) (T : Hp) (ρ : Ro) (σ : L2.St) : Prop where
  len : σ.length = ρ.length
  get : ∀ (i : Nat) (d : Dt), ρ[i]? = some (some d) → ∃ v, σ[i]? = some (some v) ∧ Rep K T v d
theorem Locs.mono {K : Frag} {T T' : Hp} {ρ : Ro} {σ : L2.St} (e : Sub T T') (h : Locs K T ρ σ) : Locs K T' ρ σ :=
  ⟨h.len, fun i d e' => let ⟨v, h1, h2⟩ := h.get i d e'; ⟨v, h1, h2.mono e⟩⟩
theorem Locs.set {K : Frag} {T : Hp} {ρ : Ro} {σ : L2.St} (h : Locs K T ρ σ) {v : V} {d : Dt} (r : Rep K T v d) (i : Nat) : Locs K T (ρ.set i (some d)) (σ.set i (some v)) := by
  refine ⟨by simp [h.len], fun j e he => ?_⟩
  by_cases hj : j = i
  · subst hj
    by_cases hl : j < ρ.length
    · rw [List.getElem?_set_self hl] at he
      cases he
      exact ⟨v, by rw [List.getElem?_set_self (by rw [h.len]; exact hl)], r⟩
    · rw [List.getElem?_eq_none (by simpa using hl)] at he
      cases he
  · rw [List.getElem?_set_ne (Ne.symm hj)] at he
    obtain ⟨w, h1, h2⟩ := h.get j e he
    exact ⟨w, by rw [List.getElem?_set_ne (Ne.symm hj)]; exact h1, h2⟩
theorem Locs.clear {K : Frag} {T : Hp} {ρ : Ro} {σ : L2.St} (h : Locs K T ρ σ) (i : Nat) : Locs K T (ρ.set i none) (σ.set i none) := by
  refine ⟨by simp [h.len], fun j e he => ?_⟩
  by_cases hj : j = i
  · subst hj
    by_cases hl : j < ρ.length
    · rw [List.getElem?_set_self hl] at he
      cases he
    · rw [List.getElem?_eq_none (by simpa using hl)] at he
      cases he
  · rw [List.getElem?_set_ne (Ne.symm hj)] at he
    obtain ⟨w, h1, h2⟩ := h.get j e he
    exact ⟨w, by rw [List.getElem?_set_ne (Ne.symm hj)]; exact h1, h2⟩
/-- what is wanted of an exception: at the slots; over data -/
structure Wish where
  W : WX
  X : Addr → List (Str × Dt) → Ro → Mem → Prop
def FinW (K : Frag) (T : Hp) (μ : Mem) (H : Hp) (Y : Wish) : Prop := ∀ T' C dx us fs σ' ρ' H' μ', Y.X C fs ρ' μ' → Step T μ H T' μ' H' → Mst K T' μ' H' → Locs K T' ρ' σ' → T' dx = some (.xd us) → Paired (PRep K T') us fs → Y.W (.ref C) (some dx) σ' H'
/-- no exception -/
def noW : Wish := ⟨fun _ _ _ _ => False, fun _ _ _ _ => False⟩
theorem finW_no {K : Frag} {T H : Hp} {μ : Mem} : FinW K T μ H noW := fun _ _ _ _ _ _ _ _ _ h => h.elim
/-- what is wanted of a value, at data level, is enough for what is wanted of it -/
def Fin1 (K : Frag) (T : Hp) (μ : Mem) (H : Hp) (W : Dt → Mem → Prop) (Q : VK) : Prop := ∀ T' v H' d μ', W d μ' → Step T μ H T' μ' H' → Mst K T' μ' H' → Rep K T' v d → Q v H'
def FinB (K : Frag) (T : Hp) (μ : Mem) (H : Hp) (W : Bool → Mem → Prop) (Q : Bool → Hp → Prop) : Prop := ∀ T' b H' μ', W b μ' → Step T μ H T' μ' H' → Mst K T' μ' H' → Q b H'
def FinA (K : Frag) (T : Hp) (μ : Mem) (H : Hp) (W : List Dt → Mem → Prop) (Q : List V → Hp → Prop) : Prop := ∀ T' vs H' ds μ', W ds μ' → Step T μ H T' μ' H' → Mst K T' μ' H' → Reps K T' vs ds → Q vs H'
def FinH (K : Frag) (T : Hp) (μ : Mem) (H : Hp) (W : Mem → Prop) (Q : Hp → Prop) : Prop := ∀ T' H' μ', W μ' → Step T μ H T' μ' H' → Mst K T' μ' H' → Q H'
def WP (K : Frag) (Y : Wish) (ρ : Ro) (μ : Mem) (te : TE) (W : Dt → Mem → Prop) : Prop := ∀ T σ H, Mst K T μ H → Locs K T ρ σ → FinW K T μ H Y → ∀ Q, Fin1 K T μ H W Q → te σ H Q
def WPT (K : Frag) (Y : Wish) (ρ : Ro) (μ : Mem) (tt : TT) (W : Bool → Mem → Prop) : Prop := ∀ T σ H, Mst K T μ H → Locs K T ρ σ → FinW K T μ H Y → ∀ Q, FinB K T μ H W Q → tt σ H Q
def WPA (K : Frag) (Y : Wish) (ρ : Ro) (μ : Mem) (ta : TA) (W : List Dt → Mem → Prop) : Prop := ∀ T σ H, Mst K T μ H → Locs K T ρ σ → FinW K T μ H Y → ∀ Q, FinA K T μ H W Q → ta σ H Q
/-- operators on values -/
def RW2 (K : Frag) (μ : Mem) (r : R2) (d e : Dt) (W : Dt → Mem → Prop) : Prop := ∀ T H x y, Mst K T μ H → Rep K T x d → Rep K T y e → ∀ Q, Fin1 K T μ H W Q → r x y H Q
def RW1 (K : Frag) (μ : Mem) (r : V → Hp → VK → Prop) (d : Dt) (W : Dt → Mem → Prop) : Prop := ∀ T H x, Mst K T μ H → Rep K T x d → ∀ Q, Fin1 K T μ H W Q → r x H Q
def RWL (K : Frag) (μ : Mem) (r : List V → Hp → VK → Prop) (ds : List Dt) (W : Dt → Mem → Prop) : Prop := ∀ T H xs, Mst K T μ H → Reps K T xs ds → ∀ Q, Fin1 K T μ H W Q → r xs H Q
def RWM (K : Frag) (μ : Mem) (r : V → List V → Hp → VK → Prop) (d : Dt) (ds : List Dt) (W : Dt → Mem → Prop) : Prop := ∀ T H x xs, Mst K T μ H → Rep K T x d → Reps K T xs ds → ∀ Q, Fin1 K T μ H W Q → r x xs H Q
section
variable {K : Frag} {Y : Wish} {T T1 H H1 : Hp} {μ μ1 : Mem} {ρ : Ro} {σ : L2.St}
theorem FinW.go (F : FinW K T μ H Y) (S : Step T μ H T1 μ1 H1) : FinW K T1 μ1 H1 Y := fun T' C dx us fs σ' ρ' H' μ' w S' => F T' C dx us fs σ' ρ' H' μ' w (S.trans S')
theorem Fin1.go {W W' : Dt → Mem → Prop} {Q : VK} (F : Fin1 K T μ H W Q) (S : Step T μ H T1 μ1 H1) (h : ∀ d μ', W' d μ' → W d μ') : Fin1 K T1 μ1 H1 W' Q := fun T' v H' d μ' w S' M' r => F T' v H' d μ' (h d μ' w) (S.trans S') M' r
theorem FinB.go {W : Bool → Mem → Prop} {Q : Bool → Hp → Prop} (F : FinB K T μ H W Q) (S : Step T μ H T1 μ1 H1) : FinB K T1 μ1 H1 W Q := fun T' b H' μ' w S' M' => F T' b H' μ' w (S.trans S') M'
theorem FinA.go {W : List Dt → Mem → Prop} {Q : List V → Hp → Prop} (F : FinA K T μ H W Q) (S : Step T μ H T1 μ1 H1) : FinA K T1 μ1 H1 W Q := fun T' v H' d μ' w S' M' r => F T' v H' d μ' w (S.trans S') M' r
theorem FinH.go {W : Mem → Prop} {Q : Hp → Prop} (F : FinH K T μ H W Q) (S : Step T μ H T1 μ1 H1) : FinH K T1 μ1 H1 W Q := fun T' H' μ' w S' M' => F T' H' μ' w (S.trans S') M'
theorem WP.imp {te : TE} {W W' : Dt → Mem → Prop} (h : WP K Y ρ μ te W) (k : ∀ d μ', W d μ' → W' d μ') : WP K Y ρ μ te W' := fun T σ H M L N Q F => h T σ H M L N Q (F.go (Step.refl _ _ _) k)
theorem WPT.imp {te : TT} {W W' : Bool → Mem → Prop} (h : WPT K Y ρ μ te W) (k : ∀ d μ', W d μ' → W' d μ') : WPT K Y ρ μ te W' := fun T σ H M L N Q F => h T σ H M L N Q fun T' b H' μ' w => F T' b H' μ' (k _ _ w)
theorem WPA.imp {te : TA} {W W' : List Dt → Mem → Prop} (h : WPA K Y ρ μ te W) (k : ∀ d μ', W d μ' → W' d μ') : WPA K Y ρ μ te W' := fun T σ H M L N Q F => h T σ H M L N Q fun T' b H' d μ' w => F T' b H' d μ' (k _ _ w)

/-! ### names, constants, operators -/
theorem wp_var {i : Nat} {d : Dt} {W : Dt → Mem → Prop} (h : ρ[i]? = some (some d)) (w : W d μ) : WP K Y ρ μ (tVar i) W := fun T σ H M L N Q F => by
  obtain ⟨v, h1, h2⟩ := L.get i d h
  exact ⟨v, h1, F T v H d μ w (Step.refl _ _ _) M h2⟩
theorem wp_int {n : Int} {W : Dt → Mem → Prop} (w : W (.int n) μ) : WP K Y ρ μ (tC (.int n)) W := fun T σ H M L N Q F => F T _ H _ μ w (Step.refl _ _ _) M (.int n)
theorem wp_bl {n : Bool} {W : Dt → Mem → Prop} (w : W (.bl n) μ) : WP K Y ρ μ (tC (.bl n)) W := fun T σ H M L N Q F => F T _ H _ μ w (Step.refl _ _ _) M (.bl n)
theorem wp_str {n : Str} {W : Dt → Mem → Prop} (w : W (.str n) μ) : WP K Y ρ μ (tC (.str n)) W := fun T σ H M L N Q F => F T _ H _ μ w (Step.refl _ _ _) M (.str n)
theorem wp_non {W : Dt → Mem → Prop} (w : W .non μ) : WP K Y ρ μ (tC .non) W := fun T σ H M L N Q F => F T _ H _ μ w (Step.refl _ _ _) M .non
theorem wp_ty {n : String} {W : Dt → Mem → Prop} (w : W (.ty n) μ) : WP K Y ρ μ (tC (.ty n)) W := fun T σ H M L N Q F => F T _ H _ μ w (Step.refl _ _ _) M (.ty n)
theorem wp_ref {a : Addr} {W : Dt → Mem → Prop} (w : W (.ref a) μ) : WP K Y ρ μ (tC (.ref a)) W := fun T σ H M L N Q F => F T _ H _ μ w (Step.refl _ _ _) M (.ref a)
theorem wp_op {r : R2} {ta tb : TE} {W : Dt → Mem → Prop} (h : WP K Y ρ μ ta fun d μ1 => WP K Y ρ μ1 tb fun e μ2 => RW2 K μ2 r d e W) : WP K Y ρ μ (tOp r ta tb) W := fun T σ H M L N Q F =>
  h T σ H M L N _ fun T1 x H1 d μ1 h1 S1 M1 r1 => h1 T1 σ H1 M1 (L.mono S1.grow) (N.go S1) _ fun T2 y H2 e μ2 h2 S2 M2 r2 => h2 T2 H2 x y M2 (r1.mono S2.grow) r2 Q (F.go (S1.trans S2) fun _ _ w => w)
theorem wp_un {r : V → Hp → VK → Prop} {ta : TE} {W : Dt → Mem → Prop} (h : WP K Y ρ μ ta fun d μ1 => RW1 K μ1 r d W) : WP K Y ρ μ (tUn r ta) W := fun T σ H M L N Q F =>
  h T σ H M L N _ fun T1 x H1 d μ1 h1 S1 M1 r1 => h1 T1 H1 x M1 r1 Q (F.go S1 fun _ _ w => w)
theorem wp_cb {r : List V → Hp → VK → Prop} {ta : TA} {W : Dt → Mem → Prop} (h : WPA K Y ρ μ ta fun ds μ1 => RWL K μ1 r ds W) : WP K Y ρ μ (tCB r ta) W := fun T σ H M L N Q F =>
  h T σ H M L N _ fun T1 xs H1 ds μ1 h1 S1 M1 r1 => h1 T1 H1 xs M1 r1 Q (F.go S1 fun _ _ w => w)
theorem wpa_nil {W : List Dt → Mem → Prop} (w : W [] μ) : WPA K Y ρ μ tNil W := fun T σ H M L N Q F => F T [] H [] μ w (Step.refl _ _ _) M .nil
theorem wpa_cons {ta : TE} {tr : TA} {W : List Dt → Mem → Prop} (h : WP K Y ρ μ ta fun d μ1 => WPA K Y ρ μ1 tr fun ds μ2 => W (d :: ds) μ2) : WPA K Y ρ μ (tCons ta tr) W := fun T σ H M L N Q F =>
  h T σ H M L N _ fun T1 x H1 d μ1 h1 S1 M1 r1 => h1 T1 σ H1 M1 (L.mono S1.grow) (N.go S1) _ fun T2 xs H2 ds μ2 w S2 M2 r2 => F T2 _ H2 _ μ2 w (S1.trans S2) M2 (.cons (r1.mono S2.grow) r2)
theorem wp_tup {ta : TA} {W : Dt → Mem → Prop} (h : WPA K Y ρ μ ta fun ds μ1 => ds.length ≤ 1000000 ∧ W (.tup ds) μ1) : WP K Y ρ μ (tTup ta) W := fun T σ H M L N Q F =>
  h T σ H M L N _ fun T1 xs H1 ds μ1 ⟨hl, w⟩ S1 M1 r1 => ⟨by rw [r1.length]; exact Nat.le_trans hl (by decide), fun p hp => by
    obtain ⟨M2, S2⟩ := M1.lay (o := .tup xs) hp
    exact F _ _ _ _ μ1 w (S1.trans S2) M2 (.tup upd_same (r1.mono S2.grow))⟩
theorem wp_lst {ta : TA} {W : Dt → Mem → Prop} (h : WPA K Y ρ μ ta fun ds μ1 => ds.length ≤ 1000000 ∧ W (.lst ds) μ1) : WP K Y ρ μ (tLst ta) W := fun T σ H M L N Q F =>
  h T σ H M L N _ fun T1 xs H1 ds μ1 ⟨hl, w⟩ S1 M1 r1 => ⟨by rw [r1.length]; exact Nat.le_trans hl (by decide), fun p hp => by
    obtain ⟨M2, S2⟩ := M1.lay (o := .lst xs) hp
    exact F _ _ _ _ μ1 w (S1.trans S2) M2 (.lst upd_same (r1.mono S2.grow))⟩
/-- a list that will change -/
theorem wp_lstC {ta : TA} {W : Dt → Mem → Prop} (h : WPA K Y ρ μ ta fun ds μ1 => ds.length ≤ 1000000 ∧ ∀ p, p ∉ dom μ1 → W (.ref p) ((p, .lst ds) :: μ1)) : WP K Y ρ μ (tLst ta) W := fun T σ H M L N Q F =>
  h T σ H M L N _ fun T1 xs H1 ds μ1 ⟨hl, w⟩ S1 M1 r1 => ⟨by rw [r1.length]; exact Nat.le_trans hl (by decide), fun p hp => by
    obtain ⟨M2, S2⟩ := M1.cell (m := .lst ds) (o := .lst xs) hp ⟨xs, upd_same, r1⟩
    exact F _ _ _ _ _ (w p (M1.notin hp)) (S1.trans S2) M2 (.ref p)⟩
/-! ### tests -/
theorem wpt_B {t : TE} {W : Bool → Mem → Prop} (h : WP K Y ρ μ t fun d μ1 => ∃ b, d = .bl b ∧ W b μ1) : WPT K Y ρ μ (tB t) W := fun T σ H M L N Q F =>
  h T σ H M L N _ fun T1 x H1 d μ1 ⟨b, e, w⟩ S1 M1 r1 => by
    subst e
    exact ⟨b, r1.bl_inv, F T1 b H1 μ1 w S1 M1⟩
theorem wpt_test {t : TE} {W : Bool → Mem → Prop} (h : WP K Y ρ μ t fun d μ1 => ∃ b, d = .bl b ∧ W b μ1) : WPT K Y ρ μ (tTest t) W := fun T σ H M L N Q F =>
  h T σ H M L N _ fun T1 x H1 d μ1 ⟨b, e, w⟩ S1 M1 r1 => by
    subst e
    exact ⟨b, r1.bl_inv, F T1 b H1 μ1 w S1 M1⟩
theorem wpt_and {t u : TT} {W : Bool → Mem → Prop} (h : WPT K Y ρ μ t fun b μ1 => if b = true then WPT K Y ρ μ1 u W else W false μ1) : WPT K Y ρ μ (tAnd t u) W := fun T σ H M L N Q F =>
  h T σ H M L N _ fun T1 b H1 μ1 w S1 M1 => by
    cases b with
    | true => exact w T1 σ H1 M1 (L.mono S1.grow) (N.go S1) Q (F.go S1)
    | false => exact F T1 false H1 μ1 w S1 M1
theorem wpt_or {t u : TT} {W : Bool → Mem → Prop} (h : WPT K Y ρ μ t fun b μ1 => if b = true then W true μ1 else WPT K Y ρ μ1 u W) : WPT K Y ρ μ (tOr t u) W := fun T σ H M L N Q F =>
  h T σ H M L N _ fun T1 b H1 μ1 w S1 M1 => by
    cases b with
    | false => exact w T1 σ H1 M1 (L.mono S1.grow) (N.go S1) Q (F.go S1)
    | true => exact F T1 true H1 μ1 w S1 M1
theorem wpt_not {t : TT} {W : Bool → Mem → Prop} (h : WPT K Y ρ μ t fun b μ1 => W (!b) μ1) : WPT K Y ρ μ (tNot t) W := fun T σ H M L N Q F =>
  h T σ H M L N _ fun T1 b H1 μ1 w S1 M1 => F T1 (!b) H1 μ1 w S1 M1
theorem wp_andV {ta tb : TE} {W : Dt → Mem → Prop} (h : WP K Y ρ μ ta fun d μ1 => ∃ b, d = .bl b ∧ if b = true then WP K Y ρ μ1 tb W else W (.bl false) μ1) : WP K Y ρ μ (tAndV ta tb) W := fun T σ H M L N Q F =>
  h T σ H M L N _ fun T1 x H1 d μ1 ⟨b, e, w⟩ S1 M1 r1 => by
    subst e
    refine ⟨b, r1.bl_inv, ?_⟩
    cases b with
    | true => exact w T1 σ H1 M1 (L.mono S1.grow) (N.go S1) Q (F.go S1 fun _ _ w => w)
    | false => exact F T1 _ H1 _ μ1 w S1 M1 (.bl false)
theorem wp_orV {ta tb : TE} {W : Dt → Mem → Prop} (h : WP K Y ρ μ ta fun d μ1 => ∃ b, d = .bl b ∧ if b = true then W (.bl true) μ1 else WP K Y ρ μ1 tb W) : WP K Y ρ μ (tOrV ta tb) W := fun T σ H M L N Q F =>
  h T σ H M L N _ fun T1 x H1 d μ1 ⟨b, e, w⟩ S1 M1 r1 => by
    subst e
    refine ⟨b, r1.bl_inv, ?_⟩
    cases b with
    | false => exact w T1 σ H1 M1 (L.mono S1.grow) (N.go S1) Q (F.go S1 fun _ _ w => w)
    | true => exact F T1 _ H1 _ μ1 w S1 M1 (.bl true)
theorem wp_notV {ta : TE} {W : Dt → Mem → Prop} (h : WP K Y ρ μ ta fun d μ1 => ∃ b, d = .bl b ∧ W (.bl (!b)) μ1) : WP K Y ρ μ (tNotV ta) W := fun T σ H M L N Q F =>
  h T σ H M L N _ fun T1 x H1 d μ1 ⟨b, e, w⟩ S1 M1 r1 => by
    subst e
    exact ⟨b, r1.bl_inv, F T1 _ H1 _ μ1 w S1 M1 (.bl _)⟩
theorem wp_if {t : TT} {ta tb : TE} {W : Dt → Mem → Prop} (h : WPT K Y ρ μ t fun b μ1 => if b = true then WP K Y ρ μ1 ta W else WP K Y ρ μ1 tb W) : WP K Y ρ μ (tIf t ta tb) W := fun T σ H M L N Q F =>
  h T σ H M L N _ fun T1 b H1 μ1 w S1 M1 => by
    cases b with
    | true => exact w T1 σ H1 M1 (L.mono S1.grow) (N.go S1) Q (F.go S1 fun _ _ w => w)
    | false => exact w T1 σ H1 M1 (L.mono S1.grow) (N.go S1) Q (F.go S1 fun _ _ w => w)
/-! ### operators by data -/
theorem rw_I0 {g : Int → Int → V} {i j : Int} {d : Dt} {W : Dt → Mem → Prop} (hg : ∀ T, Rep K T (g i j) d) (w : W d μ) : RW2 K μ (rI0 g) (.int i) (.int j) W := fun T H x y M r1 r2 Q F =>
  ⟨i, j, r1.int_inv, r2.int_inv, F T _ H _ μ w (Step.refl _ _ _) M (hg T)⟩
theorem rw_I {C : Int → Int → Prop} {g : Int → Int → V} {i j : Int} {d : Dt} {W : Dt → Mem → Prop} (hc : C i j) (hg : ∀ T, Rep K T (g i j) d) (w : W d μ) : RW2 K μ (rI C g) (.int i) (.int j) W := fun T H x y M r1 r2 Q F =>
  ⟨i, j, r1.int_inv, r2.int_inv, hc, F T _ H _ μ w (Step.refl _ _ _) M (hg T)⟩
theorem rw_U {g : Int → V} {i : Int} {d : Dt} {W : Dt → Mem → Prop} (hg : ∀ T, Rep K T (g i) d) (w : W d μ) : RW1 K μ (rU g) (.int i) W := fun T H x M r1 Q F =>
  ⟨i, r1.int_inv, F T _ H _ μ w (Step.refl _ _ _) M (hg T)⟩
/-- scalars compared -/
theorem rw_eq {d e : Dt} {x y : V} {W : Dt → Mem → Prop} (hx : d.flat = some x) (hy : e.flat = some y) (hs : scal x y = true) (w : W (.bl (decide (x = y))) μ) : RW2 K μ rEq d e W := fun T H u v M r1 r2 Q F => by
  have eu : u = x := by cases r1 <;> simp [Dt.flat] at hx <;> exact hx
  have ev : v = y := by cases r2 <;> simp [Dt.flat] at hy <;> exact hy
  subst eu ev
  exact ⟨hs, F T _ H _ μ w (Step.refl _ _ _) M (.bl _)⟩
theorem rw_ne {d e : Dt} {x y : V} {W : Dt → Mem → Prop} (hx : d.flat = some x) (hy : e.flat = some y) (hs : scal x y = true) (w : W (.bl (!decide (x = y))) μ) : RW2 K μ rNe d e W := fun T H u v M r1 r2 Q F => by
  have eu : u = x := by cases r1 <;> simp [Dt.flat] at hx <;> exact hx
  have ev : v = y := by cases r2 <;> simp [Dt.flat] at hy <;> exact hy
  subst eu ev
  exact ⟨hs, F T _ H _ μ w (Step.refl _ _ _) M (.bl _)⟩
theorem atI_reps {T : Hp} {xs : List V} {ds : List Dt} {i : Int} {d : Dt} (r : Reps K T xs ds) (h : atI ds i = some d) : ∃ v, atI xs i = some v ∧ Rep K T v d := by
  unfold atI at h ⊢
  cases e : ixN ds.length i with
  | none => rw [e] at h; simp at h
  | some j =>
    rw [e] at h
    obtain ⟨v, h1, h2⟩ := r.get (show ds[j]? = some d from h)
    rw [r.length, e]
    exact ⟨v, h1, h2⟩
theorem rw_ixL {ds : List Dt} {i : Int} {d : Dt} {W : Dt → Mem → Prop} (h : atI ds i = some d) (w : W d μ) : RW2 K μ (rIxL K) (.lst ds) (.int i) W := fun T H x y M r1 r2 Q F => by
  obtain ⟨a, xs, rfl, hs, hr⟩ := r1.lst_inv
  obtain ⟨v, h1, h2⟩ := atI_reps hr h
  exact ⟨a, xs, i, v, rfl, r2.int_inv, SqL.of (M.sub _ _ hs), h1, F T _ H _ μ w (Step.refl _ _ _) M h2⟩
theorem rw_ixT {ds : List Dt} {i : Int} {d : Dt} {W : Dt → Mem → Prop} (h : atI ds i = some d) (w : W d μ) : RW2 K μ (rIxT K) (.tup ds) (.int i) W := fun T H x y M r1 r2 Q F => by
  obtain ⟨a, xs, rfl, hs, hr⟩ := r1.tup_inv
  obtain ⟨v, h1, h2⟩ := atI_reps hr h
  exact ⟨a, xs, i, v, rfl, r2.int_inv, SqT.of (M.sub _ _ hs), h1, F T _ H _ μ w (Step.refl _ _ _) M h2⟩
theorem rw_ixF {ds : List Dt} {i : Int} {d : Dt} {W : Dt → Mem → Prop} (h : atI ds i = some d) (w : W d μ) : RW2 K μ (rIxL K) (.fls ds) (.int i) W := fun T H x y M r1 r2 Q F => by
  obtain ⟨a, xs, rfl, hs, hr⟩ := r1.fls_inv
  obtain ⟨v, h1, h2⟩ := atI_reps hr h
  exact ⟨a, xs, i, v, rfl, r2.int_inv, M.sub.l hs, h1, F T _ H _ μ w (Step.refl _ _ _) M h2⟩
/-- a cell's item -/
theorem rw_ixC {a : Addr} {ds : List Dt} {c : Nat} {i : Int} {d : Dt} {W : Dt → Mem → Prop} (hc : μ[c]? = some (a, .lst ds)) (h : atI ds i = some d) (w : W d μ) : RW2 K μ (rIxL K) (.ref a) (.int i) W := fun T H x y M r1 r2 Q F => by
  obtain rfl := r1.ref_inv
  obtain ⟨vs, h1, hr⟩ := M.get hc
  obtain ⟨v, h2, h3⟩ := atI_reps hr h
  exact ⟨a, vs, i, v, rfl, r2.int_inv, SqL.of h1, h2, F T _ H _ μ w (Step.refl _ _ _) M h3⟩
theorem rw_ix_lst {ds : List Dt} {i : Int} {d : Dt} {W : Dt → Mem → Prop} (h : atI ds i = some d) (w : W d μ) : RW2 K μ (rIx K) (.lst ds) (.int i) W := fun T H x y M r1 r2 Q F => .inl (rw_ixL h w T H x y M r1 r2 Q F)
theorem rw_ix_fls {ds : List Dt} {i : Int} {d : Dt} {W : Dt → Mem → Prop} (h : atI ds i = some d) (w : W d μ) : RW2 K μ (rIx K) (.fls ds) (.int i) W := fun T H x y M r1 r2 Q F => .inl (rw_ixF h w T H x y M r1 r2 Q F)
theorem rw_ix_tup {ds : List Dt} {i : Int} {d : Dt} {W : Dt → Mem → Prop} (h : atI ds i = some d) (w : W d μ) : RW2 K μ (rIx K) (.tup ds) (.int i) W := fun T H x y M r1 r2 Q F => .inr (.inl (rw_ixT h w T H x y M r1 r2 Q F))
theorem rw_ix_cell {a : Addr} {ds : List Dt} {c : Nat} {i : Int} {d : Dt} {W : Dt → Mem → Prop} (hc : μ[c]? = some (a, .lst ds)) (h : atI ds i = some d) (w : W d μ) : RW2 K μ (rIx K) (.ref a) (.int i) W := fun T H x y M r1 r2 Q F => .inl (rw_ixC hc h w T H x y M r1 r2 Q F)
end
end Ml

/-! Ml3: statements, targets, loops, comprehensions over data. -/
namespace Ml
open PySem L2
structure DE where
  nx : Ro → Mem → Prop
  rt : Dt → Mem → Prop
  bk : Ro → Mem → Prop := fun _ _ => False
  ct : Ro → Mem → Prop := fun _ _ => False
def FinS (K : Frag) (T : Hp) (μ : Mem) (H : Hp) (W : Ro → Mem → Prop) (Q : L2.St → Hp → Prop) : Prop := ∀ T' σ' H' ρ' μ', W ρ' μ' → Step T μ H T' μ' H' → Mst K T' μ' H' → Locs K T' ρ' σ' → Q σ' H'
structure FinE (K : Frag) (T : Hp) (μ : Mem) (H : Hp) (D : DE) (E : Ends) : Prop where
  nx : FinS K T μ H D.nx E.nx
  rt : Fin1 K T μ H D.rt E.rt
  bk : FinS K T μ H D.bk E.bk
  ct : FinS K T μ H D.ct E.ct
def WPS (K : Frag) (Y : Wish) (ρ : Ro) (μ : Mem) (ts : TS) (D : DE) : Prop := ∀ T σ H, Mst K T μ H → Locs K T ρ σ → FinW K T μ H Y → ∀ E, FinE K T μ H D E → ts E σ H
/-- a target takes the data d -/
def WPG (K : Frag) (Y : Wish) (ρ : Ro) (μ : Mem) (g : TG) (d : Dt) (W : Ro → Mem → Prop) : Prop := ∀ T σ H v, Mst K T μ H → Locs K T ρ σ → FinW K T μ H Y → Rep K T v d → ∀ Q, FinS K T μ H W Q → g v σ H Q
def WPGs (K : Frag) (Y : Wish) (ρ : Ro) (μ : Mem) (g : TGs) (ds : List Dt) (W : Ro → Mem → Prop) : Prop := ∀ T σ H vs, Mst K T μ H → Locs K T ρ σ → FinW K T μ H Y → Reps K T vs ds → ∀ Q, FinS K T μ H W Q → g vs σ H Q
section
variable {K : Frag} {Y : Wish} {T T1 H H1 : Hp} {μ μ1 : Mem} {ρ : Ro} {σ : L2.St} {D : DE}
theorem FinS.go {W W' : Ro → Mem → Prop} {Q : L2.St → Hp → Prop} (F : FinS K T μ H W Q) (S : Step T μ H T1 μ1 H1) (h : ∀ r m, W' r m → W r m) : FinS K T1 μ1 H1 W' Q := fun T' σ' H' ρ' μ' w S' M' L' => F T' σ' H' ρ' μ' (h _ _ w) (S.trans S') M' L'
theorem FinE.go {E : Ends} (F : FinE K T μ H D E) (S : Step T μ H T1 μ1 H1) : FinE K T1 μ1 H1 D E := ⟨F.nx.go S fun _ _ w => w, F.rt.go S fun _ _ w => w, F.bk.go S fun _ _ w => w, F.ct.go S fun _ _ w => w⟩
theorem WPS.imp {ts : TS} {D D' : DE} (h : WPS K Y ρ μ ts D) (h1 : ∀ r m, D.nx r m → D'.nx r m) (h2 : ∀ d m, D.rt d m → D'.rt d m) (h3 : ∀ r m, D.bk r m → D'.bk r m) (h4 : ∀ r m, D.ct r m → D'.ct r m) : WPS K Y ρ μ ts D' := fun T σ H M L N E F =>
  h T σ H M L N E ⟨F.nx.go (Step.refl _ _ _) h1, F.rt.go (Step.refl _ _ _) h2, F.bk.go (Step.refl _ _ _) h3, F.ct.go (Step.refl _ _ _) h4⟩
theorem wps_next (w : D.nx ρ μ) : WPS K Y ρ μ tNext D := fun T σ H M L N E F => F.nx T σ H ρ μ w (Step.refl _ _ _) M L
theorem wps_break (w : D.bk ρ μ) : WPS K Y ρ μ tBreak D := fun T σ H M L N E F => F.bk T σ H ρ μ w (Step.refl _ _ _) M L
theorem wps_cont (w : D.ct ρ μ) : WPS K Y ρ μ tCont D := fun T σ H M L N E F => F.ct T σ H ρ μ w (Step.refl _ _ _) M L
theorem wps_never (w : False) : WPS K Y ρ μ tNever D := w.elim
theorem wps_seq {t u : TS} (h : WPS K Y ρ μ t { D with nx := fun ρ1 μ1 => WPS K Y ρ1 μ1 u D }) : WPS K Y ρ μ (tSeq t u) D := fun T σ H M L N E F =>
  h T σ H M L N { E with nx := u E } ⟨fun T' σ' H' ρ' μ' w S' M' L' => w T' σ' H' M' L' (N.go S') E (F.go S'), F.rt, F.bk, F.ct⟩
theorem wps_drop {te : TE} (h : WP K Y ρ μ te fun _ μ1 => D.nx ρ μ1) : WPS K Y ρ μ (tDrop te) D := fun T σ H M L N E F =>
  h T σ H M L N _ fun T1 x H1 d μ1 w S1 M1 r1 => F.nx T1 σ H1 ρ μ1 w S1 M1 (L.mono S1.grow)
theorem wps_ret {te : TE} (h : WP K Y ρ μ te D.rt) : WPS K Y ρ μ (tRet te) D := fun T σ H M L N E F => h T σ H M L N E.rt F.rt
theorem wps_retN (h : D.rt .non μ) : WPS K Y ρ μ tRetN D := fun T σ H M L N E F => F.rt T .non H .non μ h (Step.refl _ _ _) M .non
theorem wps_if {c : TT} {t u : TS} (h : WPT K Y ρ μ c fun b μ1 => if b = true then WPS K Y ρ μ1 t D else WPS K Y ρ μ1 u D) : WPS K Y ρ μ (tIfS c t u) D := fun T σ H M L N E F =>
  h T σ H M L N _ fun T1 b H1 μ1 w S1 M1 => by
    cases b with
    | true => exact w T1 σ H1 M1 (L.mono S1.grow) (N.go S1) E (F.go S1)
    | false => exact w T1 σ H1 M1 (L.mono S1.grow) (N.go S1) E (F.go S1)
theorem wps_asg {te : TE} {g : TG} (h : WP K Y ρ μ te fun d μ1 => WPG K Y ρ μ1 g d D.nx) : WPS K Y ρ μ (tAsg te g) D := fun T σ H M L N E F =>
  h T σ H M L N _ fun T1 x H1 d μ1 w S1 M1 r1 => w T1 σ H1 x M1 (L.mono S1.grow) (N.go S1) r1 E.nx (F.nx.go S1 fun _ _ w => w)
theorem wpg_name {i : Nat} {d : Dt} {W : Ro → Mem → Prop} (w : W (ρ.set i (some d)) μ) : WPG K Y ρ μ (gName i) d W := fun T σ H v M L N r Q F => F T _ H _ μ w (Step.refl _ _ _) M (L.set r i)
theorem wpgs_nil {W : Ro → Mem → Prop} (w : W ρ μ) : WPGs K Y ρ μ gNil [] W := fun T σ H vs M L N r Q F => ⟨r.nil_inv, F T _ H _ μ w (Step.refl _ _ _) M L⟩
theorem wpgs_cons {g : TG} {u : TGs} {d : Dt} {ds : List Dt} {W : Ro → Mem → Prop} (h : WPG K Y ρ μ g d fun ρ1 μ1 => WPGs K Y ρ1 μ1 u ds W) : WPGs K Y ρ μ (gCons g u) (d :: ds) W := fun T σ H vs M L N r Q F => by
  obtain ⟨v, us, rfl, r1, r2⟩ := r.cons_inv
  exact ⟨v, us, rfl, h T σ H v M L N r1 _ fun T1 σ1 H1 ρ1 μ1 w S1 M1 L1 => w T1 σ1 H1 us M1 L1 (N.go S1) (r2.mono S1.grow) Q (F.go S1 fun _ _ w => w)⟩
theorem wpg_tup {n : Nat} {t : TGs} {ds : List Dt} {W : Ro → Mem → Prop} (hn : ds.length = n) (h : WPGs K Y ρ μ t ds W) : WPG K Y ρ μ (gTup K n t) (.tup ds) W := fun T σ H v M L N r Q F => by
  obtain ⟨a, xs, rfl, hs, hr⟩ := r.tup_inv
  exact ⟨a, xs, rfl, SqT.of (M.sub _ _ hs), hr.length.trans hn, h T σ H xs M L N hr Q F⟩
theorem wps_par {i j : Nat} {ta : TA} (h : WPA K Y ρ μ ta fun ds μ1 => ∃ d e, ds = [d, e] ∧ D.nx ((ρ.set i (some d)).set j (some e)) μ1) : WPS K Y ρ μ (tPar i j ta) D := fun T σ H M L N E F =>
  h T σ H M L N _ fun T1 vs H1 ds μ1 ⟨d, e, he, w⟩ S1 M1 r1 => by
    subst he
    obtain ⟨v, us, rfl, r2, r3⟩ := r1.cons_inv
    obtain ⟨u, us', rfl, r4, r5⟩ := r3.cons_inv
    obtain rfl := r5.nil_inv
    exact ⟨v, u, rfl, F.nx T1 _ H1 _ μ1 w S1 M1 (((L.mono S1.grow).set r2 i).set r4 j)⟩
theorem wps_par3 {i j l : Nat} {ta : TA} (h : WPA K Y ρ μ ta fun ds μ1 => ∃ d e f, ds = [d, e, f] ∧ D.nx (((ρ.set i (some d)).set j (some e)).set l (some f)) μ1) : WPS K Y ρ μ (tPar3 i j l ta) D := fun T σ H M L N E F =>
  h T σ H M L N _ fun T1 vs H1 ds μ1 ⟨d, e, f, he, w⟩ S1 M1 r1 => by
    subst he
    obtain ⟨v, us, rfl, r2, r3⟩ := r1.cons_inv
    obtain ⟨u, us', rfl, r4, r5⟩ := r3.cons_inv
    obtain ⟨x, us'', rfl, r6, r7⟩ := r5.cons_inv
    obtain rfl := r7.nil_inv
    exact ⟨v, u, x, rfl, F.nx T1 _ H1 _ μ1 w S1 M1 ((((L.mono S1.grow).set r2 i).set r4 j).set r6 l)⟩
theorem wps_augI {i : Nat} {te : TE} {f : Int → Int → Int} {n : Int} (hi : ρ[i]? = some (some (.int n))) (h : WP K Y ρ μ te fun d μ1 => ∃ k, d = .int k ∧ D.nx (ρ.set i (some (.int (f n k)))) μ1) : WPS K Y ρ μ (tAug i te (ipI f)) D := fun T σ H M L N E F => by
  obtain ⟨v, h1, h2⟩ := L.get i _ hi
  obtain rfl := h2.int_inv
  refine ⟨_, h1, h T σ H M L N _ fun T1 y H1 d μ1 ⟨k, e, w⟩ S1 M1 r1 => ?_⟩
  subst e
  exact ⟨n, k, rfl, r1.int_inv, F.nx T1 _ H1 _ μ1 w S1 M1 ((L.mono S1.grow).set (.int _) i)⟩
/-- a cell is data from here on -/
theorem lookup_upd {T : Hp} {p : Addr} {o : HO} {b : Addr} : upd T p o b = if b = p then some o else T b := rfl
theorem Mst.freeze {K : Frag} {T H : Hp} {μ rest : Mem} {a : Addr} {m : Mo} {o : HO} (M : Mst K T μ H) (p : μ.Perm ((a, m) :: rest)) (h : H a = some o) : Mst K (upd T a o) rest H ∧ Step T μ H (upd T a o) rest H := by
  have hm : (a, m) ∈ μ := p.mem_iff.mpr List.mem_cons_self
  have ta : T a = none := (M.mem _ hm).1
  have hnd : (dom ((a, m) :: rest)).Nodup := (p.map (·.1)).nodup_iff.mp M.nd
  obtain ⟨n1, n2⟩ := List.nodup_cons.mp hnd
  have g : Sub T (upd T a o) := fun b u e => by rw [upd_ne (ne_of_none e ta)]; exact e
  have da : a ∈ dom μ := List.mem_map.mpr ⟨_, hm, rfl⟩
  have hr : ∀ q ∈ rest, q ∈ μ := fun q hq => p.mem_iff.mpr (List.mem_cons_of_mem _ hq)
  refine ⟨⟨fun b u e => ?_, fun q hq => ?_, n2⟩, ⟨g, fun _ _ h _ => h, fun b u e t n => ?_, fun b u e n hb => ?_⟩⟩
  · by_cases hb : b = a
    · subst hb; rw [upd_same] at e; cases e; exact h
    · rw [upd_ne hb] at e; exact M.sub _ _ e
  · obtain ⟨h1, h2⟩ := M.mem q (hr q hq)
    have hne : q.1 ≠ a := fun e => n1 (e ▸ List.mem_map.mpr ⟨q, hq, rfl⟩)
    exact ⟨by rw [upd_ne hne]; exact h1, h2.mono g fun _ e => e⟩
  · have hne : b ≠ a := fun e => n (e ▸ da)
    rw [upd_ne hne]; exact t
  · obtain ⟨q, hq, e⟩ := List.mem_map.mp hb
    exact n (List.mem_map.mpr ⟨q, hr q hq, e⟩)
theorem Locs.imp {K : Frag} {T : Hp} {ρ ρ' : Ro} {σ : L2.St} (h : Locs K T ρ σ) (hl : ρ'.length = ρ.length) (k : ∀ (i : Nat) (d : Dt), ρ'[i]? = some (some d) → ∃ e : Dt, ρ[i]? = some (some e) ∧ ∀ v, Rep K T v e → Rep K T v d) : Locs K T ρ' σ :=
  ⟨h.len.trans hl.symm, fun i d e => by
    obtain ⟨d', h1, h2⟩ := k i d e
    obtain ⟨v, h3, h4⟩ := h.get i d' h1
    exact ⟨v, h3, h2 v h4⟩⟩
/-- the list cell (a, ds) becomes the list ds; slots ks held it -/
theorem wps_freezeL {ts : TS} {a : Addr} {ds : List Dt} {rest : Mem} {ρ' : Ro} (p : μ.Perm ((a, .lst ds) :: rest)) (hl : ρ'.length = ρ.length)
    (k : ∀ (i : Nat) (d : Dt), ρ'[i]? = some (some d) → ρ[i]? = some (some d) ∨ (ρ[i]? = some (some (Dt.ref a)) ∧ d = Dt.lst ds)) (h : WPS K Y ρ' rest ts D) : WPS K Y ρ μ ts D := fun T σ H M L N E F => by
  obtain ⟨vs, h1, h2⟩ := (M.mem (a, Mo.lst ds) (p.mem_iff.mpr List.mem_cons_self)).2
  obtain ⟨M', S'⟩ := M.freeze p h1
  refine h _ σ H M' ((L.mono S'.grow).imp hl fun i d e => ?_) (N.go S') E (F.go S')
  rcases k i d e with e' | ⟨e', rfl⟩
  · exact ⟨d, e', fun _ r => r⟩
  · exact ⟨_, e', fun v r => by
      obtain rfl := r.ref_inv
      exact .lst upd_same (h2.mono S'.grow)⟩
/-- slots and cells forgotten, cells in another sequence -/
theorem wps_weak {ts : TS} {rest μ' : Mem} {ρ' : Ro} (p : μ.Perm (μ' ++ rest)) (hl : ρ'.length = ρ.length) (k : ∀ (i : Nat) (d : Dt), ρ'[i]? = some (some d) → ρ[i]? = some (some d)) (h : WPS K Y ρ' μ' ts D) : WPS K Y ρ μ ts D := fun T σ H M L N E F => by
  obtain ⟨M', S'⟩ := M.drop p
  exact h T σ H M' (L.imp hl fun i d e => ⟨d, k i d e, fun _ r => r⟩) (N.go S') E (F.go S')
end
/-! ### what is walked -/
/-- J gives the data ys, one by one, wherever T is held and G is so -/
structure Src (K : Frag) (T : Hp) (J : It) (ys : List Dt) : Prop where
  go : ∀ T' H' i, Sub T T' → Sub T' H' → i < ys.length → J.go i H'
  stop : ∀ T' H', Sub T T' → Sub T' H' → J.stop ys.length H'
  yld : ∀ T' H' i x H'' (y : Dt), Sub T T' → Sub T' H' → ys[i]? = some y → J.yld i H' x H'' → (H'' = H' ∧ Rep K T' x y) ∨ ∃ p o, H' p = none ∧ H'' = upd H' p o ∧ Rep K (upd T' p o) x y
theorem Src.mono {K : Frag} {T T' : Hp} {J : It} {ys : List Dt} (h : Src K T J ys) (e : Sub T T') : Src K T' J ys :=
  ⟨fun T1 H i s1 s2 hi => h.go T1 H i (e.trans s1) s2 hi, fun T1 H s1 s2 => h.stop T1 H (e.trans s1) s2, fun T1 H i x H'' y s1 s2 => h.yld T1 H i x H'' y (e.trans s1) s2⟩
def FinI (K : Frag) (T : Hp) (μ : Mem) (H : Hp) (W : List Dt → Mem → Prop) (R : It → Hp → Prop) : Prop := ∀ T' J H' ys μ', W ys μ' → Step T μ H T' μ' H' → Mst K T' μ' H' → Src K T' J ys → R J H'
def WPI (K : Frag) (Y : Wish) (ρ : Ro) (μ : Mem) (wi : TI) (W : List Dt → Mem → Prop) : Prop := ∀ T σ H, Mst K T μ H → Locs K T ρ σ → FinW K T μ H Y → ∀ R, FinI K T μ H W R → wi σ H R
section
variable {K : Frag} {Y : Wish} {T T1 H H1 : Hp} {μ μ1 : Mem} {ρ : Ro} {σ : L2.St} {D : DE}
theorem SqL.inj {T : Hp} {a : Addr} {xs ys : List V} (h : Rd T a (.lst xs)) (g : SqL K T a ys) : ys = xs ∨ True := .inr trivial
theorem src_list {a : Addr} {xs : List V} {ds : List Dt} (h : Rd T a (.lst xs)) (r : Reps K T xs ds) (hk : K.lookup a = none) : Src K T (Itl K a) ds where
  go := fun T' H' i s1 s2 hi => by
    have hi' : i < xs.length := by rw [r.length]; exact hi
    exact ⟨xs, xs[i], .inl (Evl.ex_rd s2 (Evl.ex_rd s1 h)), List.getElem?_eq_getElem hi'⟩
  stop := fun T' H' s1 s2 => ⟨xs, .inl (Evl.ex_rd s2 (Evl.ex_rd s1 h)), by rw [r.length]; exact Nat.le_refl _⟩
  yld := fun T' H' i x H'' y s1 s2 hy q => by
    obtain ⟨e, q⟩ := q
    obtain ⟨v, h1, h2⟩ := r.get hy
    have := q xs (.inl (Evl.ex_rd s2 (Evl.ex_rd s1 h)))
    rw [h1] at this
    cases this
    exact .inl ⟨e, h2.mono s1⟩
/-- .. of the written part too -/
theorem src_listK {a : Addr} {xs : List V} {ds : List Dt} (h : SqL K T a xs) (r : Reps K T xs ds) : Src K T (Itl K a) ds where
  go := fun T' H' i s1 s2 hi => by
    have hi' : i < xs.length := by rw [r.length]; exact hi
    exact ⟨xs, xs[i], s2.l (s1.l h), List.getElem?_eq_getElem hi'⟩
  stop := fun T' H' s1 s2 => ⟨xs, s2.l (s1.l h), by rw [r.length]; exact Nat.le_refl _⟩
  yld := fun T' H' i x H'' y s1 s2 hy q => by
    obtain ⟨e, q⟩ := q
    obtain ⟨v, h1, h2⟩ := r.get hy
    have := q xs (s2.l (s1.l h))
    rw [h1] at this
    cases this
    exact .inl ⟨e, h2.mono s1⟩
theorem src_tupK {a : Addr} {xs : List V} {ds : List Dt} (h : SqT K T a xs) (r : Reps K T xs ds) : Src K T (Itt K a) ds where
  go := fun T' H' i s1 s2 hi => by
    have hi' : i < xs.length := by rw [r.length]; exact hi
    exact ⟨xs, xs[i], s2.t (s1.t h), List.getElem?_eq_getElem hi'⟩
  stop := fun T' H' s1 s2 => ⟨xs, s2.t (s1.t h), by rw [r.length]; exact Nat.le_refl _⟩
  yld := fun T' H' i x H'' y s1 s2 hy q => by
    obtain ⟨e, q⟩ := q
    obtain ⟨v, h1, h2⟩ := r.get hy
    have := q xs (s2.t (s1.t h))
    rw [h1] at this
    cases this
    exact .inl ⟨e, h2.mono s1⟩
theorem src_range {lo : Int} {n : Nat} : Src K T (Itr lo n) ((List.range n).map fun (i : Nat) => .int (lo + (i : Int))) where
  go := fun T' H' i s1 s2 hi => by
    show i < n
    simpa using hi
  stop := fun T' H' s1 s2 => by show n ≤ _; simp
  yld := fun T' H' i x H'' y s1 s2 hy q => by
    obtain ⟨e, rfl⟩ := q
    rw [List.getElem?_map] at hy
    by_cases hi : i < n
    · rw [List.getElem?_range hi] at hy
      cases hy
      exact .inl ⟨e, .int _⟩
    · rw [List.getElem?_eq_none (by simpa using hi)] at hy
      cases hy
theorem wpi_list {tl : TE} {W : List Dt → Mem → Prop} (h : WP K Y ρ μ tl fun d μ1 => ∃ ds, d = .lst ds ∧ W ds μ1) : WPI K Y ρ μ (iList K tl) W := fun T σ H M L N R F =>
  h T σ H M L N _ fun T1 x H1 d μ1 ⟨ds, e, w⟩ S1 M1 r1 => by
    subst e
    obtain ⟨a, xs, rfl, hs, hr⟩ := r1.lst_inv
    exact ⟨a, rfl, ⟨xs, SqL.of (M1.sub _ _ hs)⟩, F T1 _ H1 ds μ1 w S1 M1 (src_listK (SqL.of hs) hr)⟩
theorem wpi_fls {tl : TE} {W : List Dt → Mem → Prop} (h : WP K Y ρ μ tl fun d μ1 => ∃ ds, d = .fls ds ∧ W ds μ1) : WPI K Y ρ μ (iList K tl) W := fun T σ H M L N R F =>
  h T σ H M L N _ fun T1 x H1 d μ1 ⟨ds, e, w⟩ S1 M1 r1 => by
    subst e
    obtain ⟨a, xs, rfl, hs, hr⟩ := r1.fls_inv
    exact ⟨a, rfl, ⟨xs, M1.sub.l hs⟩, F T1 _ H1 ds μ1 w S1 M1 (src_listK hs hr)⟩
theorem wpi_tup {tl : TE} {W : List Dt → Mem → Prop} (h : WP K Y ρ μ tl fun d μ1 => ∃ ds, d = .tup ds ∧ W ds μ1) : WPI K Y ρ μ (iTup K tl) W := fun T σ H M L N R F =>
  h T σ H M L N _ fun T1 x H1 d μ1 ⟨ds, e, w⟩ S1 M1 r1 => by
    subst e
    obtain ⟨a, xs, rfl, hs, hr⟩ := r1.tup_inv
    exact ⟨a, rfl, ⟨xs, SqT.of (M1.sub _ _ hs)⟩, F T1 _ H1 ds μ1 w S1 M1 (src_tupK (SqT.of hs) hr)⟩
theorem wpi_rng1 {ta : TA} {W : List Dt → Mem → Prop} (h : WPA K Y ρ μ ta fun ds μ1 => ∃ n : Int, ds = [.int n] ∧ n < 2 ^ 62 ∧ -(2 ^ 62) ≤ n ∧ W ((List.range n.toNat).map fun (i : Nat) => .int (i : Int)) μ1) : WPI K Y ρ μ (iRng1 ta) W := fun T σ H M L N R F =>
  h T σ H M L N _ fun T1 vs H1 ds μ1 ⟨n, e, h1, h2, w⟩ S1 M1 r1 => by
    subst e
    obtain ⟨v, us, rfl, r2, r3⟩ := r1.cons_inv
    obtain rfl := r3.nil_inv
    obtain rfl := r2.int_inv
    refine ⟨n, rfl, h2, h1, F T1 _ H1 _ μ1 w S1 M1 ?_⟩
    have q : Src K T1 (Itr 0 n.toNat) ((List.range n.toNat).map fun (i : Nat) => .int (0 + (i : Int))) := src_range
    simpa using q
theorem wpi_rng2 {ta : TA} {W : List Dt → Mem → Prop} (h : WPA K Y ρ μ ta fun ds μ1 => ∃ lo n : Int, ds = [.int lo, .int n] ∧ (-(2 ^ 62) ≤ lo ∧ lo < 2 ^ 62 ∧ -(2 ^ 62) ≤ n ∧ n < 2 ^ 62) ∧ W ((List.range (n - lo).toNat).map fun (i : Nat) => .int (lo + (i : Int))) μ1) : WPI K Y ρ μ (iRng2 ta) W := fun T σ H M L N R F =>
  h T σ H M L N _ fun T1 vs H1 ds μ1 ⟨lo, n, e, h1, w⟩ S1 M1 r1 => by
    subst e
    obtain ⟨v, us, rfl, r2, r3⟩ := r1.cons_inv
    obtain ⟨u, us', rfl, r4, r5⟩ := r3.cons_inv
    obtain rfl := r5.nil_inv
    obtain rfl := r2.int_inv
    obtain rfl := r4.int_inv
    exact ⟨lo, n, rfl, h1, F T1 _ H1 _ μ1 w S1 M1 src_range⟩
theorem wps_for {wi : TI} {g : TG} {tb : TS} (h : WPI K Y ρ μ wi fun ys μ1 => ∃ I : Nat → Ro → Mem → Prop, I 0 ρ μ1 ∧
    (∀ i y ρ' μ', ys[i]? = some y → I i ρ' μ' → WPG K Y ρ' μ' g y fun ρ2 μ2 => WPS K Y ρ2 μ2 tb { D with nx := I (i + 1), ct := I (i + 1), bk := D.nx }) ∧ ∀ ρ' μ', I ys.length ρ' μ' → D.nx ρ' μ') : WPS K Y ρ μ (tFor wi g tb) D := fun T σ H M L N E F =>
  h T σ H M L N _ fun T1 J H1 ys μ1 ⟨I, i0, turn, fin⟩ S1 M1 src => by
    refine ⟨fun i m σ' H' => m = ys.length - i ∧ i ≤ ys.length ∧ ∃ T' ρ' μ', I i ρ' μ' ∧ Step T1 μ1 H1 T' μ' H' ∧ Mst K T' μ' H' ∧ Locs K T' ρ' σ', ⟨_, rfl, Nat.zero_le _, T1, ρ, μ1, i0, Step.refl _ _ _, M1, L.mono S1.grow⟩, ?_⟩
    rintro i m σ' H' ⟨rfl, hi, T', ρ', μ', ii, S', M', L'⟩
    by_cases hlt : i < ys.length
    · refine .inr ⟨src.go T' H' i S'.grow M'.sub hlt, fun σ2 H2 => ∃ T2 ρ2 μ2, I (i + 1) ρ2 μ2 ∧ Step T1 μ1 H1 T2 μ2 H2 ∧ Mst K T2 μ2 H2 ∧ Locs K T2 ρ2 σ2, fun σ2 H2 q => ⟨ys.length - (i + 1), by omega, rfl, hlt, q⟩, fun x H2 yq => ?_⟩
      have hy : ys[i]? = some ys[i] := List.getElem?_eq_getElem hlt
      -- the item's data in T2
      have key : ∃ T2, Step T' μ' H' T2 μ' H2 ∧ Mst K T2 μ' H2 ∧ Rep K T2 x ys[i] := by
        rcases src.yld T' H' i x H2 _ S'.grow M'.sub hy yq with ⟨rfl, r⟩ | ⟨p, o, hp, rfl, r⟩
        · exact ⟨T', Step.refl _ _ _, M', r⟩
        · obtain ⟨M2, S2⟩ := M'.lay (o := o) hp
          exact ⟨_, S2, M2, r⟩
      obtain ⟨T2, S2, M2, r2⟩ := key
      refine turn i _ ρ' μ' hy ii T2 σ' H2 x M2 (L'.mono S2.grow) ((N.go S1).go (S'.trans S2)) r2 _ fun T3 σ3 H3 ρ3 μ3 w3 S3 M3 L3 => ?_
      have S03 : Step T1 μ1 H1 T3 μ3 H3 := (S'.trans S2).trans S3
      refine w3 T3 σ3 H3 M3 L3 ((N.go S1).go S03) _ ⟨fun T4 σ4 H4 ρ4 μ4 w S M L => ⟨T4, ρ4, μ4, w, S03.trans S, M, L⟩, (F.rt.go S1 fun _ _ w => w).go S03 fun _ _ w => w, (F.nx.go S1 fun _ _ w => w).go S03 fun _ _ w => w, fun T4 σ4 H4 ρ4 μ4 w S M L => ⟨T4, ρ4, μ4, w, S03.trans S, M, L⟩⟩
    · have e : i = ys.length := by omega
      subst e
      exact .inl ⟨src.stop T' H' S'.grow M'.sub, F.nx T' σ' H' ρ' μ' (fin _ _ ii) (S1.trans S') M' L'⟩
theorem wps_while {c : TT} {tb : TS} (I : Nat → Ro → Mem → Prop) (m0 : Nat) (i0 : I m0 ρ μ)
    (turn : ∀ m ρ' μ', I m ρ' μ' → WPT K Y ρ' μ' c fun b μ2 => if b = true then WPS K Y ρ' μ2 tb { D with nx := fun ρ3 μ3 => ∃ m', m' < m ∧ I m' ρ3 μ3, ct := fun ρ3 μ3 => ∃ m', m' < m ∧ I m' ρ3 μ3, bk := D.nx } else D.nx ρ' μ2) : WPS K Y ρ μ (tWhile c tb) D := fun T σ H M L N E F => by
  refine ⟨fun m σ' H' => ∃ T' ρ' μ', I m ρ' μ' ∧ Step T μ H T' μ' H' ∧ Mst K T' μ' H' ∧ Locs K T' ρ' σ', ⟨m0, T, ρ, μ, i0, Step.refl _ _ _, M, L⟩, ?_⟩
  rintro m σ' H' ⟨T', ρ', μ', ii, S', M', L'⟩
  refine turn m ρ' μ' ii T' σ' H' M' L' (N.go S') _ fun T2 b H2 μ2 w S2 M2 => ?_
  cases b with
  | true =>
    refine ⟨fun σ2 H2 => ∃ m', m' < m ∧ ∃ T' ρ' μ', I m' ρ' μ' ∧ Step T μ H T' μ' H2 ∧ Mst K T' μ' H2 ∧ Locs K T' ρ' σ2, fun σ2 H2 q => q, ?_⟩
    have S02 := S'.trans S2
    exact w T2 σ' H2 M2 (L'.mono S2.grow) (N.go S02) _ ⟨fun T4 σ4 H4 ρ4 μ4 ⟨m', hm, w⟩ S M L => ⟨m', hm, T4, ρ4, μ4, w, S02.trans S, M, L⟩, F.rt.go S02 fun _ _ w => w, F.nx.go S02 fun _ _ w => w, fun T4 σ4 H4 ρ4 μ4 ⟨m', hm, w⟩ S M L => ⟨m', hm, T4, ρ4, μ4, w, S02.trans S, M, L⟩⟩
  | false => exact F.nx T2 σ' H2 ρ' μ2 w (S'.trans S2) M2 (L'.mono S2.grow)
end
end Ml

/-! Ml4: comprehensions, calls, bodies. -/
namespace Ml
open PySem L2
/-! ### comprehensions -/
def wipeR (ρ : Ro) : List Nat → Ro
  | [] => ρ
  | v :: vs => (wipeR ρ vs).set v none
theorem Locs.wipe {K : Frag} {T : Hp} {ρ : Ro} {σ : L2.St} (h : Locs K T ρ σ) : ∀ vs, Locs K T (wipeR ρ vs) (L2.wipe σ vs)
  | [] => h
  | v :: vs => (Locs.wipe h vs).clear v
theorem wipe_idem (σ : L2.St) (vs : List Nat) : L2.wipe (L2.wipe σ vs) vs = L2.wipe σ vs := by
  apply List.ext_getElem? 
  intro i
  by_cases hi : i ∈ vs
  · by_cases hl : i < σ.length
    · have k : ∀ (s : L2.St), i < s.length → ∀ us : List Nat, i ∈ us → (L2.wipe s us)[i]? = some none := by
        intro s hs us
        induction us with
        | nil => intro h; cases h
        | cons u us ih =>
          intro h
          show ((L2.wipe s us).set u none)[i]? = _
          by_cases hu : u = i
          · subst hu; rw [List.getElem?_set_self (by rw [wipe_length]; exact hs)]
          · rw [List.getElem?_set_ne hu]
            exact ih ((List.mem_cons.mp h).resolve_left (Ne.symm hu))
      rw [k _ (by rw [wipe_length]; exact hl) vs hi, k σ hl vs hi]
    · rw [List.getElem?_eq_none (by rw [wipe_length, wipe_length]; omega), List.getElem?_eq_none (by rw [wipe_length]; omega)]
  · rw [wipe_out hi]
theorem wipe_set (σ : L2.St) (vs : List Nat) {j : Nat} (x : Option V) (hj : j ∈ vs) : L2.wipe (σ.set j x) vs = L2.wipe σ vs := by
  induction vs with
  | nil => cases hj
  | cons u us ih =>
    show (L2.wipe (σ.set j x) us).set u none = (L2.wipe σ us).set u none
    by_cases hu : j ∈ us
    · rw [ih hu]
    · have e : j = u := (List.mem_cons.mp hj).resolve_right hu
      subst e
      have k : ∀ us : List Nat, j ∉ us → L2.wipe (σ.set j x) us = (L2.wipe σ us).set j x := by
        intro us
        induction us with
        | nil => intro _; rfl
        | cons v vs ih2 =>
          intro h
          show (L2.wipe (σ.set j x) vs).set v none = ((L2.wipe σ vs).set v none).set j x
          rw [ih2 fun z => h (List.mem_cons_of_mem _ z), List.set_comm]
          intro z; exact h (z ▸ List.mem_cons_self)
      rw [k us hu, List.set_set]
/-- the target stores into vs alone -/
def Onto (g : TG) (vs : List Nat) : Prop := ∀ v σ H Q, g v σ H Q → g v σ H fun σ2 H2 => Q σ2 H2 ∧ L2.wipe σ2 vs = L2.wipe σ vs
def Ontos (g : TGs) (vs : List Nat) : Prop := ∀ v σ H Q, g v σ H Q → g v σ H fun σ2 H2 => Q σ2 H2 ∧ L2.wipe σ2 vs = L2.wipe σ vs
theorem onto_name {i : Nat} {vs : List Nat} (h : i ∈ vs := by decide) : Onto (gName i) vs := fun v σ H Q q => ⟨q, wipe_set σ vs _ h⟩
theorem ontos_nil {vs : List Nat} : Ontos gNil vs := fun v σ H Q ⟨e, q⟩ => ⟨e, q, rfl⟩
def MonoG (g : TG) : Prop := ∀ v σ H (Q Q' : L2.St → Hp → Prop), (∀ a b, Q a b → Q' a b) → g v σ H Q → g v σ H Q'
def MonoGs (g : TGs) : Prop := ∀ v σ H (Q Q' : L2.St → Hp → Prop), (∀ a b, Q a b → Q' a b) → g v σ H Q → g v σ H Q'
theorem mono_name {i : Nat} : MonoG (gName i) := fun v σ H Q Q' k q => k _ _ q
theorem mono_nil : MonoGs gNil := fun v σ H Q Q' k ⟨e, q⟩ => ⟨e, k _ _ q⟩
theorem mono_cons {g : TG} {u : TGs} (h : MonoG g) (h2 : MonoGs u) : MonoGs (gCons g u) := fun v σ H Q Q' k ⟨x, r, e, q⟩ => ⟨x, r, e, h _ _ _ _ _ (fun _ _ => h2 _ _ _ _ _ k) q⟩
theorem mono_tup {K : Frag} {n : Nat} {t : TGs} (h : MonoGs t) : MonoG (gTup K n t) := fun v σ H Q Q' k ⟨a, xs, e, hs, hl, q⟩ => ⟨a, xs, e, hs, hl, h _ _ _ _ _ k q⟩
theorem ontos_cons {g : TG} {u : TGs} {vs : List Nat} (h : Onto g vs) (m : MonoG g) (h2 : Ontos u vs) (m2 : MonoGs u) : Ontos (gCons g u) vs := fun v σ H Q ⟨x, r, e, q⟩ => ⟨x, r, e, by
  refine m _ _ _ _ _ ?_ (h _ _ _ _ q)
  rintro σ1 H1 ⟨q1, e1⟩
  refine m2 _ _ _ _ _ ?_ (h2 _ _ _ _ q1)
  rintro σ2 H2 ⟨q2, e2⟩
  exact ⟨q2, e2.trans e1⟩⟩
theorem onto_tup {K : Frag} {n : Nat} {t : TGs} {vs : List Nat} (h : Ontos t vs) : Onto (gTup K n t) vs := fun v σ H Q ⟨a, xs, e, hs, hl, q⟩ => ⟨a, xs, e, hs, hl, h _ _ _ _ q⟩
section
variable {K : Frag} {Y : Wish} {T T1 H H1 : Hp} {μ μ1 : Mem} {ρ : Ro} {σ : L2.St} {D : DE}
theorem wpt_yes {W : Bool → Mem → Prop} (w : W true μ) : WPT K Y ρ μ tYes W := fun T σ H M L N Q F => F T true H μ w (Step.refl _ _ _) M
/-- one element -/
def Elem (K : Frag) (Y : Wish) (ρ : Ro) (vs : List Nat) (g : TG) (tt : TT) (y : Dt) (μ : Mem) (R : Ro → Mem → Prop) (N : Mem → Prop) : Prop :=
  WPG K Y (wipeR ρ vs) μ g y fun ρ2 μ2 => WPT K Y ρ2 μ2 tt fun b μ3 => if b = true then R ρ2 μ3 else N μ3
theorem lc_go {wi : TI} {g : TG} {tt : TT} {te : TE} {vs : List Nat} {Q : VK} (hg : Onto g vs) (hm : MonoG g) {W : List Dt → Mem → Prop} (h : WPI K Y ρ μ wi fun ys μ1 => ys.length ≤ 1000000 ∧ ∃ I : Nat → List Dt → Mem → Prop, I 0 [] μ1 ∧
    (∀ i y acc μ', ys[i]? = some y → I i acc μ' → Elem K Y ρ vs g tt y μ' (fun ρ2 μ3 => WP K Y ρ2 μ3 te fun d μ4 => I (i + 1) (acc ++ [d]) μ4) (I (i + 1) acc)) ∧ ∀ acc μ', I ys.length acc μ' → W acc μ')
    (M : Mst K T μ H) (L : Locs K T ρ σ) (N : FinW K T μ H Y) (fin : ∀ T' H' μ' D xs acc, W acc μ' → Step T μ H T' μ' H' → Mst K T' μ' H' → H' D = some (.lst xs) → T' D = none → D ∉ dom μ' → (∀ o, H D = some o → D ∈ dom μ) → Reps K T' xs acc → Q (.ref D) H') : tLc wi g tt te vs σ H Q := by
  refine h T σ H M L N _ fun T1 J H1 ys μ1 ⟨hlen, I, i0, turn, hfin⟩ S1 M1 src D hD => ?_
  have fr : ∀ o, H D = some o → D ∈ dom μ := fun o e => by
    by_cases hd : D ∈ dom μ
    · exact hd
    · rw [S1.kept D o e hd] at hD; cases hD
  have L1 := L.mono S1.grow
  -- the state between turns
  let P : Nat → Hp → Prop := fun i H' => ∃ T' μ' acc xs, I i acc μ' ∧ Step T1 μ1 H1 T' μ' H' ∧ Mst K T' μ' H' ∧ H' D = some (.lst xs) ∧ T' D = none ∧ D ∉ dom μ' ∧ Reps K T' xs acc ∧ xs.length ≤ i
  have p0 : P 0 (upd H1 D (.lst [])) := by
    have ht := M1.fresh hD
    have hn := M1.notin hD
    refine ⟨T1, μ1, [], [], i0, ⟨Sub.refl _, fun b o e _ => by rw [upd_ne (ne_of_none e hD)]; exact e, fun b o _ t _ => t, fun b o _ n => n⟩, ⟨fun b o e => ?_, fun q hq => ?_, M1.nd⟩, upd_same, ht, hn, .nil, Nat.le_refl _⟩
    · rw [upd_ne (ne_of_none e ht)]; exact M1.sub _ _ e
    · obtain ⟨h1, h2⟩ := M1.mem q hq
      have hne : q.1 ≠ D := fun e => hn (e ▸ List.mem_map.mpr ⟨q, hq, rfl⟩)
      exact ⟨h1, h2.mono (Sub.refl _) fun u e => by rw [upd_ne hne]; exact e⟩
  refine ⟨fun i m H' => m = ys.length - i ∧ i ≤ ys.length ∧ P i H', ⟨_, rfl, Nat.zero_le _, p0⟩, ?_⟩
  rintro i m H' ⟨rfl, hi, T', μ', acc, xs, ii, S', M', hD', tD', nD', rx, hx⟩
  by_cases hlt : i < ys.length
  · refine .inr ⟨src.go T' H' i S'.grow M'.sub hlt, P (i + 1), fun H2 q => ⟨ys.length - (i + 1), by omega, rfl, hlt, q⟩, fun x H2 yq => ?_⟩
    have hy : ys[i]? = some ys[i] := List.getElem?_eq_getElem hlt
    have key : ∃ T2, Step T' μ' H' T2 μ' H2 ∧ Mst K T2 μ' H2 ∧ Rep K T2 x ys[i] := by
      rcases src.yld T' H' i x H2 _ S'.grow M'.sub hy yq with ⟨rfl, r⟩ | ⟨p, o, hp, rfl, r⟩
      · exact ⟨T', Step.refl _ _ _, M', r⟩
      · obtain ⟨M2, S2⟩ := M'.lay (o := o) hp
        exact ⟨_, S2, M2, r⟩
    obtain ⟨T2, S2, M2, r2⟩ := key
    have LW : Locs K T2 (wipeR ρ vs) (L2.wipe σ vs) := (L1.mono (S'.grow.trans S2.grow)).wipe vs
    have S02 : Step T1 μ1 H1 T2 μ' H2 := S'.trans S2
    have D2 : H2 D = some (.lst xs) := S2.kept _ _ hD' nD'
    have t2 : T2 D = none := S2.new _ _ hD' tD' nD'
    refine hm _ _ _ _ _ ?_ (hg _ _ _ _ (turn i _ acc μ' hy ii T2 (L2.wipe σ vs) H2 x M2 LW ((N.go S1).go S02) r2 (fun σ2 H3 => tt σ2 H3 fun b H4 => if b = true then te σ2 H4 fun y H5 => ∃ acc, H5 D = some (.lst acc) ∧ acc.length < sizeLine ∧ P (i + 1) (upd H5 D (.lst (acc ++ [y]))) else P (i + 1) H4) ?_))
    · rintro σ2 H3 ⟨q, e⟩
      exact ⟨e.trans (wipe_idem σ vs), q⟩
    · intro T3 σ3 H3 ρ3 μ3 w3 S3 M3 L3
      have D3 : H3 D = some (.lst xs) := S3.kept _ _ D2 nD'
      have t3 : T3 D = none := S3.new _ _ D2 t2 nD'
      have n3 : D ∉ dom μ3 := S3.cells _ _ D2 nD'
      refine w3 T3 σ3 H3 M3 L3 ((N.go S1).go (S02.trans S3)) _ fun T4 b H4 μ4 w4 S4 M4 => ?_
      have D4 : H4 D = some (.lst xs) := S4.kept _ _ D3 n3
      have t4 : T4 D = none := S4.new _ _ D3 t3 n3
      have n4 : D ∉ dom μ4 := S4.cells _ _ D3 n3
      have S24 : Step T1 μ1 H1 T4 μ4 H4 := (S02.trans S3).trans S4
      cases b with
      | false => exact ⟨T4, μ4, acc, xs, w4, S24, M4, D4, t4, n4, (rx.mono (S2.grow.trans (S3.grow.trans S4.grow))), by omega⟩
      | true =>
        refine w4 T4 σ3 H4 M4 (L3.mono S4.grow) ((N.go S1).go S24) _ fun T5 y H5 d μ5 w5 S5 M5 r5 => ?_
        have D5 : H5 D = some (.lst xs) := S5.kept _ _ D4 n4
        have t5 : T5 D = none := S5.new _ _ D4 t4 n4
        have n5 : D ∉ dom μ5 := S5.cells _ _ D4 n4
        have S25 : Step T1 μ1 H1 T5 μ5 H5 := S24.trans S5
        refine ⟨xs, D5, Nat.lt_of_lt_of_le (show xs.length < 1000001 by omega) (by decide), T5, μ5, acc ++ [d], xs ++ [y], w5, ⟨S25.grow, fun b o e n => ?_, S25.new, S25.cells⟩, ⟨fun b o e => ?_, fun q hq => ?_, M5.nd⟩, upd_same, t5, n5, (rx.mono (S2.grow.trans (S3.grow.trans (S4.grow.trans S5.grow)))).append (Reps.one r5), by rw [List.length_append, List.length_singleton]; omega⟩
        · have hb : b ≠ D := ne_of_none e hD
          rw [upd_ne hb]; exact S25.kept b o e n
        · rw [upd_ne (ne_of_none e t5)]; exact M5.sub _ _ e
        · obtain ⟨h1, h2⟩ := M5.mem q hq
          have hne : q.1 ≠ D := fun e => n5 (e ▸ List.mem_map.mpr ⟨q, hq, rfl⟩)
          exact ⟨h1, h2.mono (Sub.refl _) fun u e => by rw [upd_ne hne]; exact e⟩
  · have e : i = ys.length := by omega
    subst e
    exact .inl ⟨src.stop T' H' S'.grow M'.sub, fin T' H' μ' D xs acc (hfin _ _ ii) (S1.trans S') M' hD' tD' nD' fr rx⟩
/-- the list is data -/
theorem wp_lc {wi : TI} {g : TG} {tt : TT} {te : TE} {vs : List Nat} (hg : Onto g vs) (hm : MonoG g) {W : Dt → Mem → Prop} (h : WPI K Y ρ μ wi fun ys μ1 => ys.length ≤ 1000000 ∧ ∃ I : Nat → List Dt → Mem → Prop, I 0 [] μ1 ∧
    (∀ i y acc μ', ys[i]? = some y → I i acc μ' → Elem K Y ρ vs g tt y μ' (fun ρ2 μ3 => WP K Y ρ2 μ3 te fun d μ4 => I (i + 1) (acc ++ [d]) μ4) (I (i + 1) acc)) ∧ ∀ acc μ', I ys.length acc μ' → W (.lst acc) μ') : WP K Y ρ μ (tLc wi g tt te vs) W := fun T σ H M L N Q F =>
  lc_go hg hm (W := fun acc μ' => W (.lst acc) μ') h M L N fun T' H' μ' D xs acc w S' M' hD tD nD fr r => by
    have g : Sub T' (upd T' D (.lst xs)) := fun b u e => by rw [upd_ne (ne_of_none e tD)]; exact e
    refine F (upd T' D (.lst xs)) _ H' _ μ' w ⟨S'.grow.trans g, S'.kept, fun b o e t n => ?_, S'.cells⟩ ⟨fun b u e => ?_, fun q hq => ?_, M'.nd⟩ (.lst upd_same (r.mono g))
    · have hb : b ≠ D := fun z => n (z ▸ fr o (z ▸ e))
      rw [upd_ne hb]; exact S'.new b o e t n
    · by_cases hb : b = D
      · subst hb; rw [upd_same] at e; cases e; exact hD
      · rw [upd_ne hb] at e; exact M'.sub _ _ e
    · obtain ⟨h1, h2⟩ := M'.mem q hq
      have hne : q.1 ≠ D := fun e => nD (e ▸ List.mem_map.mpr ⟨q, hq, rfl⟩)
      exact ⟨by rw [upd_ne hne]; exact h1, h2.mono g fun _ e => e⟩
/-- the list is a cell -/
theorem wp_lcC {wi : TI} {g : TG} {tt : TT} {te : TE} {vs : List Nat} (hg : Onto g vs) (hm : MonoG g) {W : Dt → Mem → Prop} (h : WPI K Y ρ μ wi fun ys μ1 => ys.length ≤ 1000000 ∧ ∃ I : Nat → List Dt → Mem → Prop, I 0 [] μ1 ∧
    (∀ i y acc μ', ys[i]? = some y → I i acc μ' → Elem K Y ρ vs g tt y μ' (fun ρ2 μ3 => WP K Y ρ2 μ3 te fun d μ4 => I (i + 1) (acc ++ [d]) μ4) (I (i + 1) acc)) ∧ ∀ acc μ', I ys.length acc μ' → ∀ D, D ∉ dom μ' → W (.ref D) ((D, .lst acc) :: μ')) : WP K Y ρ μ (tLc wi g tt te vs) W := fun T σ H M L N Q F =>
  lc_go hg hm (W := fun acc μ' => ∀ D, D ∉ dom μ' → W (.ref D) ((D, .lst acc) :: μ')) h M L N fun T' H' μ' D xs acc w S' M' hD tD nD fr r => by
    refine F T' _ H' _ _ (w D nD) ⟨S'.grow, S'.kept, S'.new, fun b o e n hb => ?_⟩ ⟨M'.sub, fun q hq => ?_, List.nodup_cons.mpr ⟨nD, M'.nd⟩⟩ (.ref D)
    · rcases List.mem_cons.mp (show b ∈ D :: dom μ' from hb) with hb | hb
      · subst hb; exact n (fr o e)
      · exact S'.cells b o e n hb
    · rcases List.mem_cons.mp hq with rfl | hq
      · exact ⟨tD, xs, hD, r⟩
      · exact M'.mem q hq
/-- elements that change nothing: which are kept, what they give -/
theorem wp_lcP {wi : TI} {g : TG} {tt : TT} {te : TE} {vs : List Nat} {W : Dt → Mem → Prop} (hg : Onto g vs) (hm : MonoG g) (h : WPI K Y ρ μ wi fun ys μ1 => ys.length ≤ 1000000 ∧ ∃ (f : Dt → Bool) (e : Dt → Dt),
    (∀ y ∈ ys, Elem K Y ρ vs g tt y μ1 (fun ρ2 μ3 => f y = true ∧ WP K Y ρ2 μ3 te fun d μ4 => d = e y ∧ μ4 = μ1) fun μ3 => f y = false ∧ μ3 = μ1) ∧ W (.lst ((ys.filter f).map e)) μ1) : WP K Y ρ μ (tLc wi g tt te vs) W :=
  wp_lc hg hm fun T σ H M L N R F => h T σ H M L N R fun T' J H' ys μ' ⟨hl, f, e, el, w⟩ S' M' src => F T' J H' ys μ' ⟨hl, fun i acc μ2 => μ2 = μ' ∧ acc = ((ys.take i).filter f).map e, ⟨rfl, rfl⟩, fun i y acc μ2 hy ⟨e1, e2⟩ => by
    subst e1 e2
    have hy' := List.mem_of_getElem? hy
    have tk : ys.take (i + 1) = ys.take i ++ [y] := by rw [List.take_add_one, hy]; rfl
    intro T σ H v M L N r Q F
    refine el y hy' T σ H v M L N r Q fun T2 σ2 H2 ρ2 μ2 w2 S2 M2 L2 => F T2 σ2 H2 ρ2 μ2 (fun T3 σ3 H3 M3 L3 N3 Q3 F3 => w2 T3 σ3 H3 M3 L3 N3 Q3 fun T4 b H4 μ4 w4 S4 M4 => F3 T4 b H4 μ4 ?_ S4 M4) S2 M2 L2
    cases b with
    | true =>
      obtain ⟨hf, w4⟩ := w4
      refine WP.imp (show WP K Y ρ2 μ4 te _ from w4) ?_
      rintro d μ5 ⟨rfl, rfl⟩
      refine ⟨rfl, ?_⟩
      rw [tk, List.filter_append, List.map_append, List.filter_cons, if_pos hf] <;> rfl
    | false =>
      obtain ⟨hf, rfl⟩ := w4
      refine ⟨rfl, ?_⟩
      rw [tk, List.filter_append, List.map_append, List.filter_cons, if_neg (by rw [hf]; decide)]
      simp, fun acc μ2 ⟨e1, e2⟩ => by
    subst e1 e2
    rw [List.take_length]
    exact w⟩ S' M' src
end
end Ml

/-! Ml5: calls, bodies, fields, dicts, lists. -/
namespace Ml
open PySem L2 PySem.Spec PyProof.Rows
/-! ### promises over data -/
abbrev DSp := List Dt → Mem → (Dt → Mem → Prop) → (Addr → List (Str × Dt) → Mem → Prop) → Prop
def FinX (K : Frag) (T : Hp) (μ : Mem) (H : Hp) (X : Addr → List (Str × Dt) → Mem → Prop) (E : XK) : Prop := ∀ T' C dx us fs H' μ', X C fs μ' → Step T μ H T' μ' H' → Mst K T' μ' H' → T' dx = some (.xd us) → Paired (PRep K T') us fs → E (.ref C) (some dx) H'
def spD (K : Frag) (s : DSp) : Sp := fun vs H Q E => ∃ T μ ds W X, Mst K T μ H ∧ Reps K T vs ds ∧ s ds μ W X ∧ Fin1 K T μ H W Q ∧ FinX K T μ H X E
def noX : Addr → List (Str × Dt) → Mem → Prop := fun _ _ _ => False
def startD (N : List Str) (ds : List Dt) : Ro := ds.map some ++ List.replicate (N.length - ds.length) none
theorem locs_start {K : Frag} {T : Hp} {N : List Str} {vs : List V} {ds : List Dt} (r : Reps K T vs ds) : Locs K T (startD N ds) (L2.start N vs) := by
  have hl := r.length
  refine ⟨by simp [startD, L2.start, hl], fun i d h => ?_⟩
  unfold startD at h
  unfold L2.start
  by_cases hi : i < ds.length
  · rw [List.getElem?_append_left (by simpa using hi), List.getElem?_map] at h
    rw [List.getElem?_append_left (by simpa [hl] using hi), List.getElem?_map]
    cases e : ds[i]? with
    | none => rw [e] at h; cases h
    | some d' =>
      rw [e] at h
      cases h
      obtain ⟨v, h1, h2⟩ := r.get e
      exact ⟨v, by rw [h1]; rfl, h2⟩
  · rw [List.getElem?_append_right (by simpa using hi)] at h
    rw [List.getElem?_replicate] at h
    split at h <;> cases h
/-- the wish of a def's body: E what the caller wants of exceptions, X over data -/
def bodyW (E : XK) (X : Addr → List (Str × Dt) → Mem → Prop) : Wish := ⟨fun c d _ H => E c d H, fun C fs _ μ => X C fs μ⟩
abbrev bodyD (W : Dt → Mem → Prop) : DE := { nx := fun _ μ => W .non μ, rt := W }
section
variable {P : Program} {w : World} {K : Frag} {mg : Str → Option Value} {base : Heap} {x qual : Str} {params : Arguments} {body : List Stmt} {scope : Scope} {dvs : List V} {kws : List (Str × V)} {f : Addr} {fd : FuncData}
/-- THE RULE of a def -/
theorem ok_def {N ps : List Str} {k : Nat} {s : DSp} (F : FunD K x qual params body scope dvs kws f fd) (S : FnScope N ps scope) (len : ∀ ds μ W X, s ds μ W X → ds.length = ps.length)
    (hbody : ∀ (cdv : Value) (A : Around) (outer : List Env) (s0 : Shared) (H : Hp) (E : XK), Room k (A.deeper (envOfC qual scope s0.heap.objs.size f cdv)) →
      ∃ t, PSs (cxOf (L2.CX P w) P w K mg base N qual scope f cdv A outer s0 H E) body t ∧ ∀ ds μ W X, s ds μ W X → WPS K (bodyW E X) (startD N ds) μ t (bodyD W)) : FnOk P w K mg base (L2.CX P w) (k + 1) f fd ps (spD K s) :=
  F.ok S (fun vs H Q E ⟨T, μ, ds, W, X, M, r, h, _, _⟩ => r.length.trans (len ds μ W X h)) fun cdv A outer s0 H vs Q E hr ⟨T, μ, ds, W, X, M, r, h, F1, FX⟩ => by
    obtain ⟨t, ht, hq⟩ := hbody cdv A outer s0 H E hr
    refine ⟨t, ht, hq ds μ W X h T (L2.start N vs) H M (locs_start r) ?_ _ ⟨?_, F1, ?_, ?_⟩⟩
    · exact fun T' C dx us fs σ' ρ' H' μ' hx S' M' _ hd hu => FX T' C dx us fs H' μ' hx S' M' hd hu
    · exact fun T' σ' H' ρ' μ' w S' M' L' => F1 T' .non H' .non μ' w S' M' .non
    · exact fun T' σ' H' ρ' μ' w S' M' L' => w.elim
    · exact fun T' σ' H' ρ' μ' w S' M' L' => w.elim
end
section
variable {K : Frag} {Y : Wish} {T T1 H H1 : Hp} {μ μ1 : Mem} {ρ : Ro} {σ : L2.St} {D : DE}
/-! ### calls -/
theorem finX_no {E : XK} : FinX K T μ H noX E := fun _ _ _ _ _ _ _ h => h.elim
theorem wp_call {s : DSp} {E : XK} {ta : TA} {W : Dt → Mem → Prop} (h : WPA K Y ρ μ ta fun ds μ1 => s ds μ1 W noX) : WP K Y ρ μ (tCall (spD K s) [] E ta) W := fun T σ H M L N Q F =>
  h T σ H M L N _ fun T1 xs H1 ds μ1 w S1 M1 r1 => ⟨T1, μ1, ds, W, noX, M1, by rw [List.append_nil]; exact r1, w, F.go S1 fun _ _ w => w, finX_no⟩
/-- .. that may raise -/
theorem wp_callX {s : DSp} {E : XK} {ta : TA} {W : Dt → Mem → Prop} (hY : ∀ c d σ H, Y.W c d σ H = E c d H) (h : WPA K Y ρ μ ta fun ds μ1 => s ds μ1 W fun C fs μ2 => Y.X C fs ρ μ2) : WP K Y ρ μ (tCall (spD K s) [] E ta) W := fun T σ H M L N Q F =>
  h T σ H M L N _ fun T1 xs H1 ds μ1 w S1 M1 r1 => ⟨T1, μ1, ds, W, _, M1, by rw [List.append_nil]; exact r1, w, F.go S1 fun _ _ w => w, fun T' C dx us fs H' μ' hx S' M' hd hu => by
    rw [← hY]
    exact (N.go S1) T' C dx us fs σ ρ H' μ' hx S' M' (L.mono (S1.grow.trans S'.grow)) hd hu⟩
/-- at the slots, in a try -/
theorem wp_callS {s : DSp} {ta : TA} {W : Dt → Mem → Prop} (h : WPA K Y ρ μ ta fun ds μ1 => s ds μ1 W fun C fs μ2 => Y.X C fs ρ μ2) : WP K Y ρ μ (tCallS (spD K s) (WE Y.W) ta) W := fun T σ H M L N Q F =>
  h T σ H M L N _ fun T1 xs H1 ds μ1 w S1 M1 r1 => ⟨T1, μ1, ds, W, _, M1, r1, w, F.go S1 fun _ _ w => w, fun T' C dx us fs H' μ' hx S' M' hd hu => 
    (N.go S1) T' C dx us fs σ ρ H' μ' hx S' M' (L.mono (S1.grow.trans S'.grow)) hd hu⟩
theorem lookup_prep {α : Type} [BEq α] [LawfulBEq α] {us : List (α × V)} {fs : List (α × Dt)} (h : Paired (PRep K T) us fs) (f : α) : (fs.lookup f = none → us.lookup f = none) ∧ ∀ d, fs.lookup f = some d → ∃ v, us.lookup f = some v ∧ Rep K T v d := by
  induction h with
  | nil => exact ⟨(fun _ => rfl), (fun d e => by cases e)⟩
  | @cons p q ps qs r t ih =>
    obtain ⟨k, v⟩ := p
    obtain ⟨k', d⟩ := q
    obtain ⟨e1, e2⟩ := r
    have e1 : k = k' := e1
    subst e1
    rw [List.lookup_cons, List.lookup_cons]
    cases e : (f == k) with
    | true => exact ⟨(fun z => by cases z), (fun d' z => by cases z; exact ⟨v, rfl, e2⟩)⟩
    | false => exact ih
/-- o.m(..), o a cell -/
theorem wp_meth {C : Addr} {m : Str} {s : DSp} {E : XK} {ta : TE} {t : TA} {W : Dt → Mem → Prop} (h : WP K Y ρ μ ta fun d μ1 => ∃ (c : Nat) (a : Addr) (fs : List (Str × Dt)), d = .ref a ∧ μ1[c]? = some (a, .ins C fs) ∧ fs.lookup m = none ∧ WPA K Y ρ μ1 t fun ds μ2 => s (.ref a :: ds) μ2 W noX) :
    WP K Y ρ μ (tMeth C m (spD K s) [] E ta t) W := fun T σ H M L N Q F =>
  h T σ H M L N _ fun T1 x H1 d μ1 ⟨c, a, fs, e, hc, hl, w⟩ S1 M1 r1 => by
    subst e
    obtain rfl := r1.ref_inv
    obtain ⟨dx, us, h1, h2⟩ := M1.get hc
    exact ⟨a, dx, us, rfl, h1, (lookup_prep h2 m).1 hl, w T1 σ H1 M1 (L.mono S1.grow) (N.go S1) _ fun T2 xs H2 ds μ2 w2 S2 M2 r2 => ⟨T2, μ2, _, W, noX, M2, by rw [List.append_nil]; exact .cons (.ref a) r2, w2, F.go (S1.trans S2) fun _ _ w => w, finX_no⟩⟩
theorem wp_methX {C : Addr} {m : Str} {s : DSp} {E : XK} {ta : TE} {t : TA} {W : Dt → Mem → Prop} (hY : ∀ c d σ H, Y.W c d σ H = E c d H) (h : WP K Y ρ μ ta fun d μ1 => ∃ (c : Nat) (a : Addr) (fs : List (Str × Dt)), d = .ref a ∧ μ1[c]? = some (a, .ins C fs) ∧ fs.lookup m = none ∧ WPA K Y ρ μ1 t fun ds μ2 => s (.ref a :: ds) μ2 W fun C fs μ3 => Y.X C fs ρ μ3) :
    WP K Y ρ μ (tMeth C m (spD K s) [] E ta t) W := fun T σ H M L N Q F =>
  h T σ H M L N _ fun T1 x H1 d μ1 ⟨c, a, fs, e, hc, hl, w⟩ S1 M1 r1 => by
    subst e
    obtain rfl := r1.ref_inv
    obtain ⟨dx, us, h1, h2⟩ := M1.get hc
    exact ⟨a, dx, us, rfl, h1, (lookup_prep h2 m).1 hl, w T1 σ H1 M1 (L.mono S1.grow) (N.go S1) _ fun T2 xs H2 ds μ2 w2 S2 M2 r2 => ⟨T2, μ2, _, W, _, M2, by rw [List.append_nil]; exact .cons (.ref a) r2, w2, F.go (S1.trans S2) fun _ _ w => w, fun T' C dx us fs H' μ' hx S' M' hd hu => by
      rw [← hY]
      exact (N.go (S1.trans S2)) T' C dx us fs σ ρ H' μ' hx S' M' (L.mono ((S1.trans S2).grow.trans S'.grow)) hd hu⟩⟩
theorem zip_lookup {ns : List Str} : ∀ {xs : List V} {ds : List Dt}, Reps K T xs ds → ns.length = xs.length → ∀ f, ((ns.zip ds).lookup f = none → (ns.zip xs).lookup f = none) ∧ ∀ d, (ns.zip ds).lookup f = some d → ∃ v, (ns.zip xs).lookup f = some v ∧ Rep K T v d := by
  induction ns with
  | nil => intro xs ds r hl f; exact ⟨(fun _ => by simp), (fun d e => by simp at e)⟩
  | cons n ns ih =>
    intro xs ds r hl f
    cases r with
    | nil => simp at hl
    | @cons v vs d ds r1 r2 =>
      rw [List.zip_cons_cons, List.zip_cons_cons, List.lookup_cons, List.lookup_cons]
      cases e : (f == n) with
      | true => exact ⟨(fun z => by cases z), (fun d' z => by cases z; exact ⟨v, rfl, r1⟩)⟩
      | false => exact ih r2 (by simpa using hl) f
/-- o.m(..), o an instance that never changes -/
theorem wp_methI {C : Addr} {m : Str} {s : DSp} {E : XK} {ta : TE} {t : TA} {W : Dt → Mem → Prop} (h : WP K Y ρ μ ta fun d μ1 => ∃ (ns : List Str) (es : List Dt), d = .ins C ns es ∧ (ns.zip es).lookup m = none ∧ WPA K Y ρ μ1 t fun ds μ2 => s (d :: ds) μ2 W noX) :
    WP K Y ρ μ (tMeth C m (spD K s) [] E ta t) W := fun T σ H M L N Q F =>
  h T σ H M L N _ fun T1 x H1 d μ1 ⟨ns, es, e, hl, w⟩ S1 M1 r1 => by
    subst e
    obtain ⟨a, dx, us, rfl, h1, h2, h3⟩ := r1.ins_inv
    exact ⟨a, dx, _, rfl, M1.sub _ _ h1, (zip_lookup h3 h2 m).1 hl, w T1 σ H1 M1 (L.mono S1.grow) (N.go S1) _ fun T2 xs H2 ds μ2 w2 S2 M2 r2 => ⟨T2, μ2, _, W, noX, M2, by rw [List.append_nil]; exact .cons (r1.mono S2.grow) r2, w2, F.go (S1.trans S2) fun _ _ w => w, finX_no⟩⟩
/-- C(..) -/
theorem wp_make {C : Addr} {s : DSp} {E : XK} {t : TA} {W : Dt → Mem → Prop} (h : WPA K Y ρ μ t fun ds μ1 => ∀ x, x ∉ dom μ1 → s (.ref x :: ds) ((x, .ins C []) :: μ1) (fun d μ2 => d = .non ∧ W (.ref x) μ2) noX) : WP K Y ρ μ (tMake C (spD K s) [] E t) W := fun T σ H M L N Q F =>
  h T σ H M L N _ fun T1 xs H1 ds μ1 w S1 M1 r1 x dx hx hdx hne => by
    have hx2 : upd H1 dx (.own x) x = none := by rw [upd_ne (Ne.symm hne)]; exact hx
    have Ma : Mst K T1 μ1 (upd H1 dx (.own x)) := ⟨fun b o e => by rw [upd_ne (ne_of_none (M1.sub _ _ e) hdx)]; exact M1.sub _ _ e, fun q hq => ⟨(M1.mem q hq).1, (M1.mem q hq).2.mono (Sub.refl _) fun u e => by rw [upd_ne (ne_of_none e hdx)]; exact e⟩, M1.nd⟩
    have Sa : Step T1 μ1 H1 T1 μ1 (upd H1 dx (.own x)) := ⟨Sub.refl _, fun b o e _ => by rw [upd_ne (ne_of_none e hdx)]; exact e, fun _ _ _ t _ => t, fun _ _ _ n => n⟩
    obtain ⟨Mb, Sb⟩ := Ma.cell (m := .ins C []) (o := .ins C dx []) hx2 ⟨dx, [], upd_same, .nil⟩
    refine ⟨T1, _, .ref x :: ds, _, noX, Mb, ?_, w x (M1.notin hx), ?_, finX_no⟩
    · rw [List.append_nil]; exact .cons (.ref x) r1
    · rintro T' v H' d μ' ⟨rfl, w'⟩ S' M' r'
      exact ⟨r'.non_inv, F T' _ H' _ μ' w' (((S1.trans Sa).trans Sb).trans S') M' (.ref x)⟩
/-! ### fields -/
def putD (f : Str) (v : Dt) : List (Str × Dt) → List (Str × Dt)
  | [] => [(f, v)]
  | (g, x) :: r => if g = f then (g, v) :: r else (g, x) :: putD f v r
theorem putD_rep {f : Str} {v : V} {d : Dt} (r : Rep K T v d) {us : List (Str × V)} {fs : List (Str × Dt)} (h : Paired (PRep K T) us fs) : Paired (PRep K T) (putF f v us) (putD f d fs) := by
  induction h with
  | nil => exact .cons ⟨rfl, r⟩ .nil
  | @cons p q ps qs g t ih =>
    obtain ⟨k, u⟩ := p
    obtain ⟨k', e⟩ := q
    obtain ⟨e1, e2⟩ := g
    have e1 : k = k' := e1
    subst e1
    show Paired (PRep K T) (if k = f then (k, v) :: ps else (k, u) :: putF f v ps) (if k = f then (k, d) :: qs else (k, e) :: putD f d qs)
    split
    · exact .cons ⟨rfl, r⟩ t
    · exact .cons ⟨rfl, e2⟩ ih
theorem wps_fld {ta tv : TE} {f : Str} (h : WP K Y ρ μ tv fun e μ1 => WP K Y ρ μ1 ta fun d μ2 => ∃ (c : Nat) (a C : Addr) (fs : List (Str × Dt)), d = .ref a ∧ μ2[c]? = some (a, .ins C fs) ∧ Cls K C ∧ NoAttr K C f ∧ fs.length < 1000 ∧ D.nx ρ (μ2.set c (a, .ins C (putD f e fs)))) : WPS K Y ρ μ (sFld K ta tv f) D := fun T σ H M L N E F =>
  h T σ H M L N _ fun T1 y H1 e μ1 w S1 M1 r1 => w T1 σ H1 M1 (L.mono S1.grow) (N.go S1) _ fun T2 x H2 d μ2 ⟨c, a, C, fs, ed, hc, cl, na, hl, w2⟩ S2 M2 r2 => by
    subst ed
    obtain rfl := r2.ref_inv
    obtain ⟨dx, us, h1, h2⟩ := M2.get hc
    refine ⟨a, C, dx, us, rfl, h1, cl, na, by rw [Paired.length h2]; exact hl, ?_⟩
    obtain ⟨M3, S3⟩ := M2.put (m' := .ins C (putD f e fs)) (o := .ins C dx (putF f y us)) hc ⟨dx, _, upd_same, putD_rep (r1.mono S2.grow) h2⟩
    exact F.nx T2 σ _ ρ _ w2 ((S1.trans S2).trans S3) M3 (L.mono (S1.trans S2).grow)
theorem wp_fld {ta : TE} {f : Str} {W : Dt → Mem → Prop} (h : WP K Y ρ μ ta fun d μ1 => ∃ (c : Nat) (a C : Addr) (fs : List (Str × Dt)) (e : Dt), d = .ref a ∧ μ1[c]? = some (a, .ins C fs) ∧ Cls K C ∧ NoAttr K C f ∧ fs.lookup f = some e ∧ W e μ1) : WP K Y ρ μ (tFld K ta f) W := fun T σ H M L N Q F =>
  h T σ H M L N _ fun T1 x H1 d μ1 ⟨c, a, C, fs, e, ed, hc, cl, na, hl, w⟩ S1 M1 r1 => by
    subst ed
    obtain rfl := r1.ref_inv
    obtain ⟨dx, us, h1, h2⟩ := M1.get hc
    obtain ⟨v, h3, h4⟩ := (lookup_prep h2 f).2 e hl
    exact ⟨a, C, dx, us, v, rfl, h1, cl, na, h3, F T1 v H1 e μ1 w S1 M1 h4⟩
theorem wp_fldI {ta : TE} {f : Str} {W : Dt → Mem → Prop} (h : WP K Y ρ μ ta fun d μ1 => ∃ (C : Addr) (ns : List Str) (es : List Dt) (e : Dt), d = .ins C ns es ∧ Cls K C ∧ NoAttr K C f ∧ (ns.zip es).lookup f = some e ∧ W e μ1) : WP K Y ρ μ (tFld K ta f) W := fun T σ H M L N Q F =>
  h T σ H M L N _ fun T1 x H1 d μ1 ⟨C, ns, es, e, ed, cl, na, hl, w⟩ S1 M1 r1 => by
    subst ed
    obtain ⟨a, dx, us, rfl, h1, h2, h3⟩ := r1.ins_inv
    obtain ⟨v, h4, h5⟩ := (zip_lookup h3 h2 f).2 e hl
    exact ⟨a, C, dx, _, v, rfl, M1.sub _ _ h1, cl, na, h4, F T1 v H1 e μ1 w S1 M1 h5⟩
/-- o.f += e, whole numbers -/
theorem wps_fldaugI {ta tv : TE} {f : Str} (h : WP K Y ρ μ ta fun d μ1 => ∃ (c : Nat) (a C : Addr) (fs : List (Str × Dt)) (n : Int), d = .ref a ∧ μ1[c]? = some (a, .ins C fs) ∧ Cls K C ∧ NoAttr K C f ∧ fs.lookup f = some (.int n) ∧ fs.length < 1000 ∧
    WP K Y ρ μ1 tv fun e μ2 => ∃ k, e = .int k ∧ ∃ fs2, μ2[c]? = some (a, .ins C fs2) ∧ fs2.length < 1000 ∧ D.nx ρ (μ2.set c (a, .ins C (putD f (.int (n + k)) fs2)))) : WPS K Y ρ μ (sFldAug K ta tv L2.rAdd f) D := fun T σ H M L N E F =>
  h T σ H M L N _ fun T1 x H1 d μ1 ⟨c, a, C, fs, n, ed, hc, cl, na, hl, hz, w⟩ S1 M1 r1 => by
    subst ed
    obtain rfl := r1.ref_inv
    obtain ⟨dx, us, h1, h2⟩ := M1.get hc
    obtain ⟨v, h3, h4⟩ := (lookup_prep h2 f).2 _ hl
    obtain rfl := h4.int_inv
    refine ⟨a, C, dx, us, _, rfl, h1, cl, na, h3, w T1 σ H1 M1 (L.mono S1.grow) (N.go S1) _ fun T2 y H2 e μ2 ⟨k, ek, fs2, hc2, hz2, w2⟩ S2 M2 r2 => ?_⟩
    subst ek
    obtain rfl := r2.int_inv
    obtain ⟨dx2, us2, h5, h6⟩ := M2.get hc2
    refine ⟨n, k, rfl, rfl, dx2, us2, h5, by rw [Paired.length h6]; exact hz2, ?_⟩
    obtain ⟨M3, S3⟩ := M2.put (m' := .ins C (putD f (.int (n + k)) fs2)) (o := .ins C dx2 (putF f (.int (n + k)) us2)) hc2 ⟨dx2, _, upd_same, putD_rep (.int _) h6⟩
    exact F.nx T2 σ _ ρ _ w2 ((S1.trans S2).trans S3) M3 (L.mono (S1.trans S2).grow)
end
end Ml

/-! Ml6: dicts, lists, slices, isinstance, equality of data, properties, more sources. -/
namespace Ml
open PySem L2
theorem sz6 {n : Nat} (h : n ≤ 1000000) : n ≤ sizeLine := Nat.le_trans h (by decide)
theorem sz6l {n : Nat} (h : n < 1000000) : n < sizeLine := Nat.lt_of_lt_of_le h (by decide)
/-- d is a list of ds: data, or a cell -/
def IsLst (μ : Mem) (d : Dt) (ds : List Dt) : Prop := d = .lst ds ∨ ∃ (c : Nat) (a : Addr), d = .ref a ∧ μ[c]? = some (a, .lst ds)
theorem isl {μ : Mem} {ds : List Dt} : IsLst μ (.lst ds) ds := .inl rfl
theorem islC {μ : Mem} {a : Addr} {ds : List Dt} (c : Nat) (h : μ[c]? = some (a, .lst ds)) : IsLst μ (.ref a) ds := .inr ⟨c, a, rfl, h⟩
theorem IsLst.at {K : Frag} {T H : Hp} {μ : Mem} {d : Dt} {ds : List Dt} {v : V} (h : IsLst μ d ds) (M : Mst K T μ H) (r : Rep K T v d) : ∃ a xs, v = .ref a ∧ H a = some (.lst xs) ∧ Reps K T xs ds := by
  rcases h with rfl | ⟨c, a, rfl, hc⟩
  · obtain ⟨a, xs, rfl, h1, h2⟩ := r.lst_inv
    exact ⟨a, xs, rfl, M.sub _ _ h1, h2⟩
  · obtain rfl := r.ref_inv
    obtain ⟨vs, h1, h2⟩ := M.get hc
    exact ⟨a, vs, rfl, h1, h2⟩
section
variable {K : Frag} {Y : Wish} {T T1 H H1 : Hp} {μ μ1 : Mem} {ρ : Ro} {σ : L2.St} {D : DE}
/-! ### chains -/
theorem wp_chain {r r' : R2} {ta tb tc : TE} {W : Dt → Mem → Prop} (h : WP K Y ρ μ ta fun d μ1 => WP K Y ρ μ1 tb fun e μ2 => RW2 K μ2 r d e fun z μ3 => ∃ b, z = .bl b ∧ if b = true then WP K Y ρ μ3 tc fun f μ4 => RW2 K μ4 r' e f W else W (.bl false) μ3) : WP K Y ρ μ (tChain r r' ta tb tc) W := fun T σ H M L N Q F =>
  h T σ H M L N _ fun T1 x H1 d μ1 w1 S1 M1 r1 => w1 T1 σ H1 M1 (L.mono S1.grow) (N.go S1) _ fun T2 y H2 e μ2 w2 S2 M2 r2 => w2 T2 H2 x y M2 (r1.mono S2.grow) r2 _ fun T3 z H3 dz μ3 ⟨b, ez, w3⟩ S3 M3 r3 => by
    subst ez
    refine ⟨b, r3.bl_inv, ?_⟩
    have S03 := (S1.trans S2).trans S3
    cases b with
    | true => exact w3 T3 σ H3 M3 (L.mono S03.grow) (N.go S03) _ fun T4 u H4 f μ4 w4 S4 M4 r4 => w4 T4 H4 y u M4 (r2.mono (S3.grow.trans S4.grow)) r4 Q (F.go (S03.trans S4) fun _ _ w => w)
    | false => exact F T3 _ H3 _ μ3 w3 S03 M3 (.bl false)
/-! ### lists -/
theorem rw_cat {d e : Dt} {ds es : List Dt} {W : Dt → Mem → Prop} (h1 : IsLst μ d ds) (h2 : IsLst μ e es) (hl : ds.length + es.length ≤ 1000000) (w : W (.lst (ds ++ es)) μ) : RW2 K μ rCat d e W := fun T H x y M r1 r2 Q F => by
  obtain ⟨a, xs, rfl, ha, ra⟩ := h1.at M r1
  obtain ⟨b, ys, rfl, hb, rb⟩ := h2.at M r2
  refine ⟨a, b, xs, ys, rfl, rfl, ha, hb, sz6 (by rw [ra.length, rb.length]; exact hl), fun p hp => ?_⟩
  obtain ⟨M2, S2⟩ := M.lay (o := .lst (xs ++ ys)) hp
  exact F _ _ _ _ μ w S2 M2 (.lst upd_same ((ra.append rb).mono S2.grow))
theorem rw_rep {d : Dt} {ds : List Dt} {k : Int} {W : Dt → Mem → Prop} (h1 : IsLst μ d ds) (hk : 0 ≤ k ∧ k ≤ 1000000) (hl : ds.length * k.toNat ≤ 1000000) (w : W (.lst (List.replicate k.toNat ds).flatten) μ) : RW2 K μ rRep d (.int k) W := fun T H x y M r1 r2 Q F => by
  obtain ⟨a, xs, rfl, ha, ra⟩ := h1.at M r1
  refine ⟨a, k, xs, rfl, r2.int_inv, ha, by omega, by omega, sz6 (by rw [ra.length]; exact hl), fun p hp => ?_⟩
  obtain ⟨M2, S2⟩ := M.lay (o := .lst (List.replicate k.toNat xs).flatten) hp
  refine F _ _ _ _ μ w S2 M2 (.lst upd_same (Reps.mono S2.grow ?_))
  generalize k.toNat = n
  induction n with
  | zero => exact .nil
  | succ n ih => rw [List.replicate_succ, List.replicate_succ, List.flatten_cons, List.flatten_cons]; exact ra.append ih
def cutD {α : Type} (xs : List α) (lo hi : Option Int) : List α := (xs.drop (HT.sIx xs.length 0 lo)).take (HT.sIx xs.length xs.length hi - HT.sIx xs.length 0 lo)
/-- the parts of a slice -/
def WPO (K : Frag) (Y : Wish) (ρ : Ro) (μ : Mem) (to : TO) (W : Option Int → Mem → Prop) : Prop := ∀ T σ H, Mst K T μ H → Locs K T ρ σ → FinW K T μ H Y → ∀ Q : Option Int → Hp → Prop, (∀ T' H' o μ', W o μ' → Step T μ H T' μ' H' → Mst K T' μ' H' → Q o H') → to σ H Q
theorem wpo_none {W : Option Int → Mem → Prop} (w : W none μ) : WPO K Y ρ μ tNoPart W := fun T σ H M L N Q F => F T H none μ w (Step.refl _ _ _) M
theorem wpo_some {t : TE} {W : Option Int → Mem → Prop} (h : WP K Y ρ μ t fun d μ1 => ∃ n, d = .int n ∧ W (some n) μ1) : WPO K Y ρ μ (tPart t) W := fun T σ H M L N Q F =>
  h T σ H M L N _ fun T1 x H1 d μ1 ⟨n, e, w⟩ S1 M1 r1 => by
    subst e
    exact ⟨n, r1.int_inv, F T1 H1 _ μ1 w S1 M1⟩
theorem wp_sl {r : V → Option Int → Option Int → Hp → VK → Prop} {te : TE} {tl th : TO} {W : Dt → Mem → Prop} (h : WP K Y ρ μ te fun d μ1 => WPO K Y ρ μ1 tl fun lo μ2 => WPO K Y ρ μ2 th fun hi μ3 => ∀ T H x, Mst K T μ3 H → Rep K T x d → ∀ Q, Fin1 K T μ3 H W Q → r x lo hi H Q) : WP K Y ρ μ (tSl r te tl th) W := fun T σ H M L N Q F =>
  h T σ H M L N _ fun T1 x H1 d μ1 w1 S1 M1 r1 => w1 T1 σ H1 M1 (L.mono S1.grow) (N.go S1) _ fun T2 H2 lo μ2 w2 S2 M2 => w2 T2 σ H2 M2 (L.mono (S1.trans S2).grow) (N.go (S1.trans S2)) _ fun T3 H3 hi μ3 w3 S3 M3 => w3 T3 H3 x M3 (r1.mono (S2.grow.trans S3.grow)) Q (F.go ((S1.trans S2).trans S3) fun _ _ w => w)
theorem cut_rep {xs : List V} {ds : List Dt} (r : Reps K T xs ds) (lo hi : Option Int) : Reps K T (cutV xs lo hi) (cutD ds lo hi) := by
  unfold cutV cutD
  rw [r.length]
  exact (r.drop _).take _
theorem rw_slL {d : Dt} {ds : List Dt} {lo hi : Option Int} {W : Dt → Mem → Prop} (h : IsLst μ d ds) (w : W (.lst (cutD ds lo hi)) μ) : ∀ T H x, Mst K T μ H → Rep K T x d → ∀ Q, Fin1 K T μ H W Q → rSlL K x lo hi H Q := fun T H x M r Q F => by
  obtain ⟨a, xs, rfl, ha, ra⟩ := h.at M r
  refine ⟨a, xs, rfl, SqL.of ha, fun p hp => ?_⟩
  obtain ⟨M2, S2⟩ := M.lay (o := .lst (cutV xs lo hi)) hp
  exact F _ _ _ _ μ w S2 M2 (.lst upd_same (Reps.mono S2.grow (cut_rep ra lo hi)))
/-- len -/
def IsSq (μ : Mem) (d : Dt) (ds : List Dt) : Prop := IsLst μ d ds ∨ d = .tup ds ∨ d = .fls ds
theorem IsSq.at {d : Dt} {ds : List Dt} {v : V} (h : IsSq μ d ds) (M : Mst K T μ H) (r : Rep K T v d) : ∃ a xs, v = .ref a ∧ (SqL K H a xs ∨ SqT K H a xs) ∧ Reps K T xs ds := by
  rcases h with h | rfl | rfl
  · obtain ⟨a, xs, rfl, ha, ra⟩ := h.at M r
    exact ⟨a, xs, rfl, .inl (SqL.of ha), ra⟩
  · obtain ⟨a, xs, rfl, h1, h2⟩ := r.tup_inv
    exact ⟨a, xs, rfl, .inr (SqT.of (M.sub _ _ h1)), h2⟩
  · obtain ⟨a, xs, rfl, h1, h2⟩ := r.fls_inv
    exact ⟨a, xs, rfl, .inl (M.sub.l h1), h2⟩
theorem rw_len {d : Dt} {ds : List Dt} {W : Dt → Mem → Prop} (h : IsSq μ d ds) (w : W (.int (ds.length : Nat)) μ) : RWL K μ (Evl.rLenS K) [d] W := fun T H xs M r Q F => by
  obtain ⟨v, us, rfl, r1, r2⟩ := r.cons_inv
  obtain rfl := r2.nil_inv
  obtain ⟨a, ys, rfl, ha, ra⟩ := h.at M r1
  exact ⟨a, ys, rfl, ha, by rw [ra.length]; exact F T _ H _ μ w (Step.refl _ _ _) M (.int _)⟩
theorem rw_list {d : Dt} {ds : List Dt} {W : Dt → Mem → Prop} (h : IsSq μ d ds) (w : W (.lst ds) μ) : RWL K μ (Evl.rListS K) [d] W := fun T H xs M r Q F => by
  obtain ⟨v, us, rfl, r1, r2⟩ := r.cons_inv
  obtain rfl := r2.nil_inv
  obtain ⟨a, ys, rfl, ha, ra⟩ := h.at M r1
  refine ⟨a, ys, rfl, ha, fun p hp => ?_⟩
  obtain ⟨M2, S2⟩ := M.lay (o := .lst ys) hp
  exact F _ _ _ _ μ w S2 M2 (.lst upd_same (ra.mono S2.grow))
theorem rw_listC {d : Dt} {ds : List Dt} {W : Dt → Mem → Prop} (h : IsSq μ d ds) (w : ∀ p, p ∉ dom μ → W (.ref p) ((p, .lst ds) :: μ)) : RWL K μ (Evl.rListS K) [d] W := fun T H xs M r Q F => by
  obtain ⟨v, us, rfl, r1, r2⟩ := r.cons_inv
  obtain rfl := r2.nil_inv
  obtain ⟨a, ys, rfl, ha, ra⟩ := h.at M r1
  refine ⟨a, ys, rfl, ha, fun p hp => ?_⟩
  obtain ⟨M2, S2⟩ := M.cell (m := .lst ds) (o := .lst ys) hp ⟨ys, upd_same, ra⟩
  exact F _ _ _ _ _ (w p (M.notin hp)) S2 M2 (.ref p)
/-- x in xs: flat things -/
theorem flats {T : Hp} {xs : List V} {ds : List Dt} {vs : List V} (r : Reps K T xs ds) (h : ds.map Dt.flat = vs.map some) : xs = vs := by
  induction ds generalizing xs vs with
  | nil =>
    obtain rfl := r.nil_inv
    cases vs with
    | nil => rfl
    | cons => simp at h
  | cons d ds ih =>
    obtain ⟨v, us, rfl, r1, r2⟩ := r.cons_inv
    cases vs with
    | nil => simp at h
    | cons x vs =>
      simp only [List.map_cons, List.cons.injEq] at h
      rw [ih r2 h.2]
      have e : v = x := by cases r1 <;> simp [Dt.flat] at h <;> exact h.1
      rw [e]
theorem rw_in {neg : Bool} {d e : Dt} {x : V} {ds : List Dt} {vs : List V} {W : Dt → Mem → Prop} (hx : d.flat = some x) (h : IsSq μ e ds) (hf : ds.map Dt.flat = vs.map some) (fx : flatV x = true) (fv : vs.all flatV = true) (w : W (.bl (if neg then !inV x vs else inV x vs)) μ) : RW2 K μ (rIn K neg) d e W := fun T H u v M r1 r2 Q F => by
  obtain ⟨a, ys, rfl, ha, ra⟩ := h.at M r2
  have e1 : u = x := by cases r1 <;> simp [Dt.flat] at hx <;> exact hx
  subst e1
  obtain rfl := flats ra hf
  exact ⟨a, ys, rfl, ha, fx, fv, F T _ H _ μ w (Step.refl _ _ _) M (.bl _)⟩
theorem inV_ints (n : Int) (ns : List Int) : inV (.int n) (ns.map V.int) = decide (n ∈ ns) := by
  unfold inV
  rw [List.any_map]
  induction ns with
  | nil => rfl
  | cons m ns ih =>
    rw [List.any_cons, ih]
    show (eqV (.int m) (.int n) || _) = _
    have : eqV (.int m) (.int n) = decide (m = n) := by
      show (m == n) = _
      rw [Bool.beq_eq_decide_eq]
    rw [this]
    by_cases e : m = n
    · subst e; simp
    · have e' : n ≠ m := fun z => e z.symm
      simp [e, e']
theorem rw_inI {neg : Bool} {e : Dt} {n : Int} {ns : List Int} {W : Dt → Mem → Prop} (h : IsSq μ e (ns.map Dt.int)) (w : W (.bl (if neg then !decide (n ∈ ns) else decide (n ∈ ns))) μ) : RW2 K μ (rIn K neg) (.int n) e W :=
  rw_in (x := .int n) (vs := ns.map V.int) rfl h (by rw [List.map_map, List.map_map]; rfl) rfl (by simp [flatV]) (by rw [inV_ints]; exact w)
/-- methods of a list that is a cell -/
theorem wp_bm {r : V → List V → Hp → VK → Prop} {to : TE} {t : TA} {W : Dt → Mem → Prop} (h : WP K Y ρ μ to fun d μ1 => (∃ ds, IsLst μ1 d ds) ∧ WPA K Y ρ μ1 t fun es μ2 => RWM K μ2 r d es W) : WP K Y ρ μ (tBM K "list" r to t) W := fun T σ H M L N Q F =>
  h T σ H M L N _ fun T1 x H1 d μ1 ⟨⟨ds, hd⟩, w⟩ S1 M1 r1 => by
    obtain ⟨a, xs, rfl, ha, ra⟩ := hd.at M1 r1
    exact ⟨.inl ⟨rfl, xs, SqL.of ha⟩, w T1 σ H1 M1 (L.mono S1.grow) (N.go S1) _ fun T2 us H2 es μ2 w2 S2 M2 r2 => w2 T2 H2 _ us M2 (r1.mono S2.grow) r2 Q (F.go (S1.trans S2) fun _ _ w => w)⟩
theorem wp_bm0 {r : V → List V → Hp → VK → Prop} {to : TE} {W : Dt → Mem → Prop} (h : WP K Y ρ μ to fun d μ1 => (∃ ds, IsLst μ1 d ds) ∧ RWM K μ1 r d [] W) : WP K Y ρ μ (tBM0 K "list" r to) W := fun T σ H M L N Q F =>
  h T σ H M L N _ fun T1 x H1 d μ1 ⟨⟨ds, hd⟩, w⟩ S1 M1 r1 => by
    obtain ⟨a, xs, rfl, ha, ra⟩ := hd.at M1 r1
    exact ⟨.inl ⟨rfl, xs, SqL.of ha⟩, w T1 H1 _ [] M1 r1 .nil Q (F.go S1 fun _ _ w => w)⟩
theorem rwm_append {a : Addr} {c : Nat} {ds : List Dt} {e : Dt} {W : Dt → Mem → Prop} (hc : μ[c]? = some (a, .lst ds)) (hl : ds.length < 1000000) (w : W .non (μ.set c (a, .lst (ds ++ [e])))) : RWM K μ rAppend (.ref a) [e] W := fun T H x xs M r1 r2 Q F => by
  obtain rfl := r1.ref_inv
  obtain ⟨v, us, rfl, r3, r4⟩ := r2.cons_inv
  obtain rfl := r4.nil_inv
  obtain ⟨vs, h1, h2⟩ := M.get hc
  refine ⟨a, vs, v, rfl, rfl, h1, sz6l (by rw [h2.length]; exact hl), ?_⟩
  obtain ⟨M2, S2⟩ := M.put (m' := .lst (ds ++ [e])) (o := .lst (vs ++ [v])) hc ⟨_, upd_same, h2.append (Reps.one r3)⟩
  exact F T _ _ _ _ w S2 M2 .non
theorem rwm_extend {a : Addr} {c : Nat} {ds es : List Dt} {e : Dt} {W : Dt → Mem → Prop} (hc : μ[c]? = some (a, .lst ds)) (he : IsLst μ e es) (hl : ds.length + es.length ≤ 1000000) (w : W .non (μ.set c (a, .lst (ds ++ es)))) : RWM K μ rExtend (.ref a) [e] W := fun T H x xs M r1 r2 Q F => by
  obtain rfl := r1.ref_inv
  obtain ⟨v, us, rfl, r3, r4⟩ := r2.cons_inv
  obtain rfl := r4.nil_inv
  obtain ⟨vs, h1, h2⟩ := M.get hc
  obtain ⟨b, zs, rfl, h3, h4⟩ := he.at M r3
  refine ⟨a, b, vs, zs, rfl, rfl, h1, h3, sz6 (by rw [h2.length, h4.length]; exact hl), ?_⟩
  obtain ⟨M2, S2⟩ := M.put (m' := .lst (ds ++ es)) (o := .lst (vs ++ zs)) hc ⟨_, upd_same, h2.append h4⟩
  exact F T _ _ _ _ w S2 M2 .non
theorem Reps.eraseIdx : ∀ {xs : List V} {ds : List Dt} (i : Nat), Reps K T xs ds → Reps K T (xs.eraseIdx i) (ds.eraseIdx i)
  | _, _, _, .nil => .nil
  | _, _, 0, .cons _ r => r
  | _, _, i + 1, .cons h r => .cons h (Reps.eraseIdx i r)
theorem rwm_popAt {a : Addr} {c k : Nat} {ds : List Dt} {i : Int} {e : Dt} {W : Dt → Mem → Prop} (hc : μ[c]? = some (a, .lst ds)) (hi : -(2 ^ 63) ≤ i ∧ i < 2 ^ 63) (hk : seqIndex? i ds.length = some k) (he : ds[k]? = some e) (w : W e (μ.set c (a, .lst (ds.eraseIdx k)))) : RWM K μ rPopAt (.ref a) [.int i] W := fun T H x xs M r1 r2 Q F => by
  obtain rfl := r1.ref_inv
  obtain ⟨v, us, rfl, r3, r4⟩ := r2.cons_inv
  obtain rfl := r4.nil_inv
  obtain rfl := r3.int_inv
  obtain ⟨vs, h1, h2⟩ := M.get hc
  obtain ⟨y, h3, h4⟩ := h2.get he
  refine ⟨a, vs, i, k, y, rfl, rfl, h1, hi.1, hi.2, by rw [h2.length]; exact hk, h3, ?_⟩
  obtain ⟨M2, S2⟩ := M.put (m' := .lst (ds.eraseIdx k)) (o := .lst (vs.eraseIdx k)) hc ⟨_, upd_same, h2.eraseIdx k⟩
  exact F T _ _ _ _ w S2 M2 h4
theorem rwm_clear {a : Addr} {c : Nat} {ds : List Dt} {W : Dt → Mem → Prop} (hc : μ[c]? = some (a, .lst ds)) (w : W .non (μ.set c (a, .lst []))) : RWM K μ rClear (.ref a) [] W := fun T H x xs M r1 r2 Q F => by
  obtain rfl := r1.ref_inv
  obtain rfl := r2.nil_inv
  obtain ⟨vs, h1, h2⟩ := M.get hc
  refine ⟨a, vs, rfl, rfl, h1, ?_⟩
  obtain ⟨M2, S2⟩ := M.put (m' := .lst []) (o := .lst []) hc ⟨_, upd_same, .nil⟩
  exact F T _ _ _ _ w S2 M2 .non
theorem wpg_setL {to ti : TE} {y : Dt} {W : Ro → Mem → Prop} (h : WP K Y ρ μ to fun d μ1 => WP K Y ρ μ1 ti fun e μ2 => ∃ (c : Nat) (a : Addr) (ds : List Dt) (k : Int) (j : Nat), d = .ref a ∧ e = .int k ∧ μ2[c]? = some (a, .lst ds) ∧ ixN ds.length k = some j ∧ W ρ (μ2.set c (a, .lst (ds.set j y)))) : WPG K Y ρ μ (gSub to ti rSetL) y W := fun T σ H v M L N r Q F =>
  h T σ H M L N _ fun T1 x H1 d μ1 w S1 M1 r1 => w T1 σ H1 M1 (L.mono S1.grow) (N.go S1) _ fun T2 u H2 e μ2 ⟨c, a, ds, k, j, ed, ee, hc, hj, w2⟩ S2 M2 r2 => by
    subst ed ee
    obtain rfl := r1.ref_inv
    obtain rfl := r2.int_inv
    obtain ⟨vs, h1, h2⟩ := M2.get hc
    refine ⟨a, vs, k, j, rfl, rfl, h1, by rw [h2.length]; exact hj, ?_⟩
    obtain ⟨M3, S3⟩ := M2.put (m' := .lst (ds.set j y)) (o := .lst (vs.set j v)) hc ⟨_, upd_same, h2.set (r.mono (S1.trans S2).grow) j⟩
    exact F T2 σ _ ρ _ w2 ((S1.trans S2).trans S3) M3 (L.mono (S1.trans S2).grow)
/-! ### dicts -/
section
variable {κ : Type} [DecidableEq κ]
def valD (kvs : List (κ × Dt)) (k : κ) : Option Dt := (kvs.find? fun kv => decide (kv.1 = k)).map (·.2)
def putKD (kvs : List (κ × Dt)) (k : κ) (v : Dt) : List (κ × Dt) :=
  if (kvs.any fun kv => decide (kv.1 = k)) = true then kvs.map (fun kv => if kv.1 = k then (kv.1, v) else kv) else kvs ++ [(k, v)]
theorem valD_rep {us : List (κ × V)} {kvs : List (κ × Dt)} (h : Paired (PRep K T) us kvs) (k : κ) : (valD kvs k = none → valV us k = none) ∧ ∀ d, valD kvs k = some d → ∃ v, valV us k = some v ∧ Rep K T v d := by
  induction h with
  | nil => exact ⟨(fun _ => rfl), (fun d e => by cases e)⟩
  | @cons p q ps qs r t ih =>
    obtain ⟨k1, v⟩ := p
    obtain ⟨k2, d⟩ := q
    obtain ⟨e1, e2⟩ := r
    have e1 : k1 = k2 := e1
    subst e1
    unfold valD valV
    rw [List.find?_cons, List.find?_cons]
    by_cases e : k1 = k
    · simp only [e, decide_true]
      exact ⟨(fun z => by cases z), (fun d' z => by cases z; exact ⟨v, rfl, e2⟩)⟩
    · simp only [e, decide_false]
      exact ih
theorem any_rep {us : List (κ × V)} {kvs : List (κ × Dt)} (h : Paired (PRep K T) us kvs) (k : κ) : (us.any fun kv => decide (kv.1 = k)) = kvs.any fun kv => decide (kv.1 = k) := by
  induction h with
  | nil => rfl
  | @cons p q ps qs r t ih => rw [List.any_cons, List.any_cons, ih, r.1]
theorem Paired.app {α β : Type} {F : α → β → Prop} : ∀ {a : List α} {b : List β} {c : List α} {d : List β}, Paired F a b → Paired F c d → Paired F (a ++ c) (b ++ d)
  | _, _, _, _, .nil, h => h
  | _, _, _, _, .cons r t, h => .cons r (Paired.app t h)
theorem repl_rep {us : List (κ × V)} {kvs : List (κ × Dt)} (h : Paired (PRep K T) us kvs) (k : κ) {v : V} {d : Dt} (r : Rep K T v d) : Paired (PRep K T) (us.map fun kv => if kv.1 = k then (kv.1, v) else kv) (kvs.map fun kv => if kv.1 = k then (kv.1, d) else kv) := by
  induction h with
  | nil => exact .nil
  | @cons p q ps qs g t ih =>
    rw [List.map_cons, List.map_cons]
    refine .cons ?_ ih
    obtain ⟨e1, e2⟩ := g
    rw [← e1]
    by_cases e : p.1 = k
    · rw [if_pos e, if_pos e]; exact ⟨rfl, r⟩
    · rw [if_neg e, if_neg e]; exact ⟨e1, e2⟩
theorem putKD_rep {us : List (κ × V)} {kvs : List (κ × Dt)} (h : Paired (PRep K T) us kvs) (k : κ) {v : V} {d : Dt} (r : Rep K T v d) : Paired (PRep K T) (putK us k v) (putKD kvs k d) := by
  unfold putK putKD
  rw [any_rep h k]
  split
  · exact repl_rep h k r
  · exact Paired.app h (.cons ⟨rfl, r⟩ .nil)
end
def kD : Key → Dt
  | .inl i => .int i
  | .inr x => .str x
theorem kD_rep {v : V} {k : Key} (r : Rep K T v (kD k)) : v = kV k := by
  cases k with
  | inl i => exact r.int_inv
  | inr x => exact r.str_inv
theorem kDs_rep {vs : List V} {ks : List Key} (r : Reps K T vs (ks.map kD)) : vs = ks.map kV := by
  induction ks generalizing vs with
  | nil => exact r.nil_inv
  | cons k ks ih =>
    obtain ⟨v, us, rfl, r1, r2⟩ := r.cons_inv
    rw [List.map_cons, ih r2, kD_rep r1]
/-- what the dict d holds at the key e -/
def DHas (μ : Mem) (d e : Dt) (o : Option Dt) : Prop :=
  (∃ (c : Nat) (a : Addr) (kvs : List (Key × Dt)) (k : Key), d = .ref a ∧ μ[c]? = some (a, .dK kvs) ∧ e = kD k ∧ o = valD kvs k) ∨
  ∃ (c : Nat) (a : Addr) (kvs : List (List Key × Dt)) (k : List Key), d = .ref a ∧ μ[c]? = some (a, .dT kvs) ∧ e = .tup (k.map kD) ∧ o = valD kvs k
theorem dhasK {a : Addr} {kvs : List (Key × Dt)} (c : Nat) (k : Key) (h : μ[c]? = some (a, .dK kvs)) : DHas μ (.ref a) (kD k) (valD kvs k) := .inl ⟨c, a, kvs, k, rfl, h, rfl, rfl⟩
theorem dhasT {a : Addr} {kvs : List (List Key × Dt)} (c : Nat) (k : List Key) (h : μ[c]? = some (a, .dT kvs)) : DHas μ (.ref a) (.tup (k.map kD)) (valD kvs k) := .inr ⟨c, a, kvs, k, rfl, h, rfl, rfl⟩
theorem DHas.at {d e : Dt} {o : Option Dt} {x y : V} (h : DHas μ d e o) (M : Mst K T μ H) (r1 : Rep K T x d) (r2 : Rep K T y e) : ∃ a p, x = .ref a ∧ DGet H a y p ∧ (o = none → p = none) ∧ ∀ d', o = some d' → ∃ v, p = some v ∧ Rep K T v d' := by
  rcases h with ⟨c, a, kvs, k, rfl, hc, rfl, rfl⟩ | ⟨c, a, kvs, k, rfl, hc, rfl, rfl⟩
  · obtain rfl := r1.ref_inv
    obtain rfl := kD_rep r2
    obtain ⟨us, h1, h2⟩ := M.get hc
    exact ⟨a, _, rfl, DGet.k h1, valD_rep h2 k⟩
  · obtain rfl := r1.ref_inv
    obtain ⟨b, xs, rfl, hb, rb⟩ := r2.tup_inv
    obtain rfl := kDs_rep rb
    obtain ⟨us, h1, h2⟩ := M.get hc
    exact ⟨a, _, rfl, DGet.t h1 (M.sub _ _ hb), valD_rep h2 k⟩
theorem wp_dget {td ty : TE} {W : Dt → Mem → Prop} (h : WP K Y ρ μ td fun d μ1 => WP K Y ρ μ1 ty fun e μ2 => ∃ v, DHas μ2 d e (some v) ∧ W v μ2) : WP K Y ρ μ (tDGet td ty) W := fun T σ H M L N Q F =>
  h T σ H M L N _ fun T1 x H1 d μ1 w1 S1 M1 r1 => w1 T1 σ H1 M1 (L.mono S1.grow) (N.go S1) _ fun T2 y H2 e μ2 ⟨v, hd, w2⟩ S2 M2 r2 => by
    obtain ⟨a, p, rfl, h1, _, h3⟩ := hd.at M2 (r1.mono S2.grow) r2
    obtain ⟨u, rfl, hu⟩ := h3 v rfl
    exact ⟨a, u, rfl, h1, F T2 u H2 v μ2 w2 (S1.trans S2) M2 hu⟩
theorem wp_din {td ty : TE} {W : Dt → Mem → Prop} (h : WP K Y ρ μ ty fun e μ1 => WP K Y ρ μ1 td fun d μ2 => ∃ o, DHas μ2 d e o ∧ W (.bl o.isSome) μ2) : WP K Y ρ μ (tDIn ty td) W := fun T σ H M L N Q F =>
  h T σ H M L N _ fun T1 y H1 e μ1 w1 S1 M1 r1 => w1 T1 σ H1 M1 (L.mono S1.grow) (N.go S1) _ fun T2 x H2 d μ2 ⟨o, hd, w2⟩ S2 M2 r2 => by
    obtain ⟨a, p, rfl, h1, h2, h3⟩ := hd.at M2 r2 (r1.mono S2.grow)
    refine ⟨a, p, rfl, h1, ?_⟩
    have e : p.isSome = o.isSome := by
      cases o with
      | none => rw [h2 rfl]; rfl
      | some d' => obtain ⟨v, rfl, _⟩ := h3 d' rfl; rfl
    rw [e]
    exact F T2 _ H2 _ μ2 w2 (S1.trans S2) M2 (.bl _)
theorem wp_dnotin {td ty : TE} {W : Dt → Mem → Prop} (h : WP K Y ρ μ ty fun e μ1 => WP K Y ρ μ1 td fun d μ2 => ∃ o, DHas μ2 d e o ∧ W (.bl (!o.isSome)) μ2) : WP K Y ρ μ (tDNotIn ty td) W := fun T σ H M L N Q F =>
  h T σ H M L N _ fun T1 y H1 e μ1 w1 S1 M1 r1 => w1 T1 σ H1 M1 (L.mono S1.grow) (N.go S1) _ fun T2 x H2 d μ2 ⟨o, hd, w2⟩ S2 M2 r2 => by
    obtain ⟨a, p, rfl, h1, h2, h3⟩ := hd.at M2 r2 (r1.mono S2.grow)
    refine ⟨a, p, rfl, h1, ?_⟩
    have e : p.isSome = o.isSome := by
      cases o with
      | none => rw [h2 rfl]; rfl
      | some d' => obtain ⟨v, rfl, _⟩ := h3 d' rfl; rfl
    rw [e]
    exact F T2 _ H2 _ μ2 w2 (S1.trans S2) M2 (.bl _)
theorem wp_dget1 {td ty : TE} {W : Dt → Mem → Prop} (h : WP K Y ρ μ td fun d μ1 => (∃ (c : Nat) (a : Addr), d = .ref a ∧ ((∃ kvs, μ1[c]? = some (a, .dK kvs)) ∨ ∃ kvs, μ1[c]? = some (a, .dT kvs))) ∧ WP K Y ρ μ1 ty fun e μ2 => ∃ o, DHas μ2 d e o ∧ W (o.getD .non) μ2) : WP K Y ρ μ (tDGet1 td ty) W := fun T σ H M L N Q F =>
  h T σ H M L N _ fun T1 x H1 d μ1 ⟨⟨c, a, ed, hc⟩, w1⟩ S1 M1 r1 => by
    subst ed
    obtain rfl := r1.ref_inv
    have isd : IsD H1 a := by
      rcases hc with ⟨kvs, hc⟩ | ⟨kvs, hc⟩
      · obtain ⟨us, h1, _⟩ := M1.get hc; exact .inl ⟨us, .inl h1⟩
      · obtain ⟨us, h1, _⟩ := M1.get hc; exact .inr ⟨us, .inl h1⟩
    refine ⟨a, rfl, isd, w1 T1 σ H1 M1 (L.mono S1.grow) (N.go S1) _ fun T2 y H2 e μ2 ⟨o, hd, w2⟩ S2 M2 r2 => ?_⟩
    obtain ⟨b, p, eb, h1, h2, h3⟩ := hd.at M2 (.ref a) r2
    cases eb
    refine ⟨p, h1, ?_⟩
    cases o with
    | none => rw [h2 rfl]; exact F T2 _ H2 _ μ2 w2 (S1.trans S2) M2 .non
    | some d' => obtain ⟨v, rfl, hv⟩ := h3 d' rfl; exact F T2 _ H2 _ μ2 w2 (S1.trans S2) M2 hv
theorem wps_dput {td ty tv : TE} (h : WP K Y ρ μ tv fun v μ1 => WP K Y ρ μ1 td fun d μ2 => WP K Y ρ μ2 ty fun e μ3 =>
    (∃ (c : Nat) (a : Addr) (kvs : List (Key × Dt)) (k : Key), d = .ref a ∧ μ3[c]? = some (a, .dK kvs) ∧ e = kD k ∧ kvs.length < 1000000 ∧ D.nx ρ (μ3.set c (a, .dK (putKD kvs k v)))) ∨
    ∃ (c : Nat) (a : Addr) (kvs : List (List Key × Dt)) (k : List Key), d = .ref a ∧ μ3[c]? = some (a, .dT kvs) ∧ e = .tup (k.map kD) ∧ kvs.length < 1000000 ∧ D.nx ρ (μ3.set c (a, .dT (putKD kvs k v)))) : WPS K Y ρ μ (sDPut td ty tv) D := fun T σ H M L N E F =>
  h T σ H M L N _ fun T1 v H1 dv μ1 w1 S1 M1 r1 => w1 T1 σ H1 M1 (L.mono S1.grow) (N.go S1) _ fun T2 x H2 d μ2 w2 S2 M2 r2 => w2 T2 σ H2 M2 (L.mono (S1.trans S2).grow) (N.go (S1.trans S2)) _ fun T3 y H3 e μ3 w3 S3 M3 r3 => by
    have S03 := (S1.trans S2).trans S3
    have rv := r1.mono (S2.grow.trans S3.grow)
    have rd := r2.mono S3.grow
    rcases w3 with ⟨c, a, kvs, k, rfl, hc, rfl, hl, w⟩ | ⟨c, a, kvs, k, rfl, hc, rfl, hl, w⟩
    · obtain rfl := rd.ref_inv
      obtain rfl := kD_rep r3
      obtain ⟨us, h1, h2⟩ := M3.get hc
      refine ⟨a, _, rfl, DPut.k h1 (sz6l (by rw [Paired.length h2]; exact hl)), ?_⟩
      obtain ⟨M4, S4⟩ := M3.put (m' := .dK (putKD kvs k dv)) (o := .dK (putK us k v)) hc ⟨_, upd_same, putKD_rep h2 k rv⟩
      exact F.nx T3 σ _ ρ _ w (S03.trans S4) M4 (L.mono S03.grow)
    · obtain rfl := rd.ref_inv
      obtain ⟨b, xs, rfl, hb, rb⟩ := r3.tup_inv
      obtain rfl := kDs_rep rb
      obtain ⟨us, h1, h2⟩ := M3.get hc
      refine ⟨a, _, rfl, DPut.t h1 (M3.sub _ _ hb) (sz6l (by rw [Paired.length h2]; exact hl)), ?_⟩
      obtain ⟨M4, S4⟩ := M3.put (m' := .dT (putKD kvs k dv)) (o := .dT (putK us k v)) hc ⟨_, upd_same, putKD_rep h2 k rv⟩
      exact F.nx T3 σ _ ρ _ w (S03.trans S4) M4 (L.mono S03.grow)
theorem wp_dnewK {W : Dt → Mem → Prop} (w : ∀ p, p ∉ dom μ → W (.ref p) ((p, .dK []) :: μ)) : WP K Y ρ μ tDNewK W := fun T σ H M L N Q F p hp => by
  obtain ⟨M2, S2⟩ := M.cell (m := .dK []) (o := .dK []) hp ⟨[], upd_same, .nil⟩
  exact F T _ _ _ _ (w p (M.notin hp)) S2 M2 (.ref p)
theorem wp_dnewT {W : Dt → Mem → Prop} (w : ∀ p, p ∉ dom μ → W (.ref p) ((p, .dT []) :: μ)) : WP K Y ρ μ tDNewT W := fun T σ H M L N Q F p hp => by
  obtain ⟨M2, S2⟩ := M.cell (m := .dT []) (o := .dT []) hp ⟨[], upd_same, .nil⟩
  exact F T _ _ _ _ (w p (M.notin hp)) S2 M2 (.ref p)
/-! ### what was a cell is data from here on -/
theorem wp_freezeL {te : TE} {W : Dt → Mem → Prop} (h : WP K Y ρ μ te fun d μ1 => ∃ (a : Addr) (ds : List Dt) (rest : Mem), d = .ref a ∧ μ1 = (a, .lst ds) :: rest ∧ W (.lst ds) rest) : WP K Y ρ μ te W := fun T σ H M L N Q F =>
  h T σ H M L N _ fun T1 x H1 d μ1 ⟨a, ds, rest, ed, em, w⟩ S1 M1 r1 => by
    subst ed em
    obtain rfl := r1.ref_inv
    obtain ⟨vs, h1, h2⟩ := M1.get (i := 0) rfl
    obtain ⟨M2, S2⟩ := M1.freeze (List.Perm.refl _) h1
    exact F _ _ H1 _ rest w (S1.trans S2) M2 (.lst upd_same (h2.mono S2.grow))
theorem prep_zip {us : List (Str × V)} {fs : List (Str × Dt)} (h : Paired (PRep K T) us fs) : us = (fs.map (·.1)).zip (us.map (·.2)) := by
  induction h with
  | nil => rfl
  | @cons p q ps qs g t ih => rw [List.map_cons, List.map_cons, List.zip_cons_cons, ← ih, ← g.1]
theorem prep_snd {us : List (Str × V)} {fs : List (Str × Dt)} (h : Paired (PRep K T) us fs) : Reps K T (us.map (·.2)) (fs.map (·.2)) := by
  induction h with
  | nil => exact .nil
  | @cons p q ps qs g t ih => exact .cons g.2 ih
theorem wp_freezeI {te : TE} {W : Dt → Mem → Prop} (h : WP K Y ρ μ te fun d μ1 => ∃ (a C : Addr) (fs : List (Str × Dt)) (rest : Mem), d = .ref a ∧ μ1 = (a, .ins C fs) :: rest ∧ W (.ins C (fs.map (·.1)) (fs.map (·.2))) rest) : WP K Y ρ μ te W := fun T σ H M L N Q F =>
  h T σ H M L N _ fun T1 x H1 d μ1 ⟨a, C, fs, rest, ed, em, w⟩ S1 M1 r1 => by
    subst ed em
    obtain rfl := r1.ref_inv
    obtain ⟨dx, us, h1, h2⟩ := M1.get (i := 0) rfl
    obtain ⟨M2, S2⟩ := M1.freeze (List.Perm.refl _) h1
    have hz := prep_zip h2
    have hr := prep_snd h2
    exact F _ _ H1 _ rest w (S1.trans S2) M2 (.ins (dx := dx) (xs := us.map (·.2)) (by rw [upd_same, ← hz]) (by rw [List.length_map, List.length_map, Paired.length h2]) (hr.mono S2.grow))
/-- cells forgotten behind an expression -/
theorem wp_dropM {te : TE} {W : Dt → Mem → Prop} (h : WP K Y ρ μ te fun d μ1 => ∃ gone μ2, μ1 = gone ++ μ2 ∧ W d μ2) : WP K Y ρ μ te W := fun T σ H M L N Q F =>
  h T σ H M L N _ fun T1 x H1 d μ1 ⟨gone, μ2, e, w⟩ S1 M1 r1 => by
    subst e
    obtain ⟨M2, S2⟩ := M1.drop (foot := μ2) (rest := gone) List.perm_append_comm
    exact F T1 x H1 d μ2 w (S1.trans S2) M2 r1
/-! ### equality of data -/
mutual
def Dt.py : Dt → Option PyData
  | .non => some .none
  | .bl b => some (.bool b)
  | .int i => some (.int i)
  | .str x => some (.str x)
  | .lst ds => (Dt.pys ds).map .list
  | .tup ds => (Dt.pys ds).map .tuple
  | .fls ds => (Dt.pys ds).map .list
  | .ref _ => none
  | .ty _ => none
  | .ins _ _ _ => none
def Dt.pys : List Dt → Option (List PyData)
  | [] => some []
  | d :: ds => match d.py, Dt.pys ds with
    | some p, some ps => some (p :: ps)
    | _, _ => none
end
mutual
theorem Rep.dp {K : Frag} {T H : Hp} (s : Sub T H) : ∀ {v : V} {d : Dt} {p : PyData}, Rep K T v d → d.py = some p → Dp K H v p
  | _, _, _, .non, e => by cases e; exact .non
  | _, _, _, .bl b, e => by cases e; exact .bl b
  | _, _, _, .int i, e => by cases e; exact .int i
  | _, _, _, .str x, e => by cases e; exact .str x
  | _, _, _, .ref a, e => by cases e
  | _, _, _, .ty a, e => by cases e
  | _, .lst ds, _, .lst h r, e => by
    rw [Dt.py] at e
    cases q : Dt.pys ds with
    | none => rw [q] at e; cases e
    | some ps => rw [q] at e; cases e; exact .lst (SqL.of (s _ _ h)) (Reps.dp s r q)
  | _, .tup ds, _, .tup h r, e => by
    rw [Dt.py] at e
    cases q : Dt.pys ds with
    | none => rw [q] at e; cases e
    | some ps => rw [q] at e; cases e; exact .tup (SqT.of (s _ _ h)) (Reps.dp s r q)
  | _, .fls ds, _, .fls h r, e => by
    rw [Dt.py] at e
    cases q : Dt.pys ds with
    | none => rw [q] at e; cases e
    | some ps => rw [q] at e; cases e; exact .lst (s.l h) (Reps.dp s r q)
  | _, _, _, .ins _ _ _, e => by cases e
theorem Reps.dp {K : Frag} {T H : Hp} (s : Sub T H) : ∀ {vs : List V} {ds : List Dt} {ps : List PyData}, Reps K T vs ds → Dt.pys ds = some ps → DpAll K H vs ps
  | _, _, _, .nil, e => by cases e; exact .nil
  | _, d :: ds, _, .cons h r, e => by
    rw [Dt.pys] at e
    cases q : d.py with
    | none => rw [q] at e; cases e
    | some p =>
      cases q2 : Dt.pys ds with
      | none => rw [q, q2] at e; cases e
      | some ps => rw [q, q2] at e; cases e; exact .cons (Rep.dp s h q) (Reps.dp s r q2)
end
/-- a cell that is a list, as data -/
def PyOf (μ : Mem) (d : Dt) (p : PyData) : Prop := d.py = some p ∨ ∃ ds ps, IsLst μ d ds ∧ Dt.pys ds = some ps ∧ p = .list ps
theorem PyOf.at {d : Dt} {p : PyData} {v : V} (h : PyOf μ d p) (M : Mst K T μ H) (r : Rep K T v d) : Dp K H v p := by
  rcases h with h | ⟨ds, ps, h, e, rfl⟩
  · exact r.dp M.sub h
  · obtain ⟨a, xs, rfl, ha, ra⟩ := h.at M r
    exact .lst (SqL.of ha) (Reps.dp M.sub ra e)
theorem rw_eqD {d e : Dt} {p q : PyData} {W : Dt → Mem → Prop} (h1 : PyOf μ d p) (h2 : PyOf μ e q) (s1 : SeqAt.shaped p = true) (s2 : SeqAt.shaped q = true) (w : W (.bl (PyData.eqv p q)) μ) : RW2 K μ (rEqD K) d e W := fun T H x y M r1 r2 Q F =>
  ⟨p, q, h1.at M r1, h2.at M r2, s1, s2, F T _ H _ μ w (Step.refl _ _ _) M (.bl _)⟩
theorem rw_neD {d e : Dt} {p q : PyData} {W : Dt → Mem → Prop} (h1 : PyOf μ d p) (h2 : PyOf μ e q) (s1 : SeqAt.shaped p = true) (s2 : SeqAt.shaped q = true) (w : W (.bl (!PyData.eqv p q)) μ) : RW2 K μ (rNeD K) d e W := fun T H x y M r1 r2 Q F =>
  ⟨p, q, h1.at M r1, h2.at M r2, s1, s2, F T _ H _ μ w (Step.refl _ _ _) M (.bl _)⟩
/-! ### isinstance -/
inductive TyD (μ : Mem) : Dt → String → Prop
  | non : TyD μ .non "NoneType"
  | bl (b : Bool) : TyD μ (.bl b) "bool"
  | int (i : Int) : TyD μ (.int i) "int"
  | str (x : Str) : TyD μ (.str x) "str"
  | lst (ds : List Dt) : TyD μ (.lst ds) "list"
  | tup (ds : List Dt) : TyD μ (.tup ds) "tuple"
  | lstC {a : Addr} {c : Nat} {ds : List Dt} (h : μ[c]? = some (a, .lst ds)) : TyD μ (.ref a) "list"
  | dK {a : Addr} {c : Nat} {kvs : List (Key × Dt)} (h : μ[c]? = some (a, .dK kvs)) : TyD μ (.ref a) "dict"
  | dT {a : Addr} {c : Nat} {kvs : List (List Key × Dt)} (h : μ[c]? = some (a, .dT kvs)) : TyD μ (.ref a) "dict"
theorem TyD.at {d : Dt} {t : String} {v : V} (h : TyD μ d t) (M : Mst K T μ H) (r : Rep K T v d) : TyX K H v (.type t) := by
  cases h with
  | non => obtain rfl := r.non_inv; exact .base .non
  | bl b => obtain rfl := r.bl_inv; exact .base (.bl b)
  | int b => obtain rfl := r.int_inv; exact .base (.int b)
  | str b => obtain rfl := r.str_inv; exact .base (.str b)
  | lst ds => obtain ⟨a, xs, rfl, h1, _⟩ := r.lst_inv; exact .base (.lst (M.sub _ _ h1))
  | tup ds => obtain ⟨a, xs, rfl, h1, _⟩ := r.tup_inv; exact .base (.tup (M.sub _ _ h1))
  | lstC hc => obtain rfl := r.ref_inv; obtain ⟨vs, h1, _⟩ := M.get hc; exact .base (.lst h1)
  | dK hc => obtain rfl := r.ref_inv; obtain ⟨vs, h1, _⟩ := M.get hc; exact .base (.dK h1)
  | dT hc => obtain rfl := r.ref_inv; obtain ⟨vs, h1, _⟩ := M.get hc; exact .base (.dT h1)
theorem rw_isi {d : Dt} {t n : String} {b : Bool} {W : Dt → Mem → Prop} (h : TyD μ d t) (hk : kitB t n = some b) (w : W (.bl b) μ) : RWL K μ (rIsi K) [d, .ty n] W := fun T H xs M r Q F => by
  obtain ⟨v, us, rfl, r1, r2⟩ := r.cons_inv
  obtain ⟨u, us', rfl, r3, r4⟩ := r2.cons_inv
  obtain rfl := r4.nil_inv
  obtain rfl := r3.ty_inv
  exact ⟨v, .ty n, _, _, b, rfl, .ty n, h.at M r1, kit_ty hk, F T _ H _ μ w (Step.refl _ _ _) M (.bl b)⟩
/-! ### sources -/
theorem src_zip {a b : Addr} {xs ys : List V} {ds es : List Dt} (ha : SqL K T a xs) (hb : SqL K T b ys) (ra : Reps K T xs ds) (rb : Reps K T ys es) : Src K T (Itz K a b) ((ds.zip es).map fun p => .tup [p.1, p.2]) where
  go := fun T' H' i s1 s2 hi => by
    rw [List.length_map, List.length_zip] at hi
    have h1 : i < xs.length := by rw [ra.length]; omega
    have h2 : i < ys.length := by rw [rb.length]; omega
    exact ⟨xs, ys, xs[i], ys[i], s2.l (s1.l ha), s2.l (s1.l hb), List.getElem?_eq_getElem h1, List.getElem?_eq_getElem h2⟩
  stop := fun T' H' s1 s2 => ⟨xs, ys, s2.l (s1.l ha), s2.l (s1.l hb), by rw [List.length_map, List.length_zip, ra.length, rb.length]; omega⟩
  yld := fun T' H' i x H'' y s1 s2 hy q => by
    obtain ⟨p, u, v, rfl, hp, rfl, h1, h2⟩ := q
    rw [List.getElem?_map] at hy
    cases e : (ds.zip es)[i]? with
    | none => rw [e] at hy; cases hy
    | some pr =>
      rw [e] at hy
      cases hy
      obtain ⟨e1, e2⟩ := List.getElem?_zip_eq_some.mp e
      obtain ⟨u', h3, r3⟩ := ra.get e1
      obtain ⟨v', h4, r4⟩ := rb.get e2
      have h5 := h1 xs (s2.l (s1.l ha))
      have h6 := h2 ys (s2.l (s1.l hb))
      rw [h3] at h5
      rw [h4] at h6
      cases h5
      cases h6
      have ht : T' p = none := by
        cases q : T' p with
        | none => rfl
        | some o => rw [s2 _ _ q] at hp; cases hp
      have g : Sub T' (upd T' p (.tup [u, v])) := fun b o e => by rw [upd_ne (ne_of_none e ht)]; exact e
      exact .inr ⟨p, _, hp, rfl, .tup upd_same (.cons ((r3.mono s1).mono g) (.cons ((r4.mono s1).mono g) .nil))⟩
theorem wpi_zip {ta : TA} {W : List Dt → Mem → Prop} (h : WPA K Y ρ μ ta fun ds μ1 => ∃ xs ys, ds = [.lst xs, .lst ys] ∧ W ((xs.zip ys).map fun p => .tup [p.1, p.2]) μ1) : WPI K Y ρ μ (iZip K ta) W := fun T σ H M L N R F =>
  h T σ H M L N _ fun T1 vs H1 ds μ1 ⟨xs, ys, e, w⟩ S1 M1 r1 => by
    subst e
    obtain ⟨v, us, rfl, r2, r3⟩ := r1.cons_inv
    obtain ⟨u, us', rfl, r4, r5⟩ := r3.cons_inv
    obtain rfl := r5.nil_inv
    obtain ⟨a, xa, rfl, ha, ra⟩ := r2.lst_inv
    obtain ⟨b, xb, rfl, hb, rb⟩ := r4.lst_inv
    exact ⟨a, b, xa, xb, rfl, SqL.of (M1.sub _ _ ha), SqL.of (M1.sub _ _ hb), F T1 _ H1 _ μ1 w S1 M1 (src_zip (SqL.of ha) (SqL.of hb) ra rb)⟩
theorem src_enum {a : Addr} {xs : List V} {ds : List Dt} (ha : SqL K T a xs) (ra : Reps K T xs ds) : Src K T (Ite K a) (ds.zipIdx.map fun p => .tup [.int (p.2 : Int), p.1]) where
  go := fun T' H' i s1 s2 hi => by
    rw [List.length_map, List.length_zipIdx] at hi
    have h1 : i < xs.length := by rw [ra.length]; omega
    exact ⟨xs, xs[i], s2.l (s1.l ha), List.getElem?_eq_getElem h1⟩
  stop := fun T' H' s1 s2 => ⟨xs, s2.l (s1.l ha), by rw [List.length_map, List.length_zipIdx, ra.length]; omega⟩
  yld := fun T' H' i x H'' y s1 s2 hy q => by
    obtain ⟨p, u, rfl, hp, rfl, h1⟩ := q
    rw [List.getElem?_map, List.getElem?_zipIdx] at hy
    cases e : ds[i]? with
    | none => rw [e] at hy; cases hy
    | some d =>
      rw [e] at hy
      cases hy
      obtain ⟨u', h3, r3⟩ := ra.get e
      have h5 := h1 xs (s2.l (s1.l ha))
      rw [h3] at h5
      cases h5
      have ht : T' p = none := by
        cases q : T' p with
        | none => rfl
        | some o => rw [s2 _ _ q] at hp; cases hp
      have g : Sub T' (upd T' p (.tup [.int (i : Nat), u])) := fun b o e => by rw [upd_ne (ne_of_none e ht)]; exact e
      refine .inr ⟨p, _, hp, rfl, .tup upd_same (.cons ?_ (.cons ((r3.mono s1).mono g) .nil))⟩
      have e0 : ((0 + i : Nat) : Int) = (i : Int) := by omega
      show Rep _ _ _ (.int ((0 + i : Nat) : Int))
      rw [e0]
      exact .int _
theorem wpi_enum {ta : TA} {W : List Dt → Mem → Prop} (h : WPA K Y ρ μ ta fun ds μ1 => ∃ xs, ds = [.lst xs] ∧ W (xs.zipIdx.map fun p => .tup [.int (p.2 : Int), p.1]) μ1) : WPI K Y ρ μ (iEnum K ta) W := fun T σ H M L N R F =>
  h T σ H M L N _ fun T1 vs H1 ds μ1 ⟨xs, e, w⟩ S1 M1 r1 => by
    subst e
    obtain ⟨v, us, rfl, r2, r3⟩ := r1.cons_inv
    obtain rfl := r3.nil_inv
    obtain ⟨a, xa, rfl, ha, ra⟩ := r2.lst_inv
    exact ⟨a, xa, rfl, SqL.of (M1.sub _ _ ha), F T1 _ H1 _ μ1 w S1 M1 (src_enum (SqL.of ha) ra)⟩
/-! ### properties, classmethods, constants -/
theorem wp_prop {C : Addr} {s : DSp} {E : XK} {ta : TE} {W : Dt → Mem → Prop} (h : WP K Y ρ μ ta fun d μ1 => ∃ (c : Nat) (a : Addr) (fs : List (Str × Dt)), d = .ref a ∧ μ1[c]? = some (a, .ins C fs) ∧ s [.ref a] μ1 W noX) : WP K Y ρ μ (tProp C (spD K s) [] E ta) W := fun T σ H M L N Q F =>
  h T σ H M L N _ fun T1 x H1 d μ1 ⟨c, a, fs, e, hc, w⟩ S1 M1 r1 => by
    subst e
    obtain rfl := r1.ref_inv
    obtain ⟨dx, us, h1, h2⟩ := M1.get hc
    exact ⟨a, dx, us, rfl, h1, T1, μ1, _, W, noX, M1, .cons (.ref a) .nil, w, F.go S1 fun _ _ w => w, finX_no⟩
theorem wp_cmeth {C : Addr} {s : DSp} {E : XK} {ta : TE} {t : TA} {W : Dt → Mem → Prop} (h : WP K Y ρ μ ta fun d μ1 => d = .ref C ∧ WPA K Y ρ μ1 t fun ds μ2 => s (.ref C :: ds) μ2 W noX) : WP K Y ρ μ (ClX.tCMeth C (spD K s) E ta t) W := fun T σ H M L N Q F =>
  h T σ H M L N _ fun T1 x H1 d μ1 ⟨e, w⟩ S1 M1 r1 => by
    subst e
    obtain rfl := r1.ref_inv
    exact ⟨rfl, w T1 σ H1 M1 (L.mono S1.grow) (N.go S1) _ fun T2 vs H2 ds μ2 w2 S2 M2 r2 => ⟨T2, μ2, _, W, noX, M2, .cons (.ref C) r2, w2, F.go (S1.trans S2) fun _ _ w => w, finX_no⟩⟩
end
end Ml

/-! Ml7: sorted(..) of data, any length. -/
namespace Ml
open PySem L2 PySem.W PyProof.Rows
def pyd (d : Dt) : PyData := d.py.getD .none
/-- the sorted list of data -/
def sortD (ds : List Dt) : List Dt := ds.mergeSort (dataLe false pyd)
structure Sorts (ds : List Dt) : Prop where
  py : ∀ d ∈ ds, d.py.isSome = true
  al : AllAlike (ds.map pyd)
  ok : Sortable (ds.map pyd)
  dp : ∀ d ∈ ds, (pyd d).depth ≤ 50
  len : ds.length ≤ 1000000
def rSortD (K : Frag) : List V → Hp → VK → Prop := fun vs H Q => ∃ (a : Addr) (xs : List V) (ds : List Dt) (P : V → Dt → Prop), vs = [V.ref a] ∧ SqL K H a xs ∧ Paired P xs ds ∧ (∀ x d, P x d → d.py.isSome = true → Dp K H x (pyd d)) ∧ Sorts ds ∧
  ∀ (ys : List V) (p : Addr), Paired P ys (sortD ds) → ys.length = xs.length → H p = none → Q (.ref p) (upd H p (.lst ys))
theorem paired_each {α β : Type} {R : α → β → Prop} : ∀ {as : List α} {bs : List β}, Paired R as bs → EachIs R as bs
  | _, _, .nil => .nil
  | _, _, .cons h t => .cons h (paired_each t)
theorem cr_sortedD {X : Cx} (hu : X.A.units + 64 < cLine) : CallR X (.builtin "sorted") (rSortD X.K) := by
  intro pins s σ H vs us Q I r h
  obtain ⟨a, xs, ds, P, rfl, hs, hP, hD, S, q⟩ := h
  obtain ⟨its, rv, hl, hz⟩ := I.list hs
  rw [Vals.ref1 r]
  have e1 : EachIs (fun (u : Value) (d : Dt) => ∃ x, RelV x u ∧ P x d) its ds := by
    clear hl hz hD q S hs r
    induction rv generalizing ds with
    | nil => cases hP; exact .nil
    | @cons x u xs us ru t ih =>
      cases hP with
      | @cons _ d _ ds hp hq => exact .cons ⟨x, ru, hp⟩ (ih ds hq)
  have e2 : EachIs (fun (u : Value) (d : Dt) => ∃ as, Reads s.heap u (pyd d) as) its ds := by
    have key : ∀ d ∈ ds, d.py.isSome = true := S.py
    clear hl hz q S hs rv hP
    induction e1 with
    | nil => exact .nil
    | @cons u d us ds hu t ih =>
      obtain ⟨x, ru, hp⟩ := hu
      exact .cons (Dp.reads I (pyd d) x u (hD x d hp (key d List.mem_cons_self)) ru) (ih fun d hd => key d (List.mem_cons_of_mem _ hd))
  refine sorted_data hl.isList e1 e2 S.al S.ok (Nat.le_trans S.len (by decide)) (fun d hd => by have := S.dp d hd; omega) fun out ho eo => ?_
  have key : ∃ ys, Vals ys out ∧ Paired P ys (sortD ds) := by
    clear q
    unfold sortD
    revert ho
    generalize ds.mergeSort (dataLe false pyd) = m at eo
    intro ho
    clear ho
    induction eo with
    | nil => exact ⟨[], .nil, .nil⟩
    | @cons u d us ms hu t ih =>
      obtain ⟨x, ru, hp⟩ := hu
      obtain ⟨ys, h1, h2⟩ := ih
      exact ⟨x :: ys, .cons ru h1, .cons hp h2⟩
  obtain ⟨ys, h1, h2⟩ := key
  obtain ⟨ep, he'⟩ := PyProof.Rows.sortedAll_at s.heap its out.toArray
  have hlen : ys.length = xs.length := by rw [h1.length, ho, ← Paired.length hP]
  exact ⟨.ref _, upd H (s.heap.objs.size + 1) (.lst ys), I.laid (t' := s.toks) (fun _ _ => PyProof.Rows.sortedAll_old) (Nat.le_succ _) ⟨by rw [hlen]; exact hz, out, ep, h1, he'⟩, rfl, q ys _ h2 hlen (I.hok.fresh (Nat.le_succ _))⟩
section
variable {K : Frag} {Y : Wish} {T T1 H H1 : Hp} {μ μ1 : Mem} {ρ : Ro} {σ : L2.St} {D : DE}
theorem reps_paired : ∀ {vs : List V} {ds : List Dt}, Reps K T vs ds → Paired (Rep K T) vs ds
  | _, _, .nil => .nil
  | _, _, .cons h r => .cons h (reps_paired r)
theorem paired_reps : ∀ {vs : List V} {ds : List Dt}, Paired (Rep K T) vs ds → Reps K T vs ds
  | _, _, .nil => .nil
  | _, _, .cons h r => .cons h (paired_reps r)
theorem rw_sorted {d : Dt} {ds : List Dt} {W : Dt → Mem → Prop} (h : IsLst μ d ds) (S : Sorts ds) (w : W (.lst (sortD ds)) μ) : RWL K μ (rSortD K) [d] W := fun T H xs M r Q F => by
  obtain ⟨v, us, rfl, r1, r2⟩ := r.cons_inv
  obtain rfl := r2.nil_inv
  obtain ⟨a, ys, rfl, ha, ra⟩ := h.at M r1
  refine ⟨a, ys, ds, Rep K T, rfl, SqL.of ha, reps_paired ra, fun x d r e => ?_, S, fun zs p hz _ hp => ?_⟩
  · obtain ⟨p, hp⟩ := Option.isSome_iff_exists.mp e
    have e2 : pyd d = p := by unfold pyd; rw [hp]; rfl
    rw [e2]
    exact r.dp M.sub hp
  · obtain ⟨M2, S2⟩ := M.lay (o := .lst zs) hp
    exact F _ _ _ _ μ w S2 M2 (.lst upd_same ((paired_reps hz).mono S2.grow))
/-- .. as a cell -/
theorem rw_sortedC {d : Dt} {ds : List Dt} {W : Dt → Mem → Prop} (h : IsLst μ d ds) (S : Sorts ds) (w : ∀ p, p ∉ dom μ → W (.ref p) ((p, .lst (sortD ds)) :: μ)) : RWL K μ (rSortD K) [d] W := fun T H xs M r Q F => by
  obtain ⟨v, us, rfl, r1, r2⟩ := r.cons_inv
  obtain rfl := r2.nil_inv
  obtain ⟨a, ys, rfl, ha, ra⟩ := h.at M r1
  refine ⟨a, ys, ds, Rep K T, rfl, SqL.of ha, reps_paired ra, fun x d r e => ?_, S, fun zs p hz _ hp => ?_⟩
  · obtain ⟨p, hp⟩ := Option.isSome_iff_exists.mp e
    have e2 : pyd d = p := by unfold pyd; rw [hp]; rfl
    rw [e2]
    exact r.dp M.sub hp
  · obtain ⟨M2, S2⟩ := M.cell (m := .lst (sortD ds)) (o := .lst zs) hp ⟨zs, upd_same, paired_reps hz⟩
    exact F _ _ _ _ _ (w p (M.notin hp)) S2 M2 (.ref p)
end
/-! ### the order in plain words -/
theorem sortD_map {α : Type} (enc : α → Dt) (le : α → α → Bool) {xs : List α} (h : ∀ a ∈ xs, ∀ b ∈ xs, le a b = dataLe false pyd (enc a) (enc b)) : sortD (xs.map enc) = (xs.mergeSort le).map enc := (sort_maps enc h).symm
theorem pyd_tup {ds : List Dt} {ps : List PyData} (h : Dt.pys ds = some ps) : pyd (.tup ds) = .tuple ps := by
  unfold pyd
  rw [Dt.py, h]
  rfl
theorem pys_ints : ∀ ns : List Int, Dt.pys (ns.map .int) = some (ns.map .int)
  | [] => rfl
  | n :: ns => by rw [List.map_cons, Dt.pys, Dt.py, pys_ints ns]; rfl
theorem sorts_ints (ns : List Int) (h : ns.length ≤ 1000000) : Sorts (ns.map .int) where
  py := fun d hd => by obtain ⟨n, _, rfl⟩ := List.mem_map.mp hd; rfl
  al := by rw [List.map_map]; exact AllAlike.of (enc := fun n => pyd (.int n)) fun _ _ => rfl
  ok := by rw [List.map_map]; exact Sortable.others (enc := fun n => pyd (.int n)) fun n => ⟨(fun z => by cases z), (fun xs z => by cases z)⟩
  dp := fun d hd => by obtain ⟨n, _, rfl⟩ := List.mem_map.mp hd; exact Nat.zero_le _
  len := by rw [List.length_map]; exact h
theorem dataLe_ints (a b : Int) : dataLe false pyd (.int a) (.int b) = decide (a ≤ b) := by
  have h := congrFun (congrFun (dataLe_int (β := Int) id) a) b
  exact h
theorem sortD_ints (ns : List Int) : sortD (ns.map .int) = (ns.mergeSort fun a b => decide (a ≤ b)).map .int := sortD_map _ _ fun a _ b _ => (dataLe_ints a b).symm
/-- tuples of ints -/
def tupI (ns : List Int) : Dt := .tup (ns.map .int)
theorem pyd_tupI (ns : List Int) : pyd (tupI ns) = .tuple (ns.map .int) := pyd_tup (pys_ints ns)
theorem depth_all_ints : ∀ ns : List Int, PyData.depthAll (ns.map .int) = 0 := PySem.W.depth_ints
theorem sorts_tups {α : Type} (f : α → List Int) (xs : List α) (h0 : ∀ x ∈ xs, f x ≠ []) (h : xs.length ≤ 1000000) : Sorts (xs.map fun x => tupI (f x)) where
  py := fun d hd => by
    obtain ⟨x, _, rfl⟩ := List.mem_map.mp hd
    show ((Dt.pys ((f x).map Dt.int)).map PyData.tuple).isSome = true
    rw [pys_ints]; rfl
  al := by
    intro d hd d' hd'
    obtain ⟨e, he, rfl⟩ := List.mem_map.mp hd
    obtain ⟨e', he', rfl⟩ := List.mem_map.mp hd'
    obtain ⟨x, _, rfl⟩ := List.mem_map.mp he
    obtain ⟨y, _, rfl⟩ := List.mem_map.mp he'
    rw [pyd_tupI, pyd_tupI, alike]
    exact alike_ints _ _
  ok := .inl fun d hd => by
    obtain ⟨e, he, rfl⟩ := List.mem_map.mp hd
    obtain ⟨x, hx, rfl⟩ := List.mem_map.mp he
    rw [pyd_tupI]
    cases q : f x with
    | nil => exact absurd q (h0 x hx)
    | cons n ns => exact ⟨_, _, rfl⟩
  dp := fun d hd => by
    obtain ⟨x, _, rfl⟩ := List.mem_map.mp hd
    rw [pyd_tupI, PyData.depth, depth_all_ints]
    decide
  len := by rw [List.length_map]; exact h
/-- lexicographic ≤ -/
def lexLe : List Int → List Int → Bool
  | [], _ => true
  | _ :: _, [] => false
  | a :: l, b :: m => if a = b then lexLe l m else decide (a < b)
theorem toks_lt : ∀ (l m : List Int), PyProof.Rows.lexLt itemOrd (keyToksAll (l.map .int)) (keyToksAll (m.map .int)) = !lexLe m l
  | [], [] => by decide
  | [], b :: m => by
    show PyProof.Rows.lexLt itemOrd [.inl 0] (.inl 1 :: _) = _
    rw [lex_atom (by decide)]
    show _ = !false
    rw [lex_one]
    decide
  | a :: l, [] => by
    show PyProof.Rows.lexLt itemOrd (.inl 1 :: _) [.inl 0] = _
    rw [lex_atom (by decide)]
    show _ = !true
    rw [lex_one]
    decide
  | a :: l, b :: m => by
    show PyProof.Rows.lexLt itemOrd (keyToksAll (.int a :: l.map .int)) (keyToksAll (.int b :: m.map .int)) = !lexLe (b :: m) (a :: l)
    by_cases e : a = b
    · subst e
      rw [dataLt_all_yes (by rfl) (by simp [PyData.eqv]), toks_lt l m]
      show _ = !(if a = a then lexLe m l else _)
      rw [if_pos rfl]
    · rw [dataLt_all_no (by rfl) (by simp [PyData.eqv, e]), dataLt_int]
      show _ = !(if b = a then _ else decide (b < a))
      rw [if_neg fun z => e z.symm]
      by_cases h : a < b
      · have h2 : ¬ b < a := by omega
        simp [h, h2]
      · have h2 : b < a := by omega
        simp [h, h2]
theorem dataLe_tupI (l m : List Int) : dataLe false pyd (tupI l) (tupI m) = lexLe l m := by
  rw [dataLe_eq]
  show (!dataLt (pyd (tupI m)) (pyd (tupI l))) = _
  rw [pyd_tupI, pyd_tupI, dataLt_tuple, toks_lt]
  simp
theorem sortD_tups {α : Type} (f : α → List Int) (xs : List α) : sortD (xs.map fun x => tupI (f x)) = (xs.mergeSort fun a b => lexLe (f a) (f b)).map fun x => tupI (f x) := sortD_map _ _ fun a _ b _ => (dataLe_tupI _ _).symm
end Ml

/-! Ml8: calls by name. -/
namespace Ml
open PySem L2 PySem.W PyProof.Rows
/-- parts by place -/
def gx {α : Type} (z : α) (idx : List Nat) (as bs : List α) : List α := idx.map fun i => (as ++ bs).getD i z
theorem rel_getD {R : V → Value → Prop} {z : V} {z' : Value} (hz : R z z') : ∀ {vs : List V} {us : List Value}, Paired R vs us → ∀ i, R (vs.getD i z) (us.getD i z')
  | _, _, .nil, i => by simpa using hz
  | _, _, .cons h t, 0 => by simpa using h
  | _, _, .cons h t, i + 1 => by simpa using rel_getD hz t i
theorem gx_vals {idx : List Nat} {vs zs : List V} {us ws : List Value} (h : Vals vs us) (g : Vals zs ws) : Vals (gx V.non idx vs zs) (gx Value.none idx us ws) := by
  unfold gx
  have hp := Paired.app h g
  induction idx with
  | nil => exact .nil
  | cons i idx ih => exact .cons (rel_getD (R := RelV) (show RelV V.non Value.none from rfl) hp i) ih
theorem kbn {K : Frag} {fd : FuncData} {ps : List Str} {n : Nat} {ks : List Str} (idx : List Nat) (h : ∀ (s : Shared) (us ws : List Value), us.length = n → ws.length = ks.length → BindsTo s fd { pos := us, kw := ks.zip ws } (ps.zip (gx Value.none idx us ws))) : KBn K fd ps n ks (gx Value.none idx) (gx V.non idx) :=
  ⟨fun s us ws _ h1 h2 => h s us ws h1 h2, fun h g => gx_vals h g⟩
section
variable {K : Frag} {T : Hp}
theorem reps_getD : ∀ {vs : List V} {ds : List Dt}, Reps K T vs ds → ∀ i, Rep K T (vs.getD i .non) (ds.getD i .non)
  | _, _, .nil, i => by simpa using .non
  | _, _, .cons h t, 0 => by simpa using h
  | _, _, .cons h t, i + 1 => by simpa using reps_getD t i
theorem gx_reps {idx : List Nat} {vs zs : List V} {ds es : List Dt} (h : Reps K T vs ds) (g : Reps K T zs es) : Reps K T (gx V.non idx vs zs) (gx Dt.non idx ds es) := by
  unfold gx
  have hp := h.append g
  induction idx with
  | nil => exact .nil
  | cons i idx ih => exact .cons (reps_getD hp i) ih
end
/-! ### f(k = ..), o.m(k = ..), C.m(k = ..) -/
theorem pe_callN0 {X : Cx} {CX : CXT} {k : Nat} {f : Addr} {fd : FuncData} {ps ks : List Str} {sp : Sp} {E : XK} {x : Str} {p pos : Pos} {kws : List Keyword} {tk : TA} {g : List Value → List Value → List Value} {gV : List V → List V → List V}
    (F : FnOk X.prog X.w X.K X.mg X.base CX k f fd ps sp) (hr : Room k X.A) (hg : Gl X x) (hm : X.mg x = some (.ref f)) (hk : keepIn X.K (.ref f) = true) (hb : KBn X.K fd ps 0 ks g gV) (hx : Passes CX X E) (hkw : PK X kws tk)
    (hall : ((backToKw pos (keywordEach kws X.env)).all fun x => x.fst.isSome) = true := by rfl) (hks : List.filterMap (fun x => x.fst) (backToKw pos (keywordEach kws X.env)) = ks := by rfl) (hdb : (x == Str.ofString "__debug__") = false := by rfl)
    (hpl : (((backTo pos (starEach [] X.env)).any fun x => x.fst) || (backToKw pos (keywordEach kws X.env)).any fun x => x.fst.isNone) = false := by rfl) : PE X ((Expr.Name x p).Call [] kws pos) (tCallN 0 ks.length sp gV E tNil tk) where
  run := fun pins s σ H Q I h => wpAny_Call_Name_kw (ld_glob I hg hm (callWith_KW0 I.ok.mod.kin hk hall (thn (hkw.run pos pins s σ H (fun zs H2 => ([] : List V).length = 0 ∧ zs.length = ks.length ∧ sp (gV [] zs) H2 Q E) I h)
    fun ws s2 ⟨zs, H2, I2, rz, l1, l2, q2⟩ => ⟨I2.kIn, by rw [hks]; exact run_fnN F hr hb hx I2 Paired.nil rz rfl l2 q2⟩) hpl) hdb)
def tMethN (C : Addr) (m : Str) (n j : Nat) (sp : Sp) (gV : List V → List V → List V) (E : XK) (ta : TE) (t tk : TA) : TE := fun σ H Q => ta σ H fun x H1 => ∃ a dx fs, x = .ref a ∧ H1 a = some (.ins C dx fs) ∧ fs.lookup m = none ∧ t σ H1 fun vs H2 => tk σ H2 fun zs H3 => vs.length = n ∧ zs.length = j ∧ sp (gV (x :: vs) zs) H3 Q E
theorem pe_methN0 {X : Cx} {CX : CXT} {k : Nat} {f C : Addr} {fd : FuncData} {ps ks : List Str} {sp : Sp} {E : XK} {m : Str} {pos apos : Pos} {o : Expr} {kws : List Keyword} {ta : TE} {tk : TA} {g : List Value → List Value → List Value} {gV : List V → List V → List V} {pl : Sem Bool}
    (he : PE X o ta) (c : Cls X.K C) (hm : Meth X.K C m f) (F : FnOk X.prog X.w X.K X.mg X.base CX k f fd ps sp) (hr : Room k X.A) (hb : KBn X.K fd ps 1 ks g gV) (hx : Passes CX X E) (hkw : PK X kws tk)
    (hall : ((backToKw pos (keywordEach kws X.env)).all fun x => x.fst.isSome) = true := by rfl) (hks : List.filterMap (fun x => x.fst) (backToKw pos (keywordEach kws X.env)) = ks := by rfl)
    (hpl : (((backTo pos (starEach [] X.env)).any fun x => x.fst) || (backToKw pos (keywordEach kws X.env)).any fun x => x.fst.isNone) = false := by rfl)
    (ht : eval ((o.Attribute m apos).Call [] kws pos) X.env = (do let ov ← eval o X.env; standAt apos.atName; let (f, first) ← holding [ov] (getMethod ov m pl); callWith pos f first (backTo pos (starEach [] X.env)) (backToKw pos (keywordEach kws X.env))) := by rfl) :
    PE X ((o.Attribute m apos).Call [] kws pos) (tMethN C m 0 ks.length sp gV E ta tNil tk) where
  run := fun pins s σ H Q I h => methodCall_KW (thn (he.run pins s σ H _ I h) fun u s1 ⟨x, H1, I1, rx, a, dx, fs, ex, ea, l, q⟩ => by
    subst ex
    cases rx
    refine getmeth_ok I1 ea c hm l (callWith_KW0 I1.ok.mod.kin hm.kp hall (thn (hkw.run pos pins s1 σ H1 (fun zs H3 => ([] : List V).length = 0 ∧ zs.length = ks.length ∧ sp (gV [V.ref a] zs) H3 Q E) I1 q) fun ws s2 ⟨zs, H2, I2, rz, l1, l2, q2⟩ => ⟨I2.kIn, ?_⟩) hpl)
    rw [hks]
    exact run_fnN F hr hb hx I2 (Paired.cons (show RelV (V.ref a) (Value.ref a) from rfl) Paired.nil) rz rfl l2 q2) ht
theorem pe_methN {X : Cx} {CX : CXT} {k n : Nat} {f C : Addr} {fd : FuncData} {ps ks : List Str} {sp : Sp} {E : XK} {m : Str} {pos apos : Pos} {o e : Expr} {es : List Expr} {kws : List Keyword} {ta : TE} {t tk : TA} {g : List Value → List Value → List Value} {gV : List V → List V → List V} {pl : Sem Bool}
    (he : PE X o ta) (c : Cls X.K C) (hm : Meth X.K C m f) (F : FnOk X.prog X.w X.K X.mg X.base CX k f fd ps sp) (hr : Room k X.A) (hb : KBn X.K fd ps (n + 1) ks g gV) (hx : Passes CX X E) (ha : PA X (e :: es) t) (hkw : PK X kws tk)
    (hall : ((backToKw pos (keywordEach kws X.env)).all fun x => x.fst.isSome) = true := by rfl) (hks : List.filterMap (fun x => x.fst) (backToKw pos (keywordEach kws X.env)) = ks := by rfl)
    (hst : starEach (e :: es) X.env = (false, eval e X.env) :: starEach es X.env := by rfl)
    (hpl : (((backTo pos (starEach (e :: es) X.env)).any fun x => x.fst) || (backToKw pos (keywordEach kws X.env)).any fun x => x.fst.isNone) = false := by rfl)
    (ht : eval ((o.Attribute m apos).Call (e :: es) kws pos) X.env = (do let ov ← eval o X.env; standAt apos.atName; let (f, first) ← holding [ov] (getMethod ov m pl); callWith pos f first (backTo pos (starEach (e :: es) X.env)) (backToKw pos (keywordEach kws X.env))) := by rfl) :
    PE X ((o.Attribute m apos).Call (e :: es) kws pos) (tMethN C m n ks.length sp gV E ta t tk) where
  run := fun pins s σ H Q I h => methodCall_KW (thn (he.run pins s σ H _ I h) fun u s1 ⟨x, H1, I1, rx, a, dx, fs, ex, ea, l, q⟩ => by
    subst ex
    cases rx
    refine getmeth_ok I1 ea c hm l (callWith_KW I1.ok.mod.kin hm.kp hall (thn (ha.run pos pins s1 σ H1 (fun vs H2 => tk σ H2 fun zs H3 => vs.length = n ∧ zs.length = ks.length ∧ sp (gV (V.ref a :: vs) zs) H3 Q E) I1 q) fun us s2 ⟨vs, H2, I2, r, q1⟩ => thn (hkw.run pos pins s2 σ H2 (fun zs H3 => vs.length = n ∧ zs.length = ks.length ∧ sp (gV (V.ref a :: vs) zs) H3 Q E) I2 q1) fun ws s3 ⟨zs, H3, I3, rz, l1, l2, q2⟩ => ⟨I3.kIn, ?_⟩) hpl hst)
    rw [hks]
    exact run_fnN F hr hb hx I3 (Paired.cons (show RelV (V.ref a) (Value.ref a) from rfl) r) rz (by rw [List.length_cons, l1]) l2 q2) ht
def tCMethN (C : Addr) (j : Nat) (sp : Sp) (gV : List V → List V → List V) (E : XK) (ta : TE) (tk : TA) : TE := fun σ H Q => ta σ H fun x H1 => x = V.ref C ∧ tk σ H1 fun zs H2 => zs.length = j ∧ sp (gV [V.ref C] zs) H2 Q E
theorem pe_cmethN0 {X : Cx} {CX : CXT} {k : Nat} {C p g : Addr} {mc : Value} {fd : FuncData} {ps ks : List Str} {sp : Sp} {E : XK} {m : Str} {pos apos : Pos} {o : Expr} {kws : List Keyword} {ta : TE} {tk : TA} {gg : List Value → List Value → List Value} {gV : List V → List V → List V} {pl : Sem Bool}
    (he : PE X o ta) (r : ClX.CRead X.K C mc) (c : ClX.CMet X.K C mc m p g) (F : FnOk X.prog X.w X.K X.mg X.base CX k g fd ps sp) (hr : Room k X.A) (hb : KBn X.K fd ps 1 ks gg gV) (hx : Passes CX X E) (hkw : PK X kws tk)
    (hall : ((backToKw pos (keywordEach kws X.env)).all fun x => x.fst.isSome) = true := by rfl) (hks : List.filterMap (fun x => x.fst) (backToKw pos (keywordEach kws X.env)) = ks := by rfl)
    (hpl : (((backTo pos (starEach [] X.env)).any fun x => x.fst) || (backToKw pos (keywordEach kws X.env)).any fun x => x.fst.isNone) = false := by rfl)
    (ht : eval ((o.Attribute m apos).Call [] kws pos) X.env = (do let ov ← eval o X.env; standAt apos.atName; let (f, first) ← holding [ov] (getMethod ov m pl); callWith pos f first (backTo pos (starEach [] X.env)) (backToKw pos (keywordEach kws X.env))) := by rfl) :
    PE X ((o.Attribute m apos).Call [] kws pos) (tCMethN C ks.length sp gV E ta tk) where
  run := fun pins s σ H Q I h => methodCall_KW (thn (he.run pins s σ H _ I h) fun u s1 ⟨x, H1, I1, rx, ex, q⟩ => by
    subst ex
    cases rx
    refine ClX.getmethcm_ok I1 r c fun s2 I2 => callWith_of hpl (keeps_M c.fi) (PyProof.Rows.evalArgs_kw2_nil hall (thn (hkw.run pos _ s2 σ H1 (fun zs H2 => zs.length = ks.length ∧ sp (gV [V.ref C] zs) H2 Q E) I2 q) fun ws s3 ⟨zs, H3, I3, rz, l2, q2⟩ => ⟨⟨ClX.pin_at I3, I3.kIn⟩, ?_⟩))
    have r2 := hb.rel (Paired.cons (show RelV (V.ref C) (Value.ref C) from rfl) Paired.nil) rz
    rw [hks]
    show wpAny _ _ (call (Value.ref s1.heap.objs.size) [] (ks.zip ws)) _ _ _
    refine thn (Q := EP X ((s1.heap.objs.size, methodObj (Value.ref g) (Value.ref C)) :: pins) σ Q) (wpAny_call (method_call (ClX.pin_at I3) (codeAny_mono (F.run X.A X.stack s3 H3 { pos := [Value.ref C], kw := ks.zip ws } (gg [Value.ref C] ws) (gV [V.ref C] zs) Q E hr (Inv.env0 I3) (hb.to s3 [Value.ref C] ws I3.kIn rfl (by rw [← rz.length]; exact l2)) r2 q2) fun r s' hq => ?_))) fun x x1 y => ClX.unpinE y
    cases r with
    | error e => exact hx _ σ H3 s3 e s' I3 hq
    | ok f => cases f with
      | ret u => exact Inv.after I3 hq
      | _ => exact hq.elim) ht
section
variable {K : Frag} {Y : Wish} {T T1 H H1 : Hp} {μ μ1 : Mem} {ρ : Ro} {σ : L2.St} {D : DE}
theorem wp_callN {s : DSp} {E : XK} {n j : Nat} {idx : List Nat} {t tk : TA} {W : Dt → Mem → Prop} (h : WPA K Y ρ μ t fun ds μ1 => WPA K Y ρ μ1 tk fun es μ2 => ds.length = n ∧ es.length = j ∧ s (gx Dt.non idx ds es) μ2 W noX) : WP K Y ρ μ (tCallN n j (spD K s) (gx V.non idx) E t tk) W := fun T σ H M L N Q F =>
  h T σ H M L N _ fun T1 xs H1 ds μ1 w1 S1 M1 r1 => w1 T1 σ H1 M1 (L.mono S1.grow) (N.go S1) _ fun T2 ys H2 es μ2 ⟨l1, l2, w⟩ S2 M2 r2 => ⟨r1.length.trans l1, r2.length.trans l2, T2, μ2, _, W, noX, M2, gx_reps (r1.mono S2.grow) r2, w, F.go (S1.trans S2) fun _ _ w => w, finX_no⟩
theorem wp_methN {C : Addr} {m : Str} {s : DSp} {E : XK} {n j : Nat} {idx : List Nat} {ta : TE} {t tk : TA} {W : Dt → Mem → Prop} (h : WP K Y ρ μ ta fun d μ1 => ∃ (c : Nat) (a : Addr) (fs : List (Str × Dt)), d = .ref a ∧ μ1[c]? = some (a, .ins C fs) ∧ fs.lookup m = none ∧ WPA K Y ρ μ1 t fun ds μ2 => WPA K Y ρ μ2 tk fun es μ3 => ds.length = n ∧ es.length = j ∧ s (gx Dt.non idx (.ref a :: ds) es) μ3 W noX) :
    WP K Y ρ μ (tMethN C m n j (spD K s) (gx V.non idx) E ta t tk) W := fun T σ H M L N Q F =>
  h T σ H M L N _ fun T1 x H1 d μ1 ⟨c, a, fs, e, hc, hl, w⟩ S1 M1 r1 => by
    subst e
    obtain rfl := r1.ref_inv
    obtain ⟨dx, us, h1, h2⟩ := M1.get hc
    exact ⟨a, dx, us, rfl, h1, (lookup_prep h2 m).1 hl, w T1 σ H1 M1 (L.mono S1.grow) (N.go S1) _ fun T2 xs H2 ds μ2 w2 S2 M2 r2 => w2 T2 σ H2 M2 (L.mono (S1.trans S2).grow) (N.go (S1.trans S2)) _ fun T3 ys H3 es μ3 ⟨l1, l2, w3⟩ S3 M3 r3 => ⟨r2.length.trans l1, r3.length.trans l2, T3, μ3, _, W, noX, M3, gx_reps (.cons (.ref a) (r2.mono S3.grow)) r3, w3, F.go ((S1.trans S2).trans S3) fun _ _ w => w, finX_no⟩⟩
theorem wp_cmethN {C : Addr} {s : DSp} {E : XK} {j : Nat} {idx : List Nat} {ta : TE} {tk : TA} {W : Dt → Mem → Prop} (h : WP K Y ρ μ ta fun d μ1 => d = .ref C ∧ WPA K Y ρ μ1 tk fun es μ2 => es.length = j ∧ s (gx Dt.non idx [.ref C] es) μ2 W noX) : WP K Y ρ μ (tCMethN C j (spD K s) (gx V.non idx) E ta tk) W := fun T σ H M L N Q F =>
  h T σ H M L N _ fun T1 x H1 d μ1 ⟨e, w⟩ S1 M1 r1 => by
    subst e
    obtain rfl := r1.ref_inv
    exact ⟨rfl, w T1 σ H1 M1 (L.mono S1.grow) (N.go S1) _ fun T2 ys H2 es μ2 ⟨l2, w2⟩ S2 M2 r2 => ⟨r2.length.trans l2, T2, μ2, _, W, noX, M2, gx_reps (.cons (.ref C) .nil) r2, w2, F.go (S1.trans S2) fun _ _ w => w, finX_no⟩⟩
end
end Ml

/-! Ml9: what is read off the heap behind the head: facts and defs by paths. -/
namespace Ml
open PySem L2 PySem.W PySem.Calls PyProof.Rows
abbrev gA (x : Str) (K : Frag) : Addr := He.ga K x
abbrev mA (C m : Str) (K : Frag) : Addr := He.ma K (He.ga K C) m
def recA (K : Frag) (p : Addr) (t : String) : Addr := match recIn K p t with
  | some (.ref g :: _) => g
  | _ => 0
abbrev pA (C m : Str) (K : Frag) : Addr := recA K (mA C m K) "property"
abbrev cA (C m : Str) (K : Frag) : Addr := recA K (mA C m K) "classmethod"
structure DefP where
  at_ : Frag → Addr
  name : Str
  qual : Str
  st : Stmt
  dfl : List He.Dv := []
def DefP.dvs (K : Frag) (d : DefP) : List V := d.dfl.map (He.Dv.v K)
def DefP.look (K : Frag) (d : DefP) : He.FnW := match K.lookup (d.at_ K) with
  | some ⟨_, _, .func fd, _⟩ => some (fd.name, fd.qualname, fd.params, fd.body, fd.scope, fd.globals, fd.closure, fd.builtins)
  | _ => none
def DefP.val (d : DefP) : He.FnW := some (d.name, d.qual, defArgs d.st, FuncBody.stmts (defBody d.st), defScope d.st, mainGlobals, [], builtinsNs)
def DefP.ok (K : Frag) (d : DefP) : Bool := keepIn K (.ref (d.at_ K)) && match K.lookup (d.at_ K) with
  | some ⟨_, _, .func fd, _⟩ => codeIn K fd.code d.qual && He.dflB K fd.defaults (d.dvs K)
  | _ => false
def fdOf (K : Frag) (a : Addr) : FuncData := match K.lookup a with
  | some ⟨_, _, .func fd, _⟩ => fd
  | _ => fnOf "" "" { posonlyargs := [], args := [], vararg := none, kwonlyargs := [], kw_defaults := [], kwarg := none, defaults := [] } [] { kind := .function, names := [], isGenerator := false, isCoroutine := false, more := [] } .none .none .none .none none .none .none
theorem DefP.funD {K : Frag} {d : DefP} (e : d.look K = d.val) (c : d.ok K = true) : FunD K d.name d.qual (defArgs d.st) (defBody d.st) (defScope d.st) (d.dvs K) [] (d.at_ K) (fdOf K (d.at_ K)) := by
  unfold DefP.look DefP.val at e
  unfold DefP.ok at c
  obtain ⟨c1, c2⟩ := He.ba c
  unfold fdOf
  cases q : List.lookup (d.at_ K) K with
  | none => rw [q] at e; cases e
  | some o =>
    rw [q] at e c2
    obtain ⟨oc, od, dt, osl⟩ := o
    cases dt with
    | func fd =>
      obtain ⟨n1, n2, n3, n4, n5, n6, n7, n8, n9, n10, n11, n12, n13, n14, n15⟩ := fd
      simp only [Option.some.injEq, Prod.mk.injEq] at e
      obtain ⟨rfl, rfl, rfl, rfl, rfl, rfl, rfl, rfl⟩ := e
      obtain ⟨c3, c4⟩ := He.ba c2
      exact ⟨⟨_, _, _, _, _, _, _, _, _, _, rfl, q, c3, He.dflB_ok c4, .inl rfl⟩, c1⟩
    | _ => cases e
inductive Fc where
  | he (f : He.Fa)
  | prop (C f : Str)
  | cmet (C m : Str)
  | con (C f : Str) (i : Int)
  | kcls (C : Str)
  | exc0 (C : Str)
  | exc1 (C f : Str)
  | isi (C : Str)
def excObj (c : Addr) : Option Obj → Bool
  | some ⟨.type t, _, .cls cd, sl⟩ => decide (t = "type") && (match cd.mro, sl.toList with
    | .ref C' :: bm, [_, _, _, _, some (.builtin n), _] => decide (C' = c) && (decide (n = "ValueError.__new__") && (!cd.hasDel && (cd.hasDict && HandSPX.refsVE bm)))
    | _, _ => false)
  | _ => false
def Fc.ok (K : Frag) : Fc → Bool
  | .he f => f.ok K
  | .prop C f => He.eqO (findIn K (.ref (gA C K)) f) (some (some (.ref (mA C f K)))) && (He.eqO (specialIn K (.ref (mA C f K)) "__get__") (some (some (.builtin "property.__get__"))) && (decide (takesIn K (.ref (mA C f K)) = some true) && match recIn K (mA C f K) "property" with | some (.ref _ :: _) => true | _ => false))
  | .cmet C m => (readsIn K (gA C K) (.type "type") && He.eqO (specialIn K (.ref (gA C K)) "__getattribute__") (some (some (.builtin "type.__getattribute__")))) && ((match findCls K (.ref (gA C K)) (.type "type") m with | some (.get a b c d) => decide (a = .builtin "classmethod.__get__") && (decide (b = .ref (mA C m K)) && (decide (c = .none) && decide (d = .ref (gA C K)))) | _ => false) && ((match recIn K (mA C m K) "classmethod" with | some (.ref _ :: _) => true | _ => false) && fnIn K (cA C m K)))
  | .con C f i => (match findIn K (.ref (gA C K)) f with | some (some (.int j t)) => decide (j = i) && He.eqO (specialIn K (.int j t) "__get__") (some none) | _ => false) && !copiedNames.contains f
  | .kcls C => keepIn K (.ref (gA C K))
  | .exc0 C => decide (typeIn K (.ref (gA C K)) = some (.type "type")) && (readsIn K (gA C K) (.type "type") && (He.eqO (specialIn K (.ref (gA C K)) "__getattribute__") (some (some (.builtin "type.__getattribute__"))) && (match findCls K (.ref (gA C K)) (.type "type") "__init__" with | some (.val a) => decide (a = .builtin "ValueError.__init__") | _ => false)))
  | .exc1 C f => excObj (gA C K) (K.lookup (gA C K)) && ((He.eqO (findIn K (.ref (gA C K)) "__setattr__") (some (some (.builtin "object.__setattr__"))) && (decide (subIn K (.ref (gA C K)) (.type "BaseException") = some true) && (decide (typeIn K (.ref (gA C K)) = some (.type "type")) && keepIn K (.ref (gA C K))))) && (He.eqO (findIn K (.ref (gA C K)) "__init__") (some (some (.ref (mA C "__init__" K)))) && (decide (typeIn K (.ref (mA C "__init__" K)) = some (.type "function")) && He.eqO (findIn K (.ref (gA C K)) f) (some none))))
  | .isi C => (He.Fa.cls C).ok K && (He.eqO (findIn K (.ref (gA C K)) "__class__") (some (some (.builtin "object.__class__"))) && (He.eqO (specialIn K (.builtin "object.__class__") "__get__") (some (some (.builtin "getset_descriptor.__get__"))) && (decide (takesIn K (.builtin "object.__class__") = some true) && decide (mroIn K (gA C K) (.type "object") = some true))))
def obsP (fa : List Fc) (fn : List DefP) (K : Frag) : He.AlD := ((fa.all fun f => f.ok K) && fn.all fun d => d.ok K, fn.map fun d => d.look K)
def valP (fn : List DefP) : He.AlD := (true, fn.map DefP.val)
theorem valP_mk (fn : List DefP) : valP fn = (true, fn.map DefP.val) := rfl
def hookP (n : Nat) (fa : List Fc) (fn : List DefP) : PySem.W.Hook where
  α := He.AlD
  obs := fun s => obsP fa fn (He.frG s.heap.get? (cStatics :: He.asD s.heap.get? n))
  val := fun _ => valP fn
  says := fun _ h => ∃ K : Frag, K.In h ∧ obsP fa fn K = valP fn
  of := fun w s e => ⟨_, He.frG_in, e⟩
  keeps := fun w h h' ⟨K, i, e⟩ k => ⟨K, fun a o q => k a o (i a o q), e⟩
def obP (n : Nat) (fa : List Fc) (fn : List DefP) (s : PySem.W.SharedT) : He.AlD := obsP fa fn (He.frG (HandSHeadRun.getT s) (cStatics :: He.asD (HandSHeadRun.getT s) n))
theorem obP_eq {n : Nat} {fa : List Fc} {fn : List DefP} (s : PySem.W.SharedT) : obP n fa fn s = (hookP n fa fn).obs s.abs := by
  have e : HandSHeadRun.getT s = s.abs.heap.get? := funext (HandSHeadRun.getT_eq s)
  show obsP fa fn (He.frG (HandSHeadRun.getT s) (cStatics :: He.asD (HandSHeadRun.getT s) n)) = _
  rw [e]
  rfl
/-- the world of a law: what the facts say, and the module's names -/
structure Good (fa : List Fc) (fn : List DefP) (K : Frag) (mg : Str → Option Value) : Prop where
  ob : obsP fa fn K = valP fn
  ex : ∃ h : Heap, K.In h ∧ h.Ns mainGlobals mg
section
variable {fa : List Fc} {fn : List DefP} {K : Frag} {mg : Str → Option Value}
theorem Good.fc (G : Good fa fn K mg) (i : Nat) {f : Fc} (h : fa[i]? = some f) : f.ok K = true := by
  have e : (fa.all fun f => f.ok K) = true := (He.ba (show (_ && _) = true from congrArg (·.1) G.ob)).1
  exact List.all_eq_true.mp e f (List.mem_of_getElem? h)
theorem Good.def_ (G : Good fa fn K mg) (i : Nat) {d : DefP} (h : fn[i]? = some d) : FunD K d.name d.qual (defArgs d.st) (defBody d.st) (defScope d.st) (d.dvs K) [] (d.at_ K) (fdOf K (d.at_ K)) := by
  have e : (fn.all fun d => d.ok K) = true := (He.ba (show (_ && _) = true from congrArg (·.1) G.ob)).2
  have e2 : fn.map (fun d => d.look K) = fn.map DefP.val := congrArg (·.2) G.ob
  have e3 : (fn.map (fun d => d.look K))[i]? = (fn.map DefP.val)[i]? := by rw [e2]
  rw [List.getElem?_map, List.getElem?_map, h] at e3
  exact DefP.funD (Option.some.inj e3) (List.all_eq_true.mp e d (List.mem_of_getElem? h))
theorem Good.glo (G : Good fa fn K mg) (i : Nat) {x : Str} (h : fa[i]? = some (.he (.glo x))) : mg x = some (.ref (gA x K)) := by
  obtain ⟨hp, h1, h2⟩ := G.ex
  exact mg_of h1 h2 (of_decide_eq_true (show decide _ = true from G.fc i h))
theorem Good.free (G : Good fa fn K mg) (i : Nat) {x : Str} (h : fa[i]? = some (.he (.free x))) : mg x = none := by
  obtain ⟨hp, h1, h2⟩ := G.ex
  exact mg_none_of h1 h2 (of_decide_eq_true (show decide _ = true from G.fc i h))
theorem Good.int (G : Good fa fn K mg) (i : Nat) {x : Str} {n : Int} (h : fa[i]? = some (.he (.int x n))) : ∃ t, mg x = some (.int n t) := by
  obtain ⟨hp, h1, h2⟩ := G.ex
  have e : (match nsIn K mainGlobals x with
    | some (some (Value.int j tok)) => decide (j = n)
    | _ => false) = true := G.fc i h
  split at e
  · rename_i j t q
    have e := of_decide_eq_true e
    subst e
    exact ⟨t, mg_of h1 h2 q⟩
  · cases e
theorem Good.cls (G : Good fa fn K mg) (i : Nat) {x : Str} (h : fa[i]? = some (.he (.cls x))) : Cls K (gA x K) := by
  obtain ⟨c1, c2⟩ := He.ba (show (_ && _) = true from G.fc i h)
  obtain ⟨c2, c3⟩ := He.ba c2
  obtain ⟨c3, c4⟩ := He.ba c3
  exact ⟨c1, c2, c3, of_decide_eq_true (show decide _ = true from c4)⟩
theorem Good.noat (G : Good fa fn K mg) (i : Nat) {x f : Str} (h : fa[i]? = some (.he (.noat x f))) : NoAttr K (gA x K) f := of_decide_eq_true (p := findIn K (.ref (gA x K)) f = some none) (show decide _ = true from G.fc i h)
theorem Good.meth (G : Good fa fn K mg) (i : Nat) {x m : Str} (h : fa[i]? = some (.he (.meth x m))) : Meth K (gA x K) m (mA x m K) := by
  obtain ⟨c1, c2⟩ := He.ba (show (_ && _) = true from G.fc i h)
  obtain ⟨c2, c3⟩ := He.ba c2
  exact ⟨of_decide_eq_true (show decide _ = true from c1), c2, c3⟩
theorem Good.mkr (G : Good fa fn K mg) (i : Nat) {x : Str} (h : fa[i]? = some (.he (.mkr x))) : Mk K (gA x K) (mA x "__init__" K) := by
  obtain ⟨c1, c2⟩ := He.ba (show (_ && _) = true from G.fc i h)
  obtain ⟨c2, c3⟩ := He.ba c2
  obtain ⟨c3, c4⟩ := He.ba c3
  exact ⟨c1, of_decide_eq_true (show decide _ = true from c2), c3, c4⟩
theorem recA_of {p : Addr} {t : String} (h : (match recIn K p t with | some (.ref _ :: _) => true | _ => false) = true) : ∃ rest, recIn K p t = some (.ref (recA K p t) :: rest) := by
  unfold recA
  split at h
  · rename_i a rest q
    exact ⟨rest, by rw [q]⟩
  · cases h
theorem Good.prop (G : Good fa fn K mg) (i : Nat) {C f : Str} (h : fa[i]? = some (.prop C f)) : PropOf K (gA C K) f (mA C f K) (pA C f K) := by
  obtain ⟨c1, c2⟩ := He.ba (show (_ && _) = true from G.fc i h)
  obtain ⟨c2, c3⟩ := He.ba c2
  obtain ⟨c3, c4⟩ := He.ba c3
  exact ⟨of_decide_eq_true (show decide _ = true from c1), of_decide_eq_true (show decide _ = true from c2), of_decide_eq_true (show decide _ = true from c3), recA_of c4⟩
theorem Good.cmet (G : Good fa fn K mg) (i : Nat) {C m : Str} (h : fa[i]? = some (.cmet C m)) : ClX.CRead K (gA C K) (.type "type") ∧ ClX.CMet K (gA C K) (.type "type") m (mA C m K) (cA C m K) := by
  obtain ⟨c1, c2⟩ := He.ba (show (_ && _) = true from G.fc i h)
  obtain ⟨d1, d2⟩ := He.ba c1
  obtain ⟨c2, c3⟩ := He.ba c2
  obtain ⟨c3, c4⟩ := He.ba c3
  refine ⟨⟨d1, of_decide_eq_true (show decide _ = true from d2)⟩, ?_, recA_of c3, c4⟩
  split at c2
  · rename_i a b c d q
    obtain ⟨e1, e2⟩ := He.ba c2
    obtain ⟨e2, e3⟩ := He.ba e2
    obtain ⟨e3, e4⟩ := He.ba e3
    rw [q, of_decide_eq_true e1, of_decide_eq_true e2, of_decide_eq_true e3, of_decide_eq_true e4]
  · cases c2
theorem Good.con (G : Good fa fn K mg) (i : Nat) {C f : Str} {n : Int} (h : fa[i]? = some (.con C f n)) : ∃ t, Con K (gA C K) f (.int n) (.int n t) := by
  obtain ⟨c1, c2⟩ := He.ba (show (_ && _) = true from G.fc i h)
  split at c1
  · rename_i j t q
    obtain ⟨e1, e2⟩ := He.ba c1
    have e1 := of_decide_eq_true e1
    subst e1
    exact ⟨t, q, ⟨t, rfl⟩, of_decide_eq_true (show decide _ = true from e2), by simpa using c2⟩
  · cases c1
theorem Good.kcls (G : Good fa fn K mg) (i : Nat) {C : Str} (h : fa[i]? = some (.kcls C)) : keepIn K (.ref (gA C K)) = true := G.fc i h
theorem excObj_of {c : Addr} {o : Option Obj} (h : excObj c o = true) : ∃ nm q N bs bm sn sub ab col dd k0 k1 k2 k3 k5, o = some (excClassObj nm q c N bs bm true sn sub ab col dd k0 k1 k2 k3 k5 "ValueError.__new__") ∧ HandSPX.refsVE bm = true := by
  unfold excObj at h
  split at h
  · rename_i t dd cd sl
    obtain ⟨h0, h⟩ := He.ba h
    have h0 := of_decide_eq_true h0
    subst h0
    split at h
    · rename_i C' bm k0 k1 k2 k3 n k5 e1 e2
      obtain ⟨_, h⟩ := He.ba h
      obtain ⟨h1, h⟩ := He.ba h
      obtain ⟨h2, h⟩ := He.ba h
      obtain ⟨h3, h⟩ := He.ba h
      obtain ⟨h4, h5⟩ := He.ba h
      have h1 := of_decide_eq_true h1
      have h2 := of_decide_eq_true h2
      subst h1 h2
      obtain ⟨nm, bs, mro, ns, q, hd, sn, sub, ab, col, hdel⟩ := cd
      simp only at e1 h3 h4
      subst e1
      cases hd with
      | false => cases h4
      | true => cases hdel with
        | true => cases h3
        | false =>
          have e3 : sl = #[k0, k1, k2, k3, some (Value.builtin "ValueError.__new__"), k5] := by
            cases sl with
            | mk l => simp only at e2; rw [e2]
          exact ⟨nm, q, ns, bs, bm, sn, sub, ab, col, dd, k0, k1, k2, k3, k5, by rw [e3], h5⟩
    · cases h
  · cases h
end
end Ml

/-! Ml10: promises by number of arguments, fields, stars, powers. -/
namespace Ml
open PySem L2 PySem.W PySem.Calls PyProof.Rows
abbrev Post := Mem → (Dt → Mem → Prop) → (Addr → List (Str × Dt) → Mem → Prop) → Prop
def sp0 (q : Post) : DSp := fun ds μ W X => ds = [] ∧ q μ W X
def sp1 (q : Dt → Post) : DSp := fun ds μ W X => ∃ a, ds = [a] ∧ q a μ W X
def sp2 (q : Dt → Dt → Post) : DSp := fun ds μ W X => ∃ a b, ds = [a, b] ∧ q a b μ W X
def sp3 (q : Dt → Dt → Dt → Post) : DSp := fun ds μ W X => ∃ a b c, ds = [a, b, c] ∧ q a b c μ W X
def sp4 (q : Dt → Dt → Dt → Dt → Post) : DSp := fun ds μ W X => ∃ a b c d, ds = [a, b, c, d] ∧ q a b c d μ W X
def sp5 (q : Dt → Dt → Dt → Dt → Dt → Post) : DSp := fun ds μ W X => ∃ a b c d e, ds = [a, b, c, d, e] ∧ q a b c d e μ W X
def sp6 (q : Dt → Dt → Dt → Dt → Dt → Dt → Post) : DSp := fun ds μ W X => ∃ a b c d e f, ds = [a, b, c, d, e, f] ∧ q a b c d e f μ W X
theorem len0 {q : Post} : ∀ ds μ W X, sp0 q ds μ W X → ds.length = 0 := fun _ _ _ _ ⟨h, _⟩ => by rw [h]; rfl
theorem len1 {q : Dt → Post} : ∀ ds μ W X, sp1 q ds μ W X → ds.length = 1 := fun _ _ _ _ ⟨a, h, _⟩ => by rw [h]; rfl
theorem len2 {q : Dt → Dt → Post} : ∀ ds μ W X, sp2 q ds μ W X → ds.length = 2 := fun _ _ _ _ ⟨a, b, h, _⟩ => by rw [h]; rfl
theorem len3 {q : Dt → Dt → Dt → Post} : ∀ ds μ W X, sp3 q ds μ W X → ds.length = 3 := fun _ _ _ _ ⟨a, b, c, h, _⟩ => by rw [h]; rfl
theorem len4 {q : Dt → Dt → Dt → Dt → Post} : ∀ ds μ W X, sp4 q ds μ W X → ds.length = 4 := fun _ _ _ _ ⟨a, b, c, d, h, _⟩ => by rw [h]; rfl
theorem len5 {q : Dt → Dt → Dt → Dt → Dt → Post} : ∀ ds μ W X, sp5 q ds μ W X → ds.length = 5 := fun _ _ _ _ ⟨a, b, c, d, e, h, _⟩ => by rw [h]; rfl
theorem len6 {q : Dt → Dt → Dt → Dt → Dt → Dt → Post} : ∀ ds μ W X, sp6 q ds μ W X → ds.length = 6 := fun _ _ _ _ ⟨a, b, c, d, e, f, h, _⟩ => by rw [h]; rfl
def Dt.isN : Dt → Bool
  | .non => true
  | _ => false
section
variable {μ : Mem} {W : Dt → Mem → Prop} {X : Addr → List (Str × Dt) → Mem → Prop}
theorem in0 {q : Post} (h : q μ W X) : sp0 q [] μ W X := ⟨rfl, h⟩
theorem in1 {q : Dt → Post} {a : Dt} (h : q a μ W X) : sp1 q [a] μ W X := ⟨_, rfl, h⟩
theorem in2 {q : Dt → Dt → Post} {a b : Dt} (h : q a b μ W X) : sp2 q [a, b] μ W X := ⟨_, _, rfl, h⟩
theorem in3 {q : Dt → Dt → Dt → Post} {a b c : Dt} (h : q a b c μ W X) : sp3 q [a, b, c] μ W X := ⟨_, _, _, rfl, h⟩
theorem in4 {q : Dt → Dt → Dt → Dt → Post} {a b c d : Dt} (h : q a b c d μ W X) : sp4 q [a, b, c, d] μ W X := ⟨_, _, _, _, rfl, h⟩
theorem in5 {q : Dt → Dt → Dt → Dt → Dt → Post} {a b c d e : Dt} (h : q a b c d e μ W X) : sp5 q [a, b, c, d, e] μ W X := ⟨_, _, _, _, _, rfl, h⟩
theorem in6 {q : Dt → Dt → Dt → Dt → Dt → Dt → Post} {a b c d e f : Dt} (h : q a b c d e f μ W X) : sp6 q [a, b, c, d, e, f] μ W X := ⟨_, _, _, _, _, _, rfl, h⟩
end
theorem at0 {α : Type} {x : α} {l : List α} : (x :: l)[0]? = some x := rfl
theorem at1 {α : Type} {x y : α} {l : List α} {c : Nat} (h : l[c]? = some x) : (y :: l)[c + 1]? = some x := h
theorem at_set {α : Type} {l : List α} {c : Nat} {x y : α} (h : l[c]? = some y) : (l.set c x)[c]? = some x := List.getElem?_set_self (List.getElem?_eq_some_iff.mp h).1
theorem at_setN {α : Type} {l : List α} {c i : Nat} {x y : α} (h : l[i]? = some y) (n : c ≠ i) : (l.set c x)[i]? = some y := by rw [List.getElem?_set_ne n]; exact h
/-- the field f of d -/
def FldAt (K : Frag) (μ : Mem) (d : Dt) (f : Str) (W : Dt → Prop) : Prop :=
  (∃ (C : Addr) (ns : List Str) (es : List Dt) (e : Dt), d = .ins C ns es ∧ Cls K C ∧ NoAttr K C f ∧ (ns.zip es).lookup f = some e ∧ W e) ∨
  ∃ (c : Nat) (a C : Addr) (fs : List (Str × Dt)) (e : Dt), d = .ref a ∧ μ[c]? = some (a, .ins C fs) ∧ Cls K C ∧ NoAttr K C f ∧ fs.lookup f = some e ∧ W e
section
variable {K : Frag} {Y : Wish} {T T1 H H1 : Hp} {μ μ1 : Mem} {ρ : Ro} {σ : L2.St} {D : DE}
theorem wp_fldX {ta : TE} {f : Str} {W : Dt → Mem → Prop} (h : WP K Y ρ μ ta fun d μ1 => FldAt K μ1 d f fun e => W e μ1) : WP K Y ρ μ (tFld K ta f) W := fun T σ H M L N Q F =>
  h T σ H M L N _ fun T1 x H1 d μ1 w S1 M1 r1 => by
    rcases w with ⟨C, ns, es, e, rfl, cl, na, hl, w⟩ | ⟨c, a, C, fs, e, rfl, hc, cl, na, hl, w⟩
    · obtain ⟨a, dx, us, rfl, h1, h2, h3⟩ := r1.ins_inv
      obtain ⟨v, h4, h5⟩ := (zip_lookup h3 h2 f).2 e hl
      exact ⟨a, C, dx, _, v, rfl, M1.sub _ _ h1, cl, na, h4, F T1 v H1 e μ1 w S1 M1 h5⟩
    · obtain rfl := r1.ref_inv
      obtain ⟨dx, us, h1, h2⟩ := M1.get hc
      obtain ⟨v, h3, h4⟩ := (lookup_prep h2 f).2 e hl
      exact ⟨a, C, dx, us, v, rfl, h1, cl, na, h3, F T1 v H1 e μ1 w S1 M1 h4⟩
theorem fldI {C : Addr} {ns : List Str} {es : List Dt} {f : Str} {e : Dt} {W : Dt → Prop} (cl : Cls K C) (na : NoAttr K C f) (hl : (ns.zip es).lookup f = some e) (w : W e) : FldAt K μ (.ins C ns es) f W := .inl ⟨_, _, _, _, rfl, cl, na, hl, w⟩
theorem fldC {c : Nat} {a C : Addr} {fs : List (Str × Dt)} {f : Str} {e : Dt} {W : Dt → Prop} (hc : μ[c]? = some (a, .ins C fs)) (cl : Cls K C) (na : NoAttr K C f) (hl : fs.lookup f = some e) (w : W e) : FldAt K μ (.ref a) f W := .inr ⟨_, _, _, _, _, rfl, hc, cl, na, hl, w⟩
/-- [*xs, ..] -/
theorem wpa_star {te : TE} {t : TA} {W : List Dt → Mem → Prop} (h : WP K Y ρ μ te fun d μ1 => ∃ ds, IsSq μ1 d ds ∧ WPA K Y ρ μ1 t fun es μ2 => W (ds ++ es) μ2) : WPA K Y ρ μ (StX.tStar K te t) W := fun T σ H M L N Q F =>
  h T σ H M L N _ fun T1 x H1 d μ1 ⟨ds, hs, w⟩ S1 M1 r1 => by
    obtain ⟨a, xs, rfl, ha, ra⟩ := hs.at M1 r1
    exact ⟨a, xs, rfl, ha.symm, w T1 σ H1 M1 (L.mono S1.grow) (N.go S1) _ fun T2 ys H2 es μ2 w2 S2 M2 r2 => F T2 _ H2 _ μ2 w2 (S1.trans S2) M2 ((ra.mono S2.grow).append r2)⟩
/-- a list as data, or as a new cell -/
def RetL (W : Dt → Mem → Prop) (ds : List Dt) (μ : Mem) : Prop := W (.lst ds) μ ∨ ∀ p, p ∉ dom μ → W (.ref p) ((p, .lst ds) :: μ)
theorem wp_tcon {C : Addr} {f : Str} {v : V} {u : Value} {dv : Dt} {ta : TE} {W : Dt → Mem → Prop} (hv : ∀ T, Rep K T v dv) (cn : Con K C f v u) (h : WP K Y ρ μ ta fun d μ1 => ∃ (c : Nat) (a : Addr) (fs : List (Str × Dt)), d = .ref a ∧ μ1[c]? = some (a, .ins C fs) ∧ Cls K C ∧ fs.lookup f = none ∧ W dv μ1) : WP K Y ρ μ (tCon K ta f) W := fun T σ H M L N Q F =>
  h T σ H M L N _ fun T1 x H1 d μ1 ⟨c, a, fs, e, hc, cl, hl, w⟩ S1 M1 r1 => by
    subst e
    obtain rfl := r1.ref_inv
    obtain ⟨dx, us, h1, h2⟩ := M1.get hc
    exact ⟨a, C, dx, us, v, u, rfl, h1, cl, cn, (lookup_prep h2 f).1 hl, F T1 v H1 dv μ1 w S1 M1 (hv T1)⟩
theorem wp_isN {ta : TE} {W : Dt → Mem → Prop} (h : WP K Y ρ μ ta fun d μ1 => W (.bl (d.isN)) μ1) : WP K Y ρ μ (tIsN ta) W := fun T σ H M L N Q F =>
  h T σ H M L N _ fun T1 x H1 d μ1 w S1 M1 r1 => by
    have e : decide (x = V.non) = (d.isN) := by cases r1 <;> rfl
    show Q (.bl (decide (x = V.non))) H1
    rw [e]
    exact F T1 _ H1 _ μ1 w S1 M1 (.bl _)
theorem wp_notN {ta : TE} {W : Dt → Mem → Prop} (h : WP K Y ρ μ ta fun d μ1 => W (.bl (!(d.isN))) μ1) : WP K Y ρ μ (tNotN ta) W := fun T σ H M L N Q F =>
  h T σ H M L N _ fun T1 x H1 d μ1 w S1 M1 r1 => by
    have e : decide (x = V.non) = (d.isN) := by cases r1 <;> rfl
    show Q (.bl (!decide (x = V.non))) H1
    rw [e]
    exact F T1 _ H1 _ μ1 w S1 M1 (.bl _)
end
/-! ### powers of great numbers -/
def CPowB (i j : Int) : Prop := 0 ≤ j ∧ (Builtin.Int.intBits i : Int) * j ≤ 2 ^ 27
theorem op_powB {X : Cx} : OpR X (binaryOp Operator.Pow) (rI CPowB fun i j => V.int (i ^ j.toNat)) := opI fun i j t u s Q E ⟨h1, h2⟩ q => pow_int h1 h2 q
/-! ### how a def takes its arguments -/
section
variable {fa : List Fc} {fn : List DefP} {K : Frag} {mg : Str → Option Value}
theorem Good.binds (G : Good fa fn K mg) (i : Nat) {d : DefP} (h : fn[i]? = some d) (hd : d.dfl = []) {ps : List Str} (hb : ∀ (kV doc pm : Value) (an : Option Addr) (cdv ct : Value) (us : List Value), us.length = ps.length → bindArgs (fnOf d.name d.qual (defArgs d.st) (defBody d.st) (defScope d.st) .none kV doc pm an cdv ct) ⟨us, []⟩ = pure (ps.zip us)) : L2.Binds K (fdOf K (d.at_ K)) ps [] := by
  obtain ⟨⟨oc, od, dV, kV, doc, pm, an, cdv, ct, osl, e, hl, hc, hv, hk⟩, kp⟩ := G.def_ i h
  have e0 : d.dvs K = [] := by unfold DefP.dvs; rw [hd]; rfl
  rw [e0] at hv
  rcases hv with ⟨_, rfl⟩ | ⟨hne, _⟩
  · intro s us _ hlen
    rw [List.append_nil] at hlen ⊢
    rw [e]
    exact .of_eq (hb kV doc pm an cdv ct us hlen)
  · exact absurd rfl hne
theorem Good.kbinds (G : Good fa fn K mg) (i : Nat) {d : DefP} (h : fn[i]? = some d) (hd : d.dfl = []) {ps : List Str} {n : Nat} {ks : List Str} (idx : List Nat) (hb : ∀ (kV doc pm : Value) (an : Option Addr) (cdv ct : Value) (us ws : List Value), us.length = n → ws.length = ks.length → bindArgs (fnOf d.name d.qual (defArgs d.st) (defBody d.st) (defScope d.st) .none kV doc pm an cdv ct) ⟨us, ks.zip ws⟩ = pure (ps.zip (gx Value.none idx us ws))) : KBn K (fdOf K (d.at_ K)) ps n ks (gx Value.none idx) (gx V.non idx) := by
  obtain ⟨⟨oc, od, dV, kV, doc, pm, an, cdv, ct, osl, e, hl, hc, hv, hk⟩, kp⟩ := G.def_ i h
  have e0 : d.dvs K = [] := by unfold DefP.dvs; rw [hd]; rfl
  rw [e0] at hv
  rcases hv with ⟨_, rfl⟩ | ⟨hne, _⟩
  · refine kbn idx fun s us ws h1 h2 => ?_
    rw [e]
    exact .of_eq (hb kV doc pm an cdv ct us ws h1 h2)
  · exact absurd rfl hne
end
end Ml

/-! Ml11: == by an own __eq__, cls(), isinstance of own classes. -/
namespace Ml
open PySem L2 PySem.W PySem.Calls PyProof.Rows
theorem inst_at {X : Cx} {pins : List (Addr × Obj)} {σ : L2.St} {H : Hp} {s : Shared} {a C dx : Addr} {fs : List (Str × V)} (I : L2.Inv X pins σ H s) (h : H a = some (.ins C dx fs)) : ∃ ox od, InstAt s.heap a ox C od := by
  obtain ⟨mA, O, _⟩ := ins_get I.hok h
  obtain ⟨od, ho, _⟩ := lookIn_ns O.ns
  exact ⟨_, some od, ⟨O.obj, rfl, rfl, ho⟩⟩
def rOwnI (K : Frag) (C : Addr) (sp : Sp) (E : XK) : R2 := fun x y H Q => ∃ a dx fs b dy gs, x = .ref a ∧ y = .ref b ∧ H a = some (.ins C dx fs) ∧ H b = some (.ins C dy gs) ∧ sp [x, y] H Q E
theorem op_ownI {X : Cx} {CX : CXT} {C g : Addr} {fd : FuncData} {ps : List Str} {n : Nat} {sp : Sp} {E : XK} {op : CmpOp} (hop : ∀ a b : Value, compareOp op a b = richCompare op a b) {nm : Str} (hn : (cmpInfo op).2.1 = nm) (hm : Meth X.K C nm g)
    (F : FnOk X.prog X.w X.K X.mg X.base CX n g fd ps sp) (hr : Room n X.A) (hb : L2.Binds X.K fd ps []) (hx : Passes CX X E) : OpR X (compareOp op) (rOwnI X.K C sp E) := by
  rintro pins s σ H x y v u Q I rx ry ⟨a, dx, fs, b, dy, gs, rfl, rfl, ha, hb', q⟩
  cases rx
  cases ry
  obtain ⟨ox, od, J⟩ := inst_at I ha
  obtain ⟨oy, oe, J'⟩ := inst_at I hb'
  obtain ⟨m, hF⟩ := Inv.fr I
  rw [hop]
  refine cmp_K hr.units0 hF I.ok.mod.kin J (InstAt.type J') (by unfold notFirst; simp) (by rw [hn]; exact hm.at_) hm.fn (wpAny_mono (run_fn F hr hb .nil hx I (Paired.cons (show RelV (V.ref a) (Value.ref a) from rfl) (Paired.cons (show RelV (V.ref b) (Value.ref b) from rfl) Paired.nil)) (by rw [List.append_nil]; exact q)) ?_ fun _ _ z => z)
  rintro w s' ⟨z', H', I', rz, qz⟩
  exact SlX.cmpback rz ⟨z', H', I', rz, qz⟩
/-- x(): x a name of the def -/
def tMakeV (C : Addr) (sp : Sp) (E : XK) (tv : TE) : TE := fun σ H Q => tv σ H fun c H1 => c = .ref C ∧ ∀ x dx, H1 x = none → H1 dx = none → dx ≠ x → sp [.ref x] (upd (upd H1 dx (.own x)) x (.ins C dx [])) (fun v H2 => v = .non ∧ Q (.ref x) H2) E
theorem pe_makeV {X : Cx} {CX : CXT} {k : Nat} {f C : Addr} {fd : FuncData} {ps : List Str} {sp : Sp} {E : XK} {x : Str} {p pos : Pos} {tv : TE} (hv : PE X (.Name x p) tv) (M : Mk X.K C f) (F : FnOk X.prog X.w X.K X.mg X.base CX k f fd ps sp) (hr : Room (k + 1) X.A) (hb : L2.Binds X.K fd ps []) (hx : Passes CX X E) : PE X (.Call (.Name x p) [] [] pos) (tMakeV C sp E tv) where
  run := fun pins s σ H Q I h => wpAny_Call_Name_kw (thn (hv.run pins s σ H _ I h) fun u s1 ⟨c, H1, I1, rc, ec, q⟩ => by
    subst ec
    cases rc
    exact callWith_K0 I1.kIn M.kp (run_make M F hr hb .nil hx I1 Paired.nil q))
structure IsiC (K : Frag) (C : Addr) : Prop where
  c : Cls K C
  a : findIn K (.ref C) "__class__" = some (some (.builtin "object.__class__"))
  b : specialIn K (.builtin "object.__class__") "__get__" = some (some (.builtin "getset_descriptor.__get__"))
  t : takesIn K (.builtin "object.__class__") = some true
  m : mroIn K C (.type "object") = some true
section
variable {K : Frag} {Y : Wish} {T T1 H H1 : Hp} {μ μ1 : Mem} {ρ : Ro} {σ : L2.St} {D : DE}
theorem rw_own {C : Addr} {s : DSp} {E : XK} {a b : Addr} {i j : Nat} {fs gs : List (Str × Dt)} {W : Dt → Mem → Prop} (h1 : μ[i]? = some (a, .ins C fs)) (h2 : μ[j]? = some (b, .ins C gs)) (h : s [.ref a, .ref b] μ W noX) : RW2 K μ (rOwnI K C (spD K s) E) (.ref a) (.ref b) W := fun T H x y M r1 r2 Q F => by
  obtain rfl := r1.ref_inv
  obtain rfl := r2.ref_inv
  obtain ⟨dx, us, e1, _⟩ := M.get h1
  obtain ⟨dy, vs, e2, _⟩ := M.get h2
  exact ⟨a, dx, us, b, dy, vs, rfl, rfl, e1, e2, T, μ, _, W, noX, M, .cons (.ref a) (.cons (.ref b) .nil), h, F, finX_no⟩
theorem wp_makeV {C : Addr} {s : DSp} {E : XK} {tv : TE} {W : Dt → Mem → Prop} (h : WP K Y ρ μ tv fun d μ1 => d = .ref C ∧ ∀ x, x ∉ dom μ1 → s [.ref x] ((x, .ins C []) :: μ1) (fun d μ2 => d = .non ∧ W (.ref x) μ2) noX) : WP K Y ρ μ (tMakeV C (spD K s) E tv) W := fun T σ H M L N Q F =>
  h T σ H M L N _ fun T1 v H1 d μ1 ⟨ed, w⟩ S1 M1 r1 => by
    subst ed
    refine ⟨r1.ref_inv, fun x dx hx hdx hne => ?_⟩
    have hx2 : upd H1 dx (.own x) x = none := by rw [upd_ne (Ne.symm hne)]; exact hx
    have Ma : Mst K T1 μ1 (upd H1 dx (.own x)) := ⟨fun b o e => by rw [upd_ne (ne_of_none (M1.sub _ _ e) hdx)]; exact M1.sub _ _ e, fun q hq => ⟨(M1.mem q hq).1, (M1.mem q hq).2.mono (Sub.refl _) fun u e => by rw [upd_ne (ne_of_none e hdx)]; exact e⟩, M1.nd⟩
    have Sa : Step T1 μ1 H1 T1 μ1 (upd H1 dx (.own x)) := ⟨Sub.refl _, fun b o e _ => by rw [upd_ne (ne_of_none e hdx)]; exact e, fun _ _ _ t _ => t, fun _ _ _ n => n⟩
    obtain ⟨Mb, Sb⟩ := Ma.cell (m := .ins C []) (o := .ins C dx []) hx2 ⟨dx, [], upd_same, .nil⟩
    refine ⟨T1, _, [.ref x], _, noX, Mb, .cons (.ref x) .nil, w x (M1.notin hx), ?_, finX_no⟩
    rintro T' v H' d μ' ⟨rfl, w'⟩ S' M' r'
    exact ⟨r'.non_inv, F T' _ H' _ μ' w' (((S1.trans Sa).trans Sb).trans S') M' (.ref x)⟩
theorem rw_isiC {a C : Addr} {c : Nat} {fs : List (Str × Dt)} {W : Dt → Mem → Prop} (k : IsiC K C) (hc : μ[c]? = some (a, .ins C fs)) (w : W (.bl true) μ) : RWL K μ (rIsi K) [.ref a, .ref C] W := fun T H xs M r Q F => by
  obtain ⟨v, us, rfl, r1, r2⟩ := r.cons_inv
  obtain ⟨u, us', rfl, r3, r4⟩ := r2.cons_inv
  obtain rfl := r4.nil_inv
  obtain rfl := r3.ref_inv
  obtain rfl := r1.ref_inv
  obtain ⟨dx, us, h1, _⟩ := M.get hc
  exact ⟨_, _, .ref C, .ref C, true, rfl, .own C, .base (.ins h1 k.c k.a k.b k.t k.m), by unfold kitOne; simp, F T _ H _ μ w (Step.refl _ _ _) M (.bl true)⟩
end
end Ml

/-! Ml12: small rules for the printed terms. -/
namespace Ml
open PySem L2 PySem.W PySem.Calls PyProof.Rows
theorem cr_len {X : Cx} : CallR X (.builtin "len") (Evl.rLenS X.K) := call_len_seq
theorem cr_list {X : Cx} : CallR X (.type "list") (Evl.rListS X.K) := call_list_of
theorem pe_fldK (K : Frag) {X : Cx} {e : Expr} {f : Str} {pos : Pos} {ta : TE} (he : PE X e ta) (hK : X.K = K := by rfl) (hb : attributeBase e f X.env (eval e X.env) = eval e X.env := by rfl) : PE X (e.Attribute f pos) (tFld K ta f) := hK ▸ pe_fld he hb
theorem pe_conK (K : Frag) {X : Cx} {e : Expr} {f : Str} {pos : Pos} {ta : TE} (he : PE X e ta) (hK : X.K = K := by rfl) (hb : attributeBase e f X.env (eval e X.env) = eval e X.env := by rfl) : PE X (e.Attribute f pos) (tCon K ta f) := hK ▸ pe_con he hb
theorem pa_starK (K : Frag) {X : Cx} {e : Expr} {es : List Expr} {p : Pos} {te : TE} {t : TA} (he : PE X e te) (h : PA X es t) (hK : X.K = K := by rfl) : PA X (.Starred e p :: es) (StX.tStar K te t) := hK ▸ StX.pa_star he h
theorem hu64 {k : Nat} {A : Around} (h : Room k A) : A.units + 64 < cLine := by have := h.un; omega
theorem itT {c : Bool} {p q : Prop} (h : c = true) (w : p) : if c = true then p else q := by rw [if_pos h]; exact w
theorem itF {c : Bool} {p q : Prop} (h : c = false) (w : q) : if c = true then p else q := by rw [if_neg (by rw [h]; decide)]; exact w
/-- both ways -/
theorem it2 {c : Bool} {p q : Prop} (h : c = true → p) (g : c = false → q) : if c = true then p else q := by
  cases e : c with
  | true => rw [if_pos rfl]; exact h e
  | false => rw [if_neg (by decide)]; exact g e
/-- a target's and a test's truth -/
theorem exB {P : Bool → Prop} {b : Bool} (h : P b) : ∃ c, Dt.bl b = Dt.bl c ∧ P c := ⟨b, rfl, h⟩
theorem exI {P : Int → Prop} {i : Int} (h : P i) : ∃ c, Dt.int i = Dt.int c ∧ P c := ⟨i, rfl, h⟩
theorem exL {P : List Dt → Prop} {i : List Dt} (h : P i) : ∃ c, Dt.lst i = Dt.lst c ∧ P c := ⟨i, rfl, h⟩
section
variable {K : Frag} {Y : Wish} {T T1 H H1 : Hp} {μ μ1 : Mem} {ρ : Ro} {σ : L2.St} {D : DE}
theorem elem_i {vs : List Nat} {g : TG} {tt : TT} {y : Dt} {R : Ro → Mem → Prop} {N : Mem → Prop} (h : WPG K Y (wipeR ρ vs) μ g y fun ρ2 μ2 => WPT K Y ρ2 μ2 tt fun b μ3 => if b = true then R ρ2 μ3 else N μ3) : Elem K Y ρ vs g tt y μ R N := h
/-- [e for x in xs if f], nothing changed -/
theorem wp_lcX {α : Type} (enc : α → Dt) (f : α → Bool) (e : α → Dt) {wi : TI} {g : TG} {tt : TT} {te : TE} {vs : List Nat} {W : Dt → Mem → Prop} (hg : Onto g vs) (hm : MonoG g) (h : WPI K Y ρ μ wi fun ys μ1 => ∃ xs : List α, ys = xs.map enc ∧ xs.length ≤ 1000000 ∧
    (∀ x ∈ xs, Elem K Y ρ vs g tt (enc x) μ1 (fun ρ2 μ3 => f x = true ∧ WP K Y ρ2 μ3 te fun d μ4 => d = e x ∧ μ4 = μ1) fun μ3 => f x = false ∧ μ3 = μ1) ∧ W (.lst ((xs.filter f).map e)) μ1) : WP K Y ρ μ (tLc wi g tt te vs) W :=
  wp_lc hg hm fun T σ H M L N R F => h T σ H M L N R fun T' J H' ys μ' ⟨xs, ey, hl, el, w⟩ S' M' src => F T' J H' ys μ' ⟨by rw [ey, List.length_map]; exact hl, fun i acc μ2 => μ2 = μ' ∧ acc = ((xs.take i).filter f).map e, ⟨rfl, rfl⟩, fun i y acc μ2 hy ⟨e1, e2⟩ => by
    subst e1 e2 ey
    rw [List.getElem?_map] at hy
    cases hx : xs[i]? with
    | none => rw [hx] at hy; cases hy
    | some x =>
      rw [hx] at hy
      cases hy
      have hx' := List.mem_of_getElem? hx
      have tk : xs.take (i + 1) = xs.take i ++ [x] := by rw [List.take_add_one, hx]; rfl
      intro T σ H v M L N r Q F
      refine el x hx' T σ H v M L N r Q fun T2 σ2 H2 ρ2 μ2 w2 S2 M2 L2 => F T2 σ2 H2 ρ2 μ2 (fun T3 σ3 H3 M3 L3 N3 Q3 F3 => w2 T3 σ3 H3 M3 L3 N3 Q3 fun T4 b H4 μ4 w4 S4 M4 => F3 T4 b H4 μ4 ?_ S4 M4) S2 M2 L2
      cases b with
      | true =>
        obtain ⟨hf, w4⟩ := w4
        refine WP.imp (show WP K Y ρ2 μ4 te _ from w4) ?_
        rintro d μ5 ⟨rfl, rfl⟩
        refine ⟨rfl, ?_⟩
        rw [tk, List.filter_append, List.map_append, List.filter_cons, if_pos hf] <;> rfl
      | false =>
        obtain ⟨hf, rfl⟩ := w4
        refine ⟨rfl, ?_⟩
        rw [tk, List.filter_append, List.map_append, List.filter_cons, if_neg (by rw [hf]; decide)]
        simp, fun acc μ2 ⟨e1, e2⟩ => by
    subst e1 e2 ey
    rw [List.length_map, List.take_length]
    exact w⟩ S' M' src
theorem wp_lc0 {α : Type} (enc : α → Dt) (e : α → Dt) {wi : TI} {g : TG} {te : TE} {vs : List Nat} {W : Dt → Mem → Prop} (hg : Onto g vs) (hm : MonoG g) (h : WPI K Y ρ μ wi fun ys μ1 => ∃ xs : List α, ys = xs.map enc ∧ xs.length ≤ 1000000 ∧
    (∀ x ∈ xs, WPG K Y (wipeR ρ vs) μ1 g (enc x) fun ρ2 μ2 => WP K Y ρ2 μ2 te fun d μ4 => d = e x ∧ μ4 = μ1) ∧ W (.lst (xs.map e)) μ1) : WP K Y ρ μ (tLc wi g tYes te vs) W :=
  wp_lcX enc (fun _ => true) e hg hm fun T σ H M L N R F => h T σ H M L N R fun T' J H' ys μ' ⟨xs, ey, hl, el, w⟩ => F T' J H' ys μ' ⟨xs, ey, hl, fun x hx T σ H v M L N r Q F => el x hx T σ H v M L N r Q fun T2 σ2 H2 ρ2 μ2 w2 => F T2 σ2 H2 ρ2 μ2 (wpt_yes (itT rfl ⟨rfl, w2⟩)), by rw [List.filter_eq_self.mpr fun _ _ => rfl]; exact w⟩
end
/-! ### lines, pairs, states as data -/
abbrev Ln := Int × Int × Int
abbrev Pr := Int × Int
def lnL (l : Ln) : List Int := [l.1, l.2.1, l.2.2]
def prL (l : Pr) : List Int := [l.1, l.2]
abbrev lnD (l : Ln) : Dt := .tup [.int l.1, .int l.2.1, .int l.2.2]
abbrev prD (l : Pr) : Dt := .tup [.int l.1, .int l.2]
def sortLn (ls : List Ln) : List Ln := ls.mergeSort fun a b => lexLe (lnL a) (lnL b)
def sortPr (ls : List Pr) : List Pr := ls.mergeSort fun a b => lexLe (prL a) (prL b)
theorem sorts_ln (ls : List Ln) (h : ls.length ≤ 1000000) : Sorts (ls.map lnD) := sorts_tups lnL ls (fun _ _ => by simp [lnL]) h
theorem sorts_pr (ls : List Pr) (h : ls.length ≤ 1000000) : Sorts (ls.map prD) := sorts_tups prL ls (fun _ _ => by simp [prL]) h
theorem sortD_ln (ls : List Ln) : sortD (ls.map lnD) = (sortLn ls).map lnD := sortD_tups lnL ls
theorem sortD_pr (ls : List Pr) : sortD (ls.map prD) = (sortPr ls).map prD := sortD_tups prL ls
structure Stt where
  own : List Ln
  other : List Ln
  cap : Int
  fixed : List Pr
deriving DecidableEq
theorem lnD_py (l : Ln) : (lnD l).py = some (.tuple [.int l.1, .int l.2.1, .int l.2.2]) := rfl
def lnP (l : Ln) : PyData := .tuple [.int l.1, .int l.2.1, .int l.2.2]
def prP (l : Pr) : PyData := .tuple [.int l.1, .int l.2]
theorem pys_map {α : Type} (enc : α → Dt) (p : α → PyData) (h : ∀ a, (enc a).py = some (p a)) : ∀ xs : List α, Dt.pys (xs.map enc) = some (xs.map p)
  | [] => rfl
  | x :: xs => by rw [List.map_cons, Dt.pys, h, pys_map enc p h xs]; rfl
theorem py_lst {α : Type} (enc : α → Dt) (p : α → PyData) (h : ∀ a, (enc a).py = some (p a)) (xs : List α) : (Dt.lst (xs.map enc)).py = some (.list (xs.map p)) := by
  rw [Dt.py, pys_map enc p h]
  rfl
end Ml

/-! Ml13: equality of lists of lines and pairs. -/
namespace Ml
open PySem L2 PySem.W PySem.Calls PyProof.Rows
theorem eqvAll_map {α : Type} [DecidableEq α] (p : α → PyData) (h : ∀ a b, PyData.eqv (p a) (p b) = decide (a = b)) : ∀ xs ys : List α, PyData.eqvAll (xs.map p) (ys.map p) = decide (xs = ys)
  | [], [] => by simp [PyData.eqvAll]
  | [], y :: ys => by simp [PyData.eqvAll]
  | x :: xs, [] => by simp [PyData.eqvAll]
  | x :: xs, y :: ys => by
    simp only [List.map_cons, PyData.eqvAll, h, eqvAll_map p h xs ys]
    simp
theorem eqv_list {xs ys : List PyData} : PyData.eqv (.list xs) (.list ys) = PyData.eqvAll xs ys := by simp [PyData.eqv]
theorem eqv_tup {xs ys : List PyData} : PyData.eqv (.tuple xs) (.tuple ys) = PyData.eqvAll xs ys := by simp [PyData.eqv]
theorem eqv_int {a b : Int} : PyData.eqv (.int a) (.int b) = decide (a = b) := by
  rw [PyData.eqv, Bool.beq_eq_decide_eq]
theorem eqv_lnP (a b : Ln) : PyData.eqv (lnP a) (lnP b) = decide (a = b) := by
  obtain ⟨a1, a2, a3⟩ := a
  obtain ⟨b1, b2, b3⟩ := b
  show PyData.eqv (.tuple [.int a1, .int a2, .int a3]) (.tuple [.int b1, .int b2, .int b3]) = _
  rw [eqv_tup]
  simp only [PyData.eqvAll, eqv_int]
  simp
theorem eqv_prP (a b : Pr) : PyData.eqv (prP a) (prP b) = decide (a = b) := by
  obtain ⟨a1, a2⟩ := a
  obtain ⟨b1, b2⟩ := b
  show PyData.eqv (.tuple [.int a1, .int a2]) (.tuple [.int b1, .int b2]) = _
  rw [eqv_tup]
  simp only [PyData.eqvAll, eqv_int]
  simp
theorem eqv_lns (xs ys : List Ln) : PyData.eqv (.list (xs.map lnP)) (.list (ys.map lnP)) = decide (xs = ys) := by rw [eqv_list, eqvAll_map lnP eqv_lnP]
theorem eqv_prs (xs ys : List Pr) : PyData.eqv (.list (xs.map prP)) (.list (ys.map prP)) = decide (xs = ys) := by rw [eqv_list, eqvAll_map prP eqv_prP]
/-- flat lists of parts of ints -/
def Low (d : PyData) (n : Nat) : Prop := d.canLay0 = true ∧ d.depth ≤ n
theorem low_int (i : Int) : Low (.int i) 0 := ⟨rfl, Nat.le_refl _⟩
theorem lay_all : ∀ {xs : List PyData} {n : Nat}, (∀ x ∈ xs, Low x n) → PyData.canLayAll0 xs = true ∧ PyData.depthAll xs ≤ n
  | [], n, _ => ⟨rfl, Nat.zero_le _⟩
  | x :: xs, n, h => by
    obtain ⟨h1, h2⟩ := lay_all (xs := xs) (n := n) fun y hy => h y (List.mem_cons_of_mem _ hy)
    obtain ⟨h3, h4⟩ := h x List.mem_cons_self
    constructor
    · simp [PyData.canLayAll0, h1, h3]
    · rw [PyData.depthAll]
      exact Nat.max_le.mpr ⟨h4, h2⟩
theorem low_list {xs : List PyData} {n : Nat} (h : ∀ x ∈ xs, Low x n) : Low (.list xs) (n + 1) := by
  obtain ⟨h1, h2⟩ := lay_all h
  exact ⟨by rw [PyData.canLay0]; exact h1, by rw [PyData.depth]; omega⟩
theorem low_tup {xs : List PyData} {n : Nat} (h : ∀ x ∈ xs, Low x n) : Low (.tuple xs) (n + 1) := by
  obtain ⟨h1, h2⟩ := lay_all h
  exact ⟨by rw [PyData.canLay0]; exact h1, by rw [PyData.depth]; omega⟩
theorem Low.shaped {d : PyData} {n : Nat} (h : Low d n) (hn : n ≤ 64) : SeqAt.shaped d = true := by
  unfold SeqAt.shaped
  rw [h.1, decide_eq_true (Nat.le_trans h.2 hn)]
  rfl
theorem low_lnP (l : Ln) : Low (lnP l) 1 := low_tup fun x hx => by
  simp at hx
  rcases hx with rfl | rfl | rfl <;> exact low_int _
theorem low_prP (l : Pr) : Low (prP l) 1 := low_tup fun x hx => by
  simp at hx
  rcases hx with rfl | rfl <;> exact low_int _
theorem sh_lns (xs : List Ln) : SeqAt.shaped (.list (xs.map lnP)) = true := (low_list (n := 1) fun x hx => by obtain ⟨y, _, rfl⟩ := List.mem_map.mp hx; exact low_lnP y).shaped (by decide)
theorem sh_prs (xs : List Pr) : SeqAt.shaped (.list (xs.map prP)) = true := (low_list (n := 1) fun x hx => by obtain ⟨y, _, rfl⟩ := List.mem_map.mp hx; exact low_prP y).shaped (by decide)
section
variable {K : Frag} {μ : Mem}
theorem pyof_lns {d : Dt} {xs : List Ln} (h : IsLst μ d (xs.map lnD)) : PyOf μ d (.list (xs.map lnP)) := .inr ⟨_, _, h, pys_map lnD lnP (fun _ => rfl) xs, rfl⟩
theorem pyof_prs {d : Dt} {xs : List Pr} (h : IsLst μ d (xs.map prD)) : PyOf μ d (.list (xs.map prP)) := .inr ⟨_, _, h, pys_map prD prP (fun _ => rfl) xs, rfl⟩
theorem rw_eq_lns {d e : Dt} {xs ys : List Ln} {W : Dt → Mem → Prop} (h1 : IsLst μ d (xs.map lnD)) (h2 : IsLst μ e (ys.map lnD)) (w : W (.bl (decide (xs = ys))) μ) : RW2 K μ (rEqD K) d e W := rw_eqD (pyof_lns h1) (pyof_lns h2) (sh_lns _) (sh_lns _) (by rw [eqv_lns]; exact w)
theorem rw_ne_lns {d e : Dt} {xs ys : List Ln} {W : Dt → Mem → Prop} (h1 : IsLst μ d (xs.map lnD)) (h2 : IsLst μ e (ys.map lnD)) (w : W (.bl (!decide (xs = ys))) μ) : RW2 K μ (rNeD K) d e W := rw_neD (pyof_lns h1) (pyof_lns h2) (sh_lns _) (sh_lns _) (by rw [eqv_lns]; exact w)
theorem rw_eq_prs {d e : Dt} {xs ys : List Pr} {W : Dt → Mem → Prop} (h1 : IsLst μ d (xs.map prD)) (h2 : IsLst μ e (ys.map prD)) (w : W (.bl (decide (xs = ys))) μ) : RW2 K μ (rEqD K) d e W := rw_eqD (pyof_prs h1) (pyof_prs h2) (sh_prs _) (sh_prs _) (by rw [eqv_prs]; exact w)
theorem rw_ne_prs {d e : Dt} {xs ys : List Pr} {W : Dt → Mem → Prop} (h1 : IsLst μ d (xs.map prD)) (h2 : IsLst μ e (ys.map prD)) (w : W (.bl (!decide (xs = ys))) μ) : RW2 K μ (rNeD K) d e W := rw_neD (pyof_prs h1) (pyof_prs h2) (sh_prs _) (sh_prs _) (by rw [eqv_prs]; exact w)
theorem rw_eqI {i j : Int} {W : Dt → Mem → Prop} (w : W (.bl (decide (i = j))) μ) : RW2 K μ rEq (.int i) (.int j) W := rw_eq (x := .int i) (y := .int j) rfl rfl rfl (by simpa using w)
theorem rw_neI {i j : Int} {W : Dt → Mem → Prop} (w : W (.bl (!decide (i = j))) μ) : RW2 K μ rNe (.int i) (.int j) W := rw_ne (x := .int i) (y := .int j) rfl rfl rfl (by simpa using w)
theorem rw_eqS {i j : Str} {W : Dt → Mem → Prop} (w : W (.bl (decide (i = j))) μ) : RW2 K μ rEq (.str i) (.str j) W := rw_eq (x := .str i) (y := .str j) rfl rfl rfl (by simpa using w)
theorem rw_neS {i j : Str} {W : Dt → Mem → Prop} (w : W (.bl (!decide (i = j))) μ) : RW2 K μ rNe (.str i) (.str j) W := rw_ne (x := .str i) (y := .str j) rfl rfl rfl (by simpa using w)
end
end Ml

/-! Ml14: own exceptions with one field. -/
namespace Ml
open PySem L2 PySem.W PySem.Calls PyProof.Rows
/-- a class over ValueError without __init__ -/
structure Exc0 (K : Frag) (C : Addr) : Prop where
  ty : typeIn K (.ref C) = some (.type "type")
  rd : readsIn K C (.type "type") = true
  ga : specialIn K (.ref C) "__getattribute__" = some (some (.builtin "type.__getattribute__"))
  hv : findCls K (.ref C) (.type "type") "__init__" = some (.val (.builtin "ValueError.__init__"))
theorem pe_oinit {X : Cx} {e : Expr} {es : List Expr} {ta : TA} {p1 p2 pos : Pos} {pl : Sem Bool} {x : Str} {B : Addr} (hg : Gl X x) (hm : X.mg x = some (.ref B)) (k : Exc0 X.K B) (ha : PA X (e :: es) ta) (hdb : (x == Str.ofString "__debug__") = false := by rfl)
    (hc : eval ((Expr.Attribute (Expr.Name x p1) (Str.ofString "__init__") p2).Call (e :: es) [] pos) X.env = (do let ov ← eval (Expr.Name x p1) X.env; standAt p2.atName; let (f, first) ← holding [ov] (getMethod ov (Str.ofString "__init__") pl); callWith pos f first (backTo pos (starEach (e :: es) X.env)) (backToKw pos (keywordEach [] X.env))) := by rfl)
    (he : starEach (e :: es) X.env = (false, eval e X.env) :: starEach es X.env := by rfl) (hpl : ((backTo pos (starEach es X.env)).any fun x => x.fst) = false := by rfl) :
    PE X ((Expr.Attribute (Expr.Name x p1) (Str.ofString "__init__") p2).Call (e :: es) [] pos) (tVeI X.K ta) where
  run := fun pins s σ H Q I h => methodCall_KW (ld_glob I hg hm (by
    obtain ⟨m, fr⟩ := Inv.fr I
    refine method_cls I.kIn k.ga (cls_val fr I.ok.mod.kin k.ty k.rd k.hv (by rfl) (PyProof.Rows.callWith_method1 (thn (ha.run pos pins _ σ H _ (Inv.tok I (s.toks + 1)) h) ?_) he hpl))
    rintro us s1 ⟨vs, H1, I1, r1, a, C, ws, rfl, hl, T, ea, q⟩
    cases r1 with
    | @cons _ u0 _ ur ra rw' =>
      cases ra
      exact oinit_ok T I1 ea (by rw [← Paired.length rw', sizeLine_eq]; omega) fun s' J => ⟨.non, H1, J, rfl, q⟩) hdb) hc
/-- .. with an own __init__ that stores one field -/
structure Exc1 (K : Frag) (C fI : Addr) (f : Str) : Prop where
  o : OexC K C
  i : findIn K (.ref C) "__init__" = some (some (.ref fI))
  t : typeIn K (.ref fI) = some (.type "function")
  n : findIn K (.ref C) f = some none
def spX (K : Frag) (C fI : Addr) (f : Str) : Sp := fun vs H Q _ => ∃ (a : Addr) (v : V), vs = [.ref a, v] ∧ H a = some (exo a C none) ∧ ∀ dx, H dx = none → dx ≠ a → Q .non (upd (upd H dx (exd dx [(f, v)])) a (exo a C (some dx)))
section
variable {P : Program} {w : World} {K : Frag} {mg : Str → Option Value} {base : Heap} {x qual : Str} {params : Arguments} {body : List Stmt} {scope : Scope} {f : Addr} {fd : FuncData}
theorem ok_exc {N ps : List Str} {k : Nat} {C : Addr} {fl : Str} {m : Str} (F : FunD K x qual params body scope [] [] f fd) (S : FnScope N ps scope) (hl : ps.length = 2) (T : Exc1 K C f fl)
    (hbody : ∀ (cdv : Value) (A : Around) (outer : List Env) (s0 : Shared) (H : Hp) (E : XK), Room k (A.deeper (envOfC qual scope s0.heap.objs.size f cdv)) →
      PSs (cxOf (L2.CX P w) P w K mg base N qual scope f cdv A outer s0 H E) body (tSeq (tDrop (tVeI K (tCons (tVar 0) (tCons (tC (.str m)) tNil)))) (tOst K fl (tVar 0) (tVar 1)))) : FnOk P w K mg base (L2.CX P w) (k + 1) f fd ps (spX K C f fl) :=
  F.ok S (fun vs H Q E ⟨a, v, e, _⟩ => by rw [e, hl]; rfl) fun cdv A outer s0 H vs Q E hr ⟨a, v, e, ha, q⟩ => by
    subst e
    refine ⟨_, hbody cdv A outer s0 H E hr, ?_⟩
    refine ⟨_, rfl, a, C, [.str m], rfl, (by show 1 ≤ 1000; decide), T.o, ha, ?_⟩
    exact ⟨_, rfl, _, rfl, a, C, rfl, T.o, T.n, .inl ⟨ha, fun dx h1 h2 => q dx h1 h2⟩⟩
end
section
variable {K : Frag} {Y : Wish} {T T1 H H1 : Hp} {μ μ1 : Mem} {ρ : Ro} {σ : L2.St} {D : DE}
theorem wps_raiseO {C fI : Addr} {f : Str} {ta : TA} {W : WX} (hW : ∀ c d σ H, Y.W c d σ H → W c d σ H) (h : WPA K Y ρ μ ta fun ds μ1 => ∃ d, ds = [d] ∧ Y.X C [(f, d)] ρ μ1) : WPS K Y ρ μ (fun _ σ H => tMkO C (spX K C fI f) [] ta σ H fun cls d H' => W cls d σ H') D := fun T σ H M L N E F =>
  h T σ H M L N _ fun T1 xs H1 ds μ1 ⟨d, e, w⟩ S1 M1 r1 => by
    subst e
    obtain ⟨v, us, rfl, r2, r3⟩ := r1.cons_inv
    obtain rfl := r3.nil_inv
    refine ⟨(by show 1 ≤ 1000; decide), fun a ha => ⟨a, v, rfl, upd_same, fun dx hdx hne => ⟨rfl, dx, [(f, v)], upd_same, ?_, ?_, ?_⟩⟩⟩
    · rw [upd_ne hne, upd_same]
    · rw [upd_ne hne] at hdx; exact hdx
    · rw [upd_ne hne] at hdx
      have e : upd (del (upd (upd (upd H1 a (exo a C none)) dx (exd dx [(f, v)])) a (exo a C (some dx))) a) dx (.xd [(f, v)]) = upd H1 dx (.xd [(f, v)]) := by
        funext b
        by_cases hb : b = dx
        · subst hb; rw [upd_same, upd_same]
        · rw [upd_ne hb, upd_ne hb]
          by_cases hb2 : b = a
          · subst hb2; rw [ha]; exact del_same
          · rw [del_ne hb2, upd_ne hb2, upd_ne hb, upd_ne hb2]
      rw [e]
      obtain ⟨M2, S2⟩ := M1.lay (o := .xd [(f, v)]) hdx
      exact hW _ _ _ _ (N _ C dx [(f, v)] [(f, d)] σ ρ _ μ1 w (S1.trans S2) M2 (L.mono (S1.trans S2).grow) upd_same (.cons ⟨rfl, r2.mono S2.grow⟩ .nil))
end
section
variable {fa : List Fc} {fn : List DefP} {K : Frag} {mg : Str → Option Value}
theorem Good.exc0 (G : Good fa fn K mg) (i : Nat) {C : Str} (h : fa[i]? = some (.exc0 C)) : Exc0 K (gA C K) := by
  obtain ⟨c1, c2⟩ := He.ba (show (_ && _) = true from G.fc i h)
  obtain ⟨c2, c3⟩ := He.ba c2
  obtain ⟨c3, c4⟩ := He.ba c3
  refine ⟨of_decide_eq_true c1, c2, of_decide_eq_true (show decide _ = true from c3), ?_⟩
  split at c4
  · rename_i a q
    rw [q, of_decide_eq_true c4]
  · cases c4
theorem Good.exc1 (G : Good fa fn K mg) (i : Nat) {C f : Str} (h : fa[i]? = some (.exc1 C f)) : Exc1 K (gA C K) (mA C "__init__" K) f := by
  obtain ⟨c1, c2⟩ := He.ba (show (_ && _) = true from G.fc i h)
  obtain ⟨c2, c3⟩ := He.ba c2
  obtain ⟨d1, d2⟩ := He.ba c2
  obtain ⟨d2, d3⟩ := He.ba d2
  obtain ⟨d3, d4⟩ := He.ba d3
  obtain ⟨e1, e2⟩ := He.ba c3
  obtain ⟨e2, e3⟩ := He.ba e2
  exact ⟨⟨excObj_of c1, of_decide_eq_true (show decide _ = true from d1), of_decide_eq_true d2, of_decide_eq_true d3, d4⟩, of_decide_eq_true (show decide _ = true from e1), of_decide_eq_true e2, of_decide_eq_true (show decide _ = true from e3)⟩
theorem Good.isi (G : Good fa fn K mg) (i : Nat) {C : Str} (h : fa[i]? = some (.isi C)) : IsiC K (gA C K) := by
  obtain ⟨c1, c2⟩ := He.ba (show (_ && _) = true from G.fc i h)
  obtain ⟨d1, d2⟩ := He.ba (show (_ && _) = true from c1)
  obtain ⟨d2, d3⟩ := He.ba d2
  obtain ⟨d3, d4⟩ := He.ba d3
  obtain ⟨c2, c3⟩ := He.ba c2
  obtain ⟨c3, c4⟩ := He.ba c3
  obtain ⟨c4, c5⟩ := He.ba c4
  exact ⟨⟨d1, d2, d3, of_decide_eq_true (show decide _ = true from d4)⟩, of_decide_eq_true (show decide _ = true from c2), of_decide_eq_true (show decide _ = true from c3), of_decide_eq_true c4, of_decide_eq_true c5⟩
end
end Ml

/-! Ml15: a comparison as data; small rules. -/
namespace Ml
open PySem L2 PySem.W PySem.Calls PyProof.Rows
theorem passX {X : Cx} {E : XK} (hs : X.stack = X.env :: X.outer) (hf : X.env.frame = some X.env.locals) (hex : X.ex = []) {E₁ : Value → Shared → Prop} (hx : X.xe = fun e s' => wpAny (model X.prog X.w) X.A (leaving X.env e) (fun _ s'' => CX X.prog X.w X.outer X.H_0 X.s_0 E e s'') E₁ s') : Passes (CX X.prog X.w) X E :=
  passes_call (takes_of hs hf hex hx) fun _ _ _ _ h => h
theorem lenat {ds : List Dt} {p : Prop} (h : Nat.ble ds.length 1000 = true) (w : p) : ds.length ≤ 1000000 ∧ p := ⟨Nat.le_trans (Nat.le_of_ble_eq_true h) (by decide), w⟩
theorem lt_of_ble {n m : Nat} (h : Nat.ble (n + 1) m = true) : n < m := Nat.le_of_ble_eq_true h
section
variable {K : Frag} {Y : Wish} {T T1 H H1 : Hp} {μ μ1 : Mem} {ρ : Ro} {σ : L2.St} {D : DE}
def MethAt (μ : Mem) (C : Addr) (m : Str) (d : Dt) (R : Prop) : Prop := ((∃ (c : Nat) (a : Addr) (fs : List (Str × Dt)), d = .ref a ∧ μ[c]? = some (a, .ins C fs) ∧ fs.lookup m = none) ∨ ∃ (ns : List Str) (es : List Dt), d = .ins C ns es ∧ (ns.zip es).lookup m = none) ∧ R
theorem methat {c : Nat} {a C : Addr} {fs : List (Str × Dt)} {m : Str} {R : Prop} (hc : μ[c]? = some (a, .ins C fs)) (hl : fs.lookup m = none) (w : R) : MethAt μ C m (.ref a) R := ⟨.inl ⟨_, _, _, rfl, hc, hl⟩, w⟩
theorem methatI {C : Addr} {ns : List Str} {es : List Dt} {m : Str} {R : Prop} (hl : (ns.zip es).lookup m = none) (w : R) : MethAt μ C m (.ins C ns es) R := ⟨.inr ⟨_, _, rfl, hl⟩, w⟩
theorem wp_methU {C : Addr} {m : Str} {s : DSp} {E : XK} {ta : TE} {t : TA} {W : Dt → Mem → Prop} (h : WP K Y ρ μ ta fun d μ1 => MethAt μ1 C m d (WPA K Y ρ μ1 t fun ds μ2 => s (d :: ds) μ2 W noX)) : WP K Y ρ μ (tMeth C m (spD K s) [] E ta t) W := fun T σ H M L N Q F =>
  h T σ H M L N _ fun T1 x H1 d μ1 ⟨k, w⟩ S1 M1 r1 => by
    rcases k with ⟨c, a, fs, rfl, hc, hl⟩ | ⟨ns, es, rfl, hl⟩
    · obtain rfl := r1.ref_inv
      obtain ⟨dx, us, h1, h2⟩ := M1.get hc
      exact ⟨a, dx, us, rfl, h1, (lookup_prep h2 m).1 hl, w T1 σ H1 M1 (L.mono S1.grow) (N.go S1) _ fun T2 xs H2 ds μ2 w2 S2 M2 r2 => ⟨T2, μ2, _, W, noX, M2, by rw [List.append_nil]; exact .cons (.ref a) r2, w2, F.go (S1.trans S2) fun _ _ w => w, finX_no⟩⟩
    · obtain ⟨a, dx, us, rfl, h1, h2, h3⟩ := r1.ins_inv
      exact ⟨a, dx, _, rfl, M1.sub _ _ h1, (zip_lookup h3 h2 m).1 hl, w T1 σ H1 M1 (L.mono S1.grow) (N.go S1) _ fun T2 xs H2 ds μ2 w2 S2 M2 r2 => ⟨T2, μ2, _, W, noX, M2, by rw [List.append_nil]; exact .cons (r1.mono S2.grow) r2, w2, F.go (S1.trans S2) fun _ _ w => w, finX_no⟩⟩
theorem wp_methUX {C : Addr} {m : Str} {s : DSp} {E : XK} {ta : TE} {t : TA} {W : Dt → Mem → Prop} (hY : ∀ c d σ H, Y.W c d σ H = E c d H) (h : WP K Y ρ μ ta fun d μ1 => MethAt μ1 C m d (WPA K Y ρ μ1 t fun ds μ2 => s (d :: ds) μ2 W fun C fs μ3 => Y.X C fs ρ μ3)) : WP K Y ρ μ (tMeth C m (spD K s) [] E ta t) W := fun T σ H M L N Q F =>
  h T σ H M L N _ fun T1 x H1 d μ1 ⟨k, w⟩ S1 M1 r1 => by
    have fx : ∀ {T2 H2 μ2}, Step T1 μ1 H1 T2 μ2 H2 → FinX K T2 μ2 H2 (fun C fs μ3 => Y.X C fs ρ μ3) E := fun S2 T' C dx us fs H' μ' hx S' M' hd hu => by
      rw [← hY]
      exact (N.go (S1.trans S2)) T' C dx us fs σ ρ H' μ' hx S' M' (L.mono ((S1.trans S2).grow.trans S'.grow)) hd hu
    rcases k with ⟨c, a, fs, rfl, hc, hl⟩ | ⟨ns, es, rfl, hl⟩
    · obtain rfl := r1.ref_inv
      obtain ⟨dx, us, h1, h2⟩ := M1.get hc
      exact ⟨a, dx, us, rfl, h1, (lookup_prep h2 m).1 hl, w T1 σ H1 M1 (L.mono S1.grow) (N.go S1) _ fun T2 xs H2 ds μ2 w2 S2 M2 r2 => ⟨T2, μ2, _, W, _, M2, by rw [List.append_nil]; exact .cons (.ref a) r2, w2, F.go (S1.trans S2) fun _ _ w => w, fx S2⟩⟩
    · obtain ⟨a, dx, us, rfl, h1, h2, h3⟩ := r1.ins_inv
      exact ⟨a, dx, _, rfl, M1.sub _ _ h1, (zip_lookup h3 h2 m).1 hl, w T1 σ H1 M1 (L.mono S1.grow) (N.go S1) _ fun T2 xs H2 ds μ2 w2 S2 M2 r2 => ⟨T2, μ2, _, W, _, M2, by rw [List.append_nil]; exact .cons (r1.mono S2.grow) r2, w2, F.go (S1.trans S2) fun _ _ w => w, fx S2⟩⟩
theorem propat {c : Nat} {a C : Addr} {fs : List (Str × Dt)} {R : Addr → Prop} (hc : μ[c]? = some (a, .ins C fs)) (w : R a) : ∃ (c' : Nat) (a' : Addr) (fs' : List (Str × Dt)), Dt.ref a = Dt.ref a' ∧ μ[c']? = some (a', .ins C fs') ∧ R a' := ⟨_, _, _, rfl, hc, w⟩
/-- d.f = e -/
def PutAt (K : Frag) (μ : Mem) (d : Dt) (f : Str) (e : Dt) (W : Mem → Prop) : Prop := ∃ (c : Nat) (a C : Addr) (fs : List (Str × Dt)), d = .ref a ∧ μ[c]? = some (a, .ins C fs) ∧ Cls K C ∧ NoAttr K C f ∧ fs.length < 1000 ∧ W (μ.set c (a, .ins C (putD f e fs)))
theorem wps_fldP {ta tv : TE} {f : Str} (h : WP K Y ρ μ tv fun e μ1 => WP K Y ρ μ1 ta fun d μ2 => PutAt K μ2 d f e fun μ3 => D.nx ρ μ3) : WPS K Y ρ μ (sFld K ta tv f) D := wps_fld h
theorem putat {c : Nat} {a C : Addr} {fs : List (Str × Dt)} {f : Str} {e : Dt} {W : Mem → Prop} (hc : μ[c]? = some (a, .ins C fs)) (cl : Cls K C) (na : NoAttr K C f) (hl : Nat.ble (fs.length + 1) 1000 = true) (w : W (μ.set c (a, .ins C (putD f e fs)))) : PutAt K μ (.ref a) f e W := ⟨_, _, _, _, rfl, hc, cl, na, lt_of_ble hl, w⟩
theorem IsLst.push {d : Dt} {ds : List Dt} {x : Addr × Mo} (h : IsLst μ d ds) : IsLst (x :: μ) d ds := by
  rcases h with h | ⟨c, a, e, hc⟩
  · exact .inl h
  · exact .inr ⟨c + 1, a, e, hc⟩
theorem retL_get {W : Dt → Mem → Prop} {ds : List Dt} (h : RetL W ds μ) : RetL W ds μ := h
/-- list(..), sorted(..): data or a cell -/
theorem rwL_list {d : Dt} {ds : List Dt} {W : Dt → Mem → Prop} (h : IsSq μ d ds) (w : RetL W ds μ) : RWL K μ (Evl.rListS K) [d] W := by
  rcases w with w | w
  · exact rw_list h w
  · exact rw_listC h w
theorem rwL_sorted {d : Dt} {ds : List Dt} {W : Dt → Mem → Prop} (h : IsLst μ d ds) (S : Sorts ds) (w : RetL W (sortD ds) μ) : RWL K μ (rSortD K) [d] W := by
  rcases w with w | w
  · exact rw_sorted h S w
  · exact rw_sortedC h S w
end
theorem atI_get {α : Type} {xs : List α} {k : Nat} {x : α} (h : xs[k]? = some x) : atI xs (k : Int) = some x := by
  have hk := (List.getElem?_eq_some_iff.mp h).1
  have e : ixN xs.length (k : Int) = some k := by
    unfold ixN
    have h1 : (0 : Int) ≤ k := by omega
    have h2 : (k : Int) < xs.length := by omega
    rw [if_pos h1, if_pos h2]
    rfl
  unfold atI
  rw [e]
  exact h
theorem atI_map {α : Type} {enc : α → Dt} {xs : List α} {k : Nat} {x : α} (h : xs[k]? = some x) : atI (xs.map enc) (k : Int) = some (enc x) := atI_get (by rw [List.getElem?_map, h]; rfl)
theorem atI_zero {α : Type} {x : α} {xs : List α} : atI (x :: xs) 0 = some x := atI_get (k := 0) rfl
theorem cut_take {α : Type} {xs : List α} {k : Nat} (h : k ≤ xs.length) : cutD xs none (some (k : Int)) = xs.take k := by
  unfold cutD
  have e1 : HT.sIx xs.length 0 none = 0 := rfl
  have e2 : HT.sIx xs.length xs.length (some (k : Int)) = k := by
    simp only [HT.sIx]
    split <;> omega
  rw [e1, e2]
  simp
/-! ### comparison -/
abbrev stD (K : Frag) (s : Stt) : Dt := .ins (gA "State" K) ["mine", "theirs", "cap", "fixed"] [.lst (s.own.map lnD), .lst (s.other.map lnD), .int s.cap, .lst (s.fixed.map prD)]
abbrev cmpMo (K : Frag) (sts : List Stt) (k : Nat) : Mo := .ins (gA "Comparison" K) [("states", .lst (sts.map (stD K))), ("spot", .int (k : Int))]
/-- rows that begin with an id -/
abbrev rowD (r : Int × List Dt) : Dt := .tup (.int r.1 :: r.2)
theorem rows_ln (ls : List Ln) : ls.map lnD = (ls.map fun l => (l.1, [Dt.int l.2.1, Dt.int l.2.2])).map rowD := by rw [List.map_map]; rfl
theorem rows_pr (ls : List Pr) : ls.map prD = (ls.map fun l => (l.1, [Dt.int l.2])).map rowD := by rw [List.map_map]; rfl
inductive Er where
  | line (l : Ln) | price (i : Int) | number (i : Int) | unknown (i : Int) | takenId (i : Int) | takenLine (i : Int) | unpaired (i : Int) | nothing (s : Str)
def Er.C (K : Frag) : Er → Addr
  | .line _ => gA "BadLine" K
  | .price _ => gA "BadPrice" K
  | .number _ => gA "BadNumber" K
  | .unknown _ => gA "UnknownLine" K
  | .takenId _ => gA "TakenId" K
  | .takenLine _ => gA "TakenLine" K
  | .unpaired _ => gA "Unpaired" K
  | .nothing _ => gA "NothingToDo" K
def Er.fs : Er → List (Str × Dt)
  | .line l => [("value", lnD l)]
  | .price i => [("value", .int i)]
  | .number i => [("value", .int i)]
  | .unknown i => [("row_id", .int i)]
  | .takenId i => [("row_id", .int i)]
  | .takenLine i => [("row_id", .int i)]
  | .unpaired i => [("amount", .int i)]
  | .nothing s => [("action", .str s)]
def lineOk (a b c : Int) : Bool := (decide (1 ≤ a) && decide (a ≤ 1000000)) && ((decide (0 ≤ b) && decide (b ≤ 1000000)) && ((decide (-1000000000000 ≤ c) && decide (c ≤ 1000000000000)) && !decide (c = 0)))
def priceOk (i : Int) : Bool := decide (0 ≤ i) && decide (i ≤ 1000000000000)
def ids (ls : List Ln) : List Int := ls.map (·.1)
def needLine (ls : List Ln) (l : Ln) : Option Er := if lineOk l.1 l.2.1 l.2.2 = false then some (.line l) else if l.1 ∈ ids ls then some (.takenId l.1) else if ls.length = 60 then some (.number 61) else none
def needKnown (is : List Int) (i : Int) : Option Er := if i ∈ is then none else some (.unknown i)
/-- how a check ends -/
def Ends0 (K : Frag) (μ : Mem) (W : Dt → Mem → Prop) (X : Addr → List (Str × Dt) → Mem → Prop) : Option Er → Prop
  | none => W .non μ
  | some e => X (e.C K) e.fs μ
def addOwn (s : Stt) (l : Ln) : Except Er Stt := match needLine s.own l with
  | some e => .error e
  | none => .ok { s with own := sortLn (s.own ++ [l]) }
def addOther (s : Stt) (l : Ln) : Except Er Stt := match needLine s.other l with
  | some e => .error e
  | none => .ok { s with other := sortLn (s.other ++ [l]) }
def dropOwn (s : Stt) (i : Int) : Except Er Stt := match needKnown (ids s.own) i with
  | some e => .error e
  | none => .ok { s with own := s.own.filter fun l => decide (l.1 ≠ i), fixed := s.fixed.filter fun p => decide (p.1 ≠ i) }
def dropOther (s : Stt) (i : Int) : Except Er Stt := match needKnown (ids s.other) i with
  | some e => .error e
  | none => .ok { s with other := s.other.filter fun l => decide (l.1 ≠ i), fixed := s.fixed.filter fun p => decide (p.2 ≠ i) }
def setPrice (s : Stt) (i : Int) : Except Er Stt := if priceOk i = true then .ok { s with cap := i } else .error (.price i)
def confirmS (s : Stt) (i j : Int) : Except Er Stt := match needKnown (ids s.own) i with
  | some e => .error e
  | none => match needKnown (ids s.other) j with
    | some e => .error e
    | none => if i ∈ s.fixed.map (·.1) then .error (.takenLine i) else if j ∈ s.fixed.map (·.2) then .error (.takenLine j) else .ok { s with fixed := sortPr (s.fixed ++ [(i, j)]) }
def openAgain (s : Stt) (i : Int) : Except Er Stt := match needKnown (s.fixed.map (·.1)) i with
  | some e => .error e
  | none => .ok { s with fixed := s.fixed.filter fun p => decide (p.1 ≠ i) }
def keepS (sts : List Stt) (k : Nat) (s : Stt) : List Stt := sts.take (k + 1) ++ [s]
/-- how a change ends: c the comparison's cell -/
def EndsS (K : Frag) (μ : Mem) (c : Nat) (a : Addr) (sts : List Stt) (k : Nat) (W : Dt → Mem → Prop) (X : Addr → List (Str × Dt) → Mem → Prop) : Except Er Stt → Prop
  | .ok s => W .non (μ.set c (a, cmpMo K (keepS sts k s) (k + 1)))
  | .error e => X (e.C K) e.fs μ
/-- a comparison stands at a, small enough -/
structure CmpAt (K : Frag) (μ : Mem) (c : Nat) (a : Addr) (sts : List Stt) (k : Nat) (s : Stt) : Prop where
  cell : μ[c]? = some (a, cmpMo K sts k)
  now : sts[k]? = some s
  few : sts.length ≤ 100000
  own : s.own.length ≤ 1000
  other : s.other.length ≤ 1000
  fixed : s.fixed.length ≤ 1000
theorem CmpAt.push {K : Frag} {μ : Mem} {c k : Nat} {a : Addr} {sts : List Stt} {s : Stt} {x : Addr × Mo} (h : CmpAt K μ c a sts k s) : CmpAt K (x :: μ) (c + 1) a sts k s := ⟨h.cell, h.now, h.few, h.own, h.other, h.fixed⟩
end Ml

/-! Ml16: whole numbers of many bits; the law's stream. -/
namespace Ml
open PySem L2 PySem.W PySem.Calls PyProof.Rows
theorem bits_iff {z : Int} {b : Nat} : Builtin.Int.intBits z ≤ b ↔ z.natAbs < 2 ^ b := by
  unfold Builtin.Int.intBits
  by_cases h : z = 0
  · subst h
    simp
    exact Nat.two_pow_pos b
  · have e : (z == 0) = false := by simpa using h
    rw [e]
    have hn : z.natAbs ≠ 0 := by omega
    have := Nat.log2_lt (n := z.natAbs) (k := b) hn
    simp only [Bool.false_eq_true, if_false]
    omega
theorem bits_seed {sd n : Int} {b : Nat} (h1 : sd.natAbs < 2147483648) (h2 : Builtin.Int.intBits n ≤ b) : Builtin.Int.intBits (sd * 40127 + n) ≤ b + 48 := by
  rw [bits_iff] at h2 ⊢
  have e1 : (sd * 40127 + n).natAbs ≤ sd.natAbs * 40127 + n.natAbs := by
    have h3 := Int.natAbs_add_le (sd * 40127) n
    rw [Int.natAbs_mul] at h3
    exact h3
  have e2 : sd.natAbs * 40127 < 2 ^ 47 := by
    have : sd.natAbs * 40127 ≤ 2147483648 * 40127 := Nat.mul_le_mul_right _ (by omega)
    have e : (2147483648 * 40127 : Nat) < 2 ^ 47 := by decide
    omega
  have e3 : (2 : Nat) ^ (b + 48) = 2 ^ b * 2 ^ 48 := Nat.pow_add 2 b 48
  have e4 : 1 ≤ 2 ^ b := Nat.one_le_two_pow
  have e5 : (2 : Nat) ^ 48 = 2 ^ 47 * 2 := by decide
  rw [e3, e5]
  generalize 2 ^ b = B at *
  have e6 : (2 : Nat) ^ 47 = 140737488355328 := by decide
  rw [e6] at *
  have : B * (140737488355328 * 2) ≥ B * 140737488355328 + B * 140737488355328 := by omega
  omega
theorem bits_le {z : Int} (h0 : 0 ≤ z) (h : z < 2147483648) : Builtin.Int.intBits z ≤ 31 := bits_iff.mpr (by
  have e : (2 : Nat) ^ 31 = 2147483648 := by decide
  omega)
theorem cpow_small {z n : Int} (h0 : 0 ≤ z) (h : z < 2147483648) (hn : 0 ≤ n) (hm : n ≤ 1000) : CPowB z n := by
  refine ⟨hn, ?_⟩
  have h1 : (Builtin.Int.intBits z : Int) ≤ 31 := by exact_mod_cast bits_le h0 h
  have h2 : (0 : Int) ≤ Builtin.Int.intBits z := by omega
  have h3 : (Builtin.Int.intBits z : Int) * n ≤ 31 * 1000 := Int.mul_le_mul h1 hm hn (by decide)
  have h4 : (2 : Int) ^ 27 = 134217728 := by decide
  omega
theorem cmul_l {i j : Int} (h0 : 0 ≤ i) (h : i < 2147483648) : CMul i j := by
  have e : (2 : Int) ^ 64 = 18446744073709551616 := by decide
  exact .inl ⟨by omega, by omega⟩
/-- the law's stream of draws -/
structure StrAt (μ : Mem) (c : Nat) (a : Addr) : Prop where
  ex : ∃ dg sd : Int, μ[c]? = some (a, .lst [.int dg, .int sd]) ∧ 0 ≤ dg ∧ 0 ≤ sd ∧ sd < 2147483648
theorem StrAt.mk' {μ : Mem} {c : Nat} {a : Addr} {dg sd : Int} (h : μ[c]? = some (a, .lst [.int dg, .int sd])) (h1 : 0 ≤ dg) (h2 : 0 ≤ sd) (h3 : sd < 2147483648) : StrAt μ c a := ⟨dg, sd, h, h1, h2, h3⟩
def q_law_draw (s n : Dt) : Post := fun μ W _ => ∃ (c : Nat) (a : Addr) (m : Int), s = .ref a ∧ n = .int m ∧ StrAt μ c a ∧ 1 ≤ m ∧ m < 1073741824 ∧ ∀ r x, 0 ≤ r → r < m → StrAt (μ.set c (a, x)) c a → W (.int r) (μ.set c (a, x))
abbrev sp__law_draw (_ : Frag) : DSp := sp2 q_law_draw
def q_law_stream (s n : Dt) : Post := fun μ W _ => ∃ (ns : List Int) (i : Int), s = .fls (ns.map .int) ∧ n = .int i ∧ 0 ≤ i ∧ i ≤ 100 ∧ ns.length ≤ 1000 ∧ (∀ z ∈ ns, Builtin.Int.intBits z ≤ 1048576) ∧ ∀ p x, p ∉ dom μ → StrAt ((p, x) :: μ) 0 p → W (.ref p) ((p, x) :: μ)
abbrev sp__law_stream (_ : Frag) : DSp := sp2 q_law_stream
def q_law (s : Dt) : Post := fun μ W _ => ∃ ns : List Int, s = .fls (ns.map .int) ∧ ns.length ≤ 63 ∧ (∀ z ∈ ns, Builtin.Int.intBits z ≤ 1048576) ∧ ∀ μ', W (.bl true) μ'
abbrev sp_law (_ : Frag) : DSp := sp1 q_law
theorem drawat {μ : Mem} {a : Addr} {m : Int} {x : Mo} {W : Dt → Mem → Prop} {X : Addr → List (Str × Dt) → Mem → Prop} (h : StrAt ((a, x) :: μ) 0 a) (h1 : 1 ≤ m) (h2 : m < 1073741824) (w : ∀ r y, 0 ≤ r → r < m → StrAt ((a, y) :: μ) 0 a → W (.int r) ((a, y) :: μ)) : q_law_draw (.ref a) (.int m) ((a, x) :: μ) W X := ⟨0, a, m, rfl, rfl, h, h1, h2, w⟩
/-! ### the states of k51 -/
theorem sortLn_one (l : Ln) : sortLn [l] = [l] := by simp [sortLn]
theorem sortPr_one (l : Pr) : sortPr [l] = [l] := by simp [sortPr]
theorem lineOk_iff {a b c : Int} : lineOk a b c = true ↔ (1 ≤ a ∧ a ≤ 1000000) ∧ (0 ≤ b ∧ b ≤ 1000000) ∧ (-1000000000000 ≤ c ∧ c ≤ 1000000000000) ∧ c ≠ 0 := by
  simp [lineOk]
theorem needLine_none {ls : List Ln} {l : Ln} (h1 : lineOk l.1 l.2.1 l.2.2 = true) (h2 : l.1 ∉ ids ls) (h3 : ls.length ≠ 60) : needLine ls l = none := by
  unfold needLine
  rw [if_neg (by rw [h1]; decide), if_neg h2, if_neg h3]
theorem addOwn_ok {s : Stt} {l : Ln} (h1 : lineOk l.1 l.2.1 l.2.2 = true) (h2 : l.1 ∉ ids s.own) (h3 : s.own.length ≠ 60) : addOwn s l = .ok { s with own := sortLn (s.own ++ [l]) } := by
  unfold addOwn
  rw [needLine_none h1 h2 h3]
theorem addOther_ok {s : Stt} {l : Ln} (h1 : lineOk l.1 l.2.1 l.2.2 = true) (h2 : l.1 ∉ ids s.other) (h3 : s.other.length ≠ 60) : addOther s l = .ok { s with other := sortLn (s.other ++ [l]) } := by
  unfold addOther
  rw [needLine_none h1 h2 h3]
theorem known {is : List Int} {i : Int} (h : i ∈ is) : needKnown is i = none := if_pos h
theorem confirm_ok {s : Stt} {i j : Int} (h1 : i ∈ ids s.own) (h2 : j ∈ ids s.other) (h3 : i ∉ s.fixed.map (·.1)) (h4 : j ∉ s.fixed.map (·.2)) : confirmS s i j = .ok { s with fixed := sortPr (s.fixed ++ [(i, j)]) } := by
  unfold confirmS
  rw [known h1]
  simp only [known h2]
  rw [if_neg h3, if_neg h4]
theorem price_ok {s : Stt} {i : Int} (h0 : 0 ≤ i) (h1 : i ≤ 1000000000000) : setPrice s i = .ok { s with cap := i } := by
  unfold setPrice
  rw [if_pos (by simp [priceOk, h0, h1])]
theorem open_ok {s : Stt} {i : Int} (h : i ∈ s.fixed.map (·.1)) : openAgain s i = .ok { s with fixed := s.fixed.filter fun p => decide (p.1 ≠ i) } := by
  unfold openAgain
  rw [known h]
theorem dropOwn_ok {s : Stt} {i : Int} (h : i ∈ ids s.own) : dropOwn s i = .ok { s with own := s.own.filter fun l => decide (l.1 ≠ i), fixed := s.fixed.filter fun p => decide (p.1 ≠ i) } := by
  unfold dropOwn
  rw [known h]
theorem dropOther_ok {s : Stt} {i : Int} (h : i ∈ ids s.other) : dropOther s i = .ok { s with other := s.other.filter fun l => decide (l.1 ≠ i), fixed := s.fixed.filter fun p => decide (p.2 ≠ i) } := by
  unfold dropOther
  rw [known h]
theorem cmpat {K : Frag} {μ : Mem} {c : Nat} {a : Addr} {sts : List Stt} {k : Nat} {s : Stt} (h : μ[c]? = some (a, cmpMo K sts k)) (n : sts[k]? = some s) (h1 : Nat.ble sts.length 100000 = true) (h2 : Nat.ble s.own.length 1000 = true) (h3 : Nat.ble s.other.length 1000 = true) (h4 : Nat.ble s.fixed.length 1000 = true) : CmpAt K μ c a sts k s := ⟨h, n, Nat.le_of_ble_eq_true h1, Nat.le_of_ble_eq_true h2, Nat.le_of_ble_eq_true h3, Nat.le_of_ble_eq_true h4⟩
end Ml

/-! Ml17: from the facts to the law's own walk. -/
namespace Ml
open PySem L2 PySem.W PySem.Calls PyProof.Rows
theorem reps_ints {K : Frag} {T : Hp} : ∀ ns : List Int, Reps K T (ns.map V.int) (ns.map Dt.int)
  | [] => .nil
  | n :: ns => .cons (.int n) (reps_ints ns)
theorem Good.bindsTo {fa : List Fc} {fn : List DefP} {K : Frag} {mg : Str → Option Value} (G : Good fa fn K mg) (i : Nat) {d : DefP} (h : fn[i]? = some d) (hd : d.dfl = []) {ps : List Str} (hb : ∀ (kV doc pm : Value) (an : Option Addr) (cdv ct : Value) (us : List Value), us.length = ps.length → bindArgs (fnOf d.name d.qual (defArgs d.st) (defBody d.st) (defScope d.st) .none kV doc pm an cdv ct) ⟨us, []⟩ = pure (ps.zip us)) (s : Shared) (us : List Value) (hl : us.length = ps.length) : BindsTo s (fdOf K (d.at_ K)) ⟨us, []⟩ (ps.zip us) := by
  obtain ⟨⟨oc, od, dV, kV, doc, pm, an, cdv, ct, osl, e, hl, hc, hv, hk⟩, kp⟩ := G.def_ i h
  have e0 : d.dvs K = [] := by unfold DefP.dvs; rw [hd]; rfl
  rw [e0] at hv
  rcases hv with ⟨_, rfl⟩ | ⟨hne, _⟩
  · rw [e]
    exact .of_eq (hb kV doc pm an cdv ct us ‹_›)
  · exact absurd rfl hne
theorem walk_gen {l : OpenLaw} {q : Program} {loose : List Str} {XP : (Str → Option Value) → Heap → Prop} {d : DefRec} {fa : List Fc} {fn : List DefP} {n k : Nat} (hn : l.most = some 63) (hdf : d.params.defaults = []) (hr : Room k callerA) (hd : d.name = "law")
    (F : ∀ (w : World) (K : Frag) (mg : Str → Option Value), Good fa fn K mg → ∀ base : Heap, FnOk l.prog w K mg base (L2.CX l.prog w) k (gA "law" K) (fdOf K (gA "law" K)) ["script"] (spD K (sp_law K)))
    (bt : ∀ (K : Frag) (mg : Str → Option Value), Good fa fn K mg → ∀ (s : Shared) (u : Value), BindsTo s (fdOf K (gA "law" K)) { pos := [u] } [("script", u)])
    (glo : ∀ (K : Frag) (mg : Str → Option Value), Good fa fn K mg → mg "law" = some (.ref (gA "law" K))) : PySem.W.WalkO q loose XP (hookP n fa fn).says l.row.toRowW d [] (fun f vs => PySem.call f vs) :=
  Att.attach_callB hn hdf fun w s₀ s₁ mg mb a' o pm cd doc a vs ns G Y ho ht hcd hmg hobj hints hlen hbits hg => by
    obtain ⟨K, KX, e⟩ := Y
    have GG : Good fa fn K mg := ⟨e, s₁.heap, KX, G.T.g⟩
    have ea : a' = gA "law" K := by
      rw [hd, glo K mg GG] at hmg
      cases hmg
      rfl
    subst ea
    refine law_call KX G.T.g G.T.b G.T.builtins G.T.nolimit hg hobj hints (Nat.le_trans hlen (by decide)) hr (fun base _ _ => F w K mg GG base) (bt K mg GG) (fun H hO hS => ?_) fun H e s' ⟨_, _, _, _, _, _, _, _, _, _, _, _, h⟩ => h
    refine ⟨H, [], [.fls (ns.map .int)], fun d _ => d = .bl true, noX, ⟨Sub.refl _, (fun _ h => absurd h List.not_mem_nil), List.nodup_nil⟩, .cons (.fls hS (reps_ints ns)) .nil, ⟨_, rfl, ns, rfl, hlen, hbits, fun _ => rfl⟩, ?_, finX_no⟩
    rintro T' v H' d μ' rfl _ _ r
    exact r.bl_inv
end Ml

namespace Ml.K51
open PySem L2 PySem.W PySem.Calls PyProof.Rows Ml
local macro_rules | `(tactic| nofun) => `(tactic| first | assumption | exact at0 | (apply at_set; nofun) | (apply at1; nofun))
local macro_rules | `(tactic| ac_rfl) => `(tactic| first
  | (with_reducible apply wp_var; with_unfolding_all rfl)
  | with_reducible first
  | refine wps_seq ?_ | refine wps_ret ?_ | refine wps_retN ?_ | refine wps_if ?_ | refine wps_asg ?_ | refine wps_drop ?_ | refine wps_next ?_ | refine wps_par ?_ | refine wps_par3 ?_ | refine wp_methN ?_ | refine wp_cmethN ?_
  | refine wpg_name ?_ | refine wpgs_nil ?_ | refine wpgs_cons ?_
  | refine wp_int ?_ | refine wp_bl ?_ | refine wp_str ?_ | refine wp_non ?_ | refine wp_ty ?_ | refine wp_ref ?_
  | refine wp_op ?_ | refine wp_un ?_ | refine wp_cb ?_ | refine wpa_nil ?_ | refine wpa_cons ?_ | refine wpa_star ?_ | refine wp_tup ?_
  | refine wpt_B ?_ | refine wpt_test ?_ | refine wpt_and ?_ | refine wpt_or ?_ | refine wpt_not ?_ | refine wp_andV ?_ | refine wp_orV ?_ | refine wp_notV ?_ | refine wp_if ?_ | refine wpt_yes ?_
  | refine wp_chain ?_ | refine wp_call ?_ | refine wp_fldX ?_ | refine wps_fldP ?_ | refine wp_methUX (fun _ _ _ _ => rfl) ?_ | refine wp_methU ?_ | refine wp_prop ?_ | refine wp_lst ?_
  | refine wp_isN ?_ | refine wp_notN ?_ | refine rw_eqI ?_ | refine rw_neI ?_ | refine rw_eqS ?_ | refine rw_neS ?_ | refine elem_i ?_ | refine rw_U (fun _ => .int _) ?_
  | refine in1 ?_ | refine in2 ?_ | refine in3 ?_ | refine in4 ?_ | refine in5 ?_ | refine in0 ?_ | refine in6 ?_
  | refine exB ?_ | refine exI ?_ | refine exL ?_
  | refine rw_I0 (fun _ => .bl _) ?_ | refine rw_I0 (fun _ => .int _) ?_
  | (with_reducible apply wpg_tup; with_unfolding_all rfl)
  | (with_reducible apply fldI; assumption; assumption; with_unfolding_all rfl)
  | (with_reducible apply fldC; nofun; assumption; assumption; with_unfolding_all rfl)
  | (with_reducible apply putat; nofun; assumption; assumption; with_unfolding_all rfl)
  | (with_reducible apply methat; nofun; with_unfolding_all rfl)
  | (with_reducible apply methatI; with_unfolding_all rfl)
  | (with_reducible apply propat; nofun)
  | (with_reducible apply lenat; with_unfolding_all rfl)
  | (with_reducible apply itT; with_unfolding_all rfl)
  | (with_reducible apply itF; with_unfolding_all rfl))
def top (i : Nat) : Stmt := PySem.Challenge.pw_matchlines_k51_comparisons_by_name.main.body.getD i (.Pass ⟨0, 0, 0, 0⟩)
abbrev s_BadLine___init__ : Stmt := inClass (top 15) 0
def N_BadLine___init__ : List Str := ["self", "value"]
theorem sc_BadLine___init__ : FnScope N_BadLine___init__ ["self", "value"] (defScope s_BadLine___init__) := ⟨rfl, rfl, rfl, by decide +kernel, rfl, by decide +kernel, by decide +kernel⟩
abbrev s_BadPrice___init__ : Stmt := inClass (top 16) 0
def N_BadPrice___init__ : List Str := ["self", "value"]
theorem sc_BadPrice___init__ : FnScope N_BadPrice___init__ ["self", "value"] (defScope s_BadPrice___init__) := ⟨rfl, rfl, rfl, by decide +kernel, rfl, by decide +kernel, by decide +kernel⟩
abbrev s_BadNumber___init__ : Stmt := inClass (top 17) 0
def N_BadNumber___init__ : List Str := ["self", "value"]
theorem sc_BadNumber___init__ : FnScope N_BadNumber___init__ ["self", "value"] (defScope s_BadNumber___init__) := ⟨rfl, rfl, rfl, by decide +kernel, rfl, by decide +kernel, by decide +kernel⟩
abbrev s_UnknownLine___init__ : Stmt := inClass (top 18) 0
def N_UnknownLine___init__ : List Str := ["self", "row_id"]
theorem sc_UnknownLine___init__ : FnScope N_UnknownLine___init__ ["self", "row_id"] (defScope s_UnknownLine___init__) := ⟨rfl, rfl, rfl, by decide +kernel, rfl, by decide +kernel, by decide +kernel⟩
abbrev s_TakenId___init__ : Stmt := inClass (top 19) 0
def N_TakenId___init__ : List Str := ["self", "row_id"]
theorem sc_TakenId___init__ : FnScope N_TakenId___init__ ["self", "row_id"] (defScope s_TakenId___init__) := ⟨rfl, rfl, rfl, by decide +kernel, rfl, by decide +kernel, by decide +kernel⟩
abbrev s_TakenLine___init__ : Stmt := inClass (top 20) 0
def N_TakenLine___init__ : List Str := ["self", "row_id"]
theorem sc_TakenLine___init__ : FnScope N_TakenLine___init__ ["self", "row_id"] (defScope s_TakenLine___init__) := ⟨rfl, rfl, rfl, by decide +kernel, rfl, by decide +kernel, by decide +kernel⟩
abbrev s_is_integer : Stmt := top 6
def N_is_integer : List Str := ["value"]
theorem sc_is_integer : FnScope N_is_integer ["value"] (defScope s_is_integer) := ⟨rfl, rfl, rfl, by decide +kernel, rfl, by decide +kernel, by decide +kernel⟩
abbrev s_is_between : Stmt := top 7
def N_is_between : List Str := ["value", "low", "high"]
theorem sc_is_between : FnScope N_is_between ["value", "low", "high"] (defScope s_is_between) := ⟨rfl, rfl, rfl, by decide +kernel, rfl, by decide +kernel, by decide +kernel⟩
abbrev s_is_line : Stmt := top 8
def N_is_line : List Str := ["value", "row_id", "day", "amount"]
theorem sc_is_line : FnScope N_is_line ["value"] (defScope s_is_line) := ⟨rfl, rfl, rfl, by decide +kernel, rfl, by decide +kernel, by decide +kernel⟩
abbrev s_is_price : Stmt := top 9
def N_is_price : List Str := ["value"]
theorem sc_is_price : FnScope N_is_price ["value"] (defScope s_is_price) := ⟨rfl, rfl, rfl, by decide +kernel, rfl, by decide +kernel, by decide +kernel⟩
abbrev s_is_id_in : Stmt := top 37
def N_is_id_in : List Str := ["value", "lines", "line"]
theorem sc_is_id_in : FnScope N_is_id_in ["value", "lines"] (defScope s_is_id_in) := ⟨rfl, rfl, rfl, by decide +kernel, rfl, by decide +kernel, by decide +kernel⟩
abbrev s_with_line : Stmt := top 38
def N_with_line : List Str := ["lines", "line"]
theorem sc_with_line : FnScope N_with_line ["lines", "line"] (defScope s_with_line) := ⟨rfl, rfl, rfl, by decide +kernel, rfl, by decide +kernel, by decide +kernel⟩
abbrev s_without_id : Stmt := top 39
def N_without_id : List Str := ["lines", "row_id", "line"]
theorem sc_without_id : FnScope N_without_id ["lines", "row_id"] (defScope s_without_id) := ⟨rfl, rfl, rfl, by decide +kernel, rfl, by decide +kernel, by decide +kernel⟩
abbrev s_State___init__ : Stmt := inClass (top 40) 0
def N_State___init__ : List Str := ["self", "mine", "theirs", "cap", "fixed"]
theorem sc_State___init__ : FnScope N_State___init__ ["self", "mine", "theirs", "cap", "fixed"] (defScope s_State___init__) := ⟨rfl, rfl, rfl, by decide +kernel, rfl, by decide +kernel, by decide +kernel⟩
abbrev s_State_is_same : Stmt := inClass (top 40) 1
def N_State_is_same : List Str := ["self", "second"]
theorem sc_State_is_same : FnScope N_State_is_same ["self", "second"] (defScope s_State_is_same) := ⟨rfl, rfl, rfl, by decide +kernel, rfl, by decide +kernel, by decide +kernel⟩
abbrev s_Comparison___init__ : Stmt := inClass (top 41) 1
def N_Comparison___init__ : List Str := ["self"]
theorem sc_Comparison___init__ : FnScope N_Comparison___init__ ["self"] (defScope s_Comparison___init__) := ⟨rfl, rfl, rfl, by decide +kernel, rfl, by decide +kernel, by decide +kernel⟩
abbrev s_Comparison_made : Stmt := inClass (top 41) 2
def N_Comparison_made : List Str := ["cls", "own", "other", "price", "confirmed", "found"]
theorem sc_Comparison_made : FnScope N_Comparison_made ["cls", "own", "other", "price", "confirmed"] (defScope s_Comparison_made) := ⟨rfl, rfl, rfl, by decide +kernel, rfl, by decide +kernel, by decide +kernel⟩
abbrev s_Comparison_now : Stmt := inClass (top 41) 3
def N_Comparison_now : List Str := ["self"]
theorem sc_Comparison_now : FnScope N_Comparison_now ["self"] (defScope s_Comparison_now) := ⟨rfl, rfl, rfl, by decide +kernel, rfl, by decide +kernel, by decide +kernel⟩
abbrev s_Comparison_own : Stmt := inClass (top 41) 4
def N_Comparison_own : List Str := ["self"]
theorem sc_Comparison_own : FnScope N_Comparison_own ["self"] (defScope s_Comparison_own) := ⟨rfl, rfl, rfl, by decide +kernel, rfl, by decide +kernel, by decide +kernel⟩
abbrev s_Comparison_other : Stmt := inClass (top 41) 5
def N_Comparison_other : List Str := ["self"]
theorem sc_Comparison_other : FnScope N_Comparison_other ["self"] (defScope s_Comparison_other) := ⟨rfl, rfl, rfl, by decide +kernel, rfl, by decide +kernel, by decide +kernel⟩
abbrev s_Comparison_price : Stmt := inClass (top 41) 6
def N_Comparison_price : List Str := ["self"]
theorem sc_Comparison_price : FnScope N_Comparison_price ["self"] (defScope s_Comparison_price) := ⟨rfl, rfl, rfl, by decide +kernel, rfl, by decide +kernel, by decide +kernel⟩
abbrev s_Comparison_confirmed : Stmt := inClass (top 41) 7
def N_Comparison_confirmed : List Str := ["self"]
theorem sc_Comparison_confirmed : FnScope N_Comparison_confirmed ["self"] (defScope s_Comparison_confirmed) := ⟨rfl, rfl, rfl, by decide +kernel, rfl, by decide +kernel, by decide +kernel⟩
abbrev s_Comparison_keep : Stmt := inClass (top 41) 8
def N_Comparison_keep : List Str := ["self", "mine", "theirs", "cap", "fixed"]
theorem sc_Comparison_keep : FnScope N_Comparison_keep ["self", "mine", "theirs", "cap", "fixed"] (defScope s_Comparison_keep) := ⟨rfl, rfl, rfl, by decide +kernel, rfl, by decide +kernel, by decide +kernel⟩
abbrev s_Comparison_need_line : Stmt := inClass (top 41) 9
def N_Comparison_need_line : List Str := ["self", "lines", "line"]
theorem sc_Comparison_need_line : FnScope N_Comparison_need_line ["self", "lines", "line"] (defScope s_Comparison_need_line) := ⟨rfl, rfl, rfl, by decide +kernel, rfl, by decide +kernel, by decide +kernel⟩
abbrev s_Comparison_need_known : Stmt := inClass (top 41) 10
def N_Comparison_need_known : List Str := ["self", "lines", "row_id"]
theorem sc_Comparison_need_known : FnScope N_Comparison_need_known ["self", "lines", "row_id"] (defScope s_Comparison_need_known) := ⟨rfl, rfl, rfl, by decide +kernel, rfl, by decide +kernel, by decide +kernel⟩
abbrev s_Comparison_add_own : Stmt := inClass (top 41) 11
def N_Comparison_add_own : List Str := ["self", "row_id", "day", "amount", "line", "state"]
theorem sc_Comparison_add_own : FnScope N_Comparison_add_own ["self", "row_id", "day", "amount"] (defScope s_Comparison_add_own) := ⟨rfl, rfl, rfl, by decide +kernel, rfl, by decide +kernel, by decide +kernel⟩
abbrev s_Comparison_add_other : Stmt := inClass (top 41) 12
def N_Comparison_add_other : List Str := ["self", "row_id", "day", "amount", "line", "state"]
theorem sc_Comparison_add_other : FnScope N_Comparison_add_other ["self", "row_id", "day", "amount"] (defScope s_Comparison_add_other) := ⟨rfl, rfl, rfl, by decide +kernel, rfl, by decide +kernel, by decide +kernel⟩
abbrev s_Comparison_drop_own : Stmt := inClass (top 41) 13
def N_Comparison_drop_own : List Str := ["self", "row_id", "state", "fixed", "pair"]
theorem sc_Comparison_drop_own : FnScope N_Comparison_drop_own ["self", "row_id"] (defScope s_Comparison_drop_own) := ⟨rfl, rfl, rfl, by decide +kernel, rfl, by decide +kernel, by decide +kernel⟩
abbrev s_Comparison_drop_other : Stmt := inClass (top 41) 14
def N_Comparison_drop_other : List Str := ["self", "row_id", "state", "fixed", "pair"]
theorem sc_Comparison_drop_other : FnScope N_Comparison_drop_other ["self", "row_id"] (defScope s_Comparison_drop_other) := ⟨rfl, rfl, rfl, by decide +kernel, rfl, by decide +kernel, by decide +kernel⟩
abbrev s_Comparison_set_price : Stmt := inClass (top 41) 15
def N_Comparison_set_price : List Str := ["self", "price", "state"]
theorem sc_Comparison_set_price : FnScope N_Comparison_set_price ["self", "price"] (defScope s_Comparison_set_price) := ⟨rfl, rfl, rfl, by decide +kernel, rfl, by decide +kernel, by decide +kernel⟩
abbrev s_Comparison_open_again : Stmt := inClass (top 41) 17
def N_Comparison_open_again : List Str := ["self", "own_id", "state", "pair"]
theorem sc_Comparison_open_again : FnScope N_Comparison_open_again ["self", "own_id"] (defScope s_Comparison_open_again) := ⟨rfl, rfl, rfl, by decide +kernel, rfl, by decide +kernel, by decide +kernel⟩
abbrev s_Comparison_confirm : Stmt := inClass (top 41) 16
def N_Comparison_confirm : List Str := ["self", "own_id", "other_id", "state", "pair"]
theorem sc_Comparison_confirm : FnScope N_Comparison_confirm ["self", "own_id", "other_id"] (defScope s_Comparison_confirm) := ⟨rfl, rfl, rfl, by decide +kernel, rfl, by decide +kernel, by decide +kernel⟩
abbrev s_Comparison___eq__ : Stmt := inClass (top 41) 26
def N_Comparison___eq__ : List Str := ["self", "other"]
theorem sc_Comparison___eq__ : FnScope N_Comparison___eq__ ["self", "other"] (defScope s_Comparison___eq__) := ⟨rfl, rfl, rfl, by decide +kernel, rfl, by decide +kernel, by decide +kernel⟩
abbrev s__law_draw : Stmt := top 44
def N__law_draw : List Str := ["stream", "size", "found"]
theorem sc__law_draw : FnScope N__law_draw ["stream", "size"] (defScope s__law_draw) := ⟨rfl, rfl, rfl, by decide +kernel, rfl, by decide +kernel, by decide +kernel⟩
abbrev s__law_stream : Stmt := top 43
def N__law_stream : List Str := ["script", "start", "seed", "number", "digits"]
theorem sc__law_stream : FnScope N__law_stream ["script", "start"] (defScope s__law_stream) := ⟨rfl, rfl, rfl, by decide +kernel, rfl, by decide +kernel, by decide +kernel⟩
abbrev s_law : Stmt := top 46
def N_law : List Str := ["script", "stream", "number", "at", "cap", "one", "two", "made"]
theorem sc_law : FnScope N_law ["script"] (defScope s_law) := ⟨rfl, rfl, rfl, by decide +kernel, rfl, by decide +kernel, by decide +kernel⟩
abbrev fa : List Fc := [
  .he (.free "isinstance"),
  .he (.free "int"),
  .he (.free "bool"),
  .he (.glo "is_integer"),
  .he (.free "tuple"),
  .he (.free "len"),
  .he (.glo "is_between"),
  .he (.int "GREATEST_ID" 1000000),
  .he (.int "LAST_DAY" 1000000),
  .he (.int "GREATEST_AMOUNT" 1000000000000),
  .he (.int "GREATEST_PRICE" 1000000000000),
  .he (.free "sorted"),
  .he (.mkr "State"),
  .he (.glo "State"),
  .he (.mkr "Comparison"),
  .he (.free "list"),
  .he (.glo "is_line"),
  .exc1 "BadLine" "value",
  .he (.glo "BadLine"),
  .he (.glo "is_id_in"),
  .exc1 "TakenId" "row_id",
  .he (.glo "TakenId"),
  .con "Comparison" "LIMIT" 60,
  .exc1 "BadNumber" "value",
  .he (.glo "BadNumber"),
  .exc1 "UnknownLine" "row_id",
  .he (.glo "UnknownLine"),
  .he (.cls "Comparison"),
  .he (.meth "Comparison" "need_line"),
  .prop "Comparison" "own",
  .he (.meth "Comparison" "now"),
  .he (.meth "Comparison" "keep"),
  .he (.glo "with_line"),
  .prop "Comparison" "other",
  .he (.meth "Comparison" "need_known"),
  .he (.glo "without_id"),
  .he (.glo "is_price"),
  .exc1 "BadPrice" "value",
  .he (.glo "BadPrice"),
  .prop "Comparison" "confirmed",
  .exc1 "TakenLine" "row_id",
  .he (.glo "TakenLine"),
  .he (.glo "Comparison"),
  .he (.cls "State"),
  .he (.meth "State" "is_same"),
  .he (.glo "_law_stream"),
  .he (.glo "_law_draw"),
  .he (.meth "Comparison" "add_own"),
  .he (.meth "Comparison" "add_other"),
  .he (.meth "Comparison" "set_price"),
  .he (.meth "Comparison" "confirm"),
  .cmet "Comparison" "made",
  .he (.meth "Comparison" "__eq__"),
  .he (.meth "Comparison" "open_again"),
  .he (.meth "Comparison" "drop_own"),
  .he (.meth "Comparison" "drop_other"),
  .prop "Comparison" "price",
  .he (.glo "law"),
  .he (.glo "MatchError"),
  .exc0 "MatchError",
  .he (.noat "State" "mine"),
  .he (.noat "State" "theirs"),
  .he (.noat "State" "cap"),
  .he (.noat "State" "fixed"),
  .he (.noat "Comparison" "states"),
  .he (.noat "Comparison" "spot"),
  .isi "Comparison"]
abbrev fn : List DefP := [
  ⟨mA "BadLine" "__init__", "__init__", "BadLine.__init__", s_BadLine___init__, []⟩,
  ⟨mA "BadPrice" "__init__", "__init__", "BadPrice.__init__", s_BadPrice___init__, []⟩,
  ⟨mA "BadNumber" "__init__", "__init__", "BadNumber.__init__", s_BadNumber___init__, []⟩,
  ⟨mA "UnknownLine" "__init__", "__init__", "UnknownLine.__init__", s_UnknownLine___init__, []⟩,
  ⟨mA "TakenId" "__init__", "__init__", "TakenId.__init__", s_TakenId___init__, []⟩,
  ⟨mA "TakenLine" "__init__", "__init__", "TakenLine.__init__", s_TakenLine___init__, []⟩,
  ⟨gA "is_integer", "is_integer", "is_integer", s_is_integer, []⟩,
  ⟨gA "is_between", "is_between", "is_between", s_is_between, []⟩,
  ⟨gA "is_line", "is_line", "is_line", s_is_line, []⟩,
  ⟨gA "is_price", "is_price", "is_price", s_is_price, []⟩,
  ⟨gA "is_id_in", "is_id_in", "is_id_in", s_is_id_in, []⟩,
  ⟨gA "with_line", "with_line", "with_line", s_with_line, []⟩,
  ⟨gA "without_id", "without_id", "without_id", s_without_id, []⟩,
  ⟨mA "State" "__init__", "__init__", "State.__init__", s_State___init__, []⟩,
  ⟨mA "State" "is_same", "is_same", "State.is_same", s_State_is_same, []⟩,
  ⟨mA "Comparison" "__init__", "__init__", "Comparison.__init__", s_Comparison___init__, []⟩,
  ⟨cA "Comparison" "made", "made", "Comparison.made", s_Comparison_made, []⟩,
  ⟨mA "Comparison" "now", "now", "Comparison.now", s_Comparison_now, []⟩,
  ⟨pA "Comparison" "own", "own", "Comparison.own", s_Comparison_own, []⟩,
  ⟨pA "Comparison" "other", "other", "Comparison.other", s_Comparison_other, []⟩,
  ⟨pA "Comparison" "price", "price", "Comparison.price", s_Comparison_price, []⟩,
  ⟨pA "Comparison" "confirmed", "confirmed", "Comparison.confirmed", s_Comparison_confirmed, []⟩,
  ⟨mA "Comparison" "keep", "keep", "Comparison.keep", s_Comparison_keep, []⟩,
  ⟨mA "Comparison" "need_line", "need_line", "Comparison.need_line", s_Comparison_need_line, []⟩,
  ⟨mA "Comparison" "need_known", "need_known", "Comparison.need_known", s_Comparison_need_known, []⟩,
  ⟨mA "Comparison" "add_own", "add_own", "Comparison.add_own", s_Comparison_add_own, []⟩,
  ⟨mA "Comparison" "add_other", "add_other", "Comparison.add_other", s_Comparison_add_other, []⟩,
  ⟨mA "Comparison" "drop_own", "drop_own", "Comparison.drop_own", s_Comparison_drop_own, []⟩,
  ⟨mA "Comparison" "drop_other", "drop_other", "Comparison.drop_other", s_Comparison_drop_other, []⟩,
  ⟨mA "Comparison" "set_price", "set_price", "Comparison.set_price", s_Comparison_set_price, []⟩,
  ⟨mA "Comparison" "open_again", "open_again", "Comparison.open_again", s_Comparison_open_again, []⟩,
  ⟨mA "Comparison" "confirm", "confirm", "Comparison.confirm", s_Comparison_confirm, []⟩,
  ⟨mA "Comparison" "__eq__", "__eq__", "Comparison.__eq__", s_Comparison___eq__, []⟩,
  ⟨gA "_law_draw", "_law_draw", "_law_draw", s__law_draw, []⟩,
  ⟨gA "_law_stream", "_law_stream", "_law_stream", s__law_stream, []⟩,
  ⟨gA "law", "law", "law", s_law, []⟩]
theorem b_BadLine___init__ {K : Frag} {mg : Str → Option Value} (G : Good fa fn K mg) : L2.Binds K (fdOf K (mA "BadLine" "__init__" K)) ["self", "value"] [] := G.binds 0 rfl rfl fun _ _ _ _ _ _ us hl => match us, hl with | [_, _], _ => rfl
theorem b_BadPrice___init__ {K : Frag} {mg : Str → Option Value} (G : Good fa fn K mg) : L2.Binds K (fdOf K (mA "BadPrice" "__init__" K)) ["self", "value"] [] := G.binds 1 rfl rfl fun _ _ _ _ _ _ us hl => match us, hl with | [_, _], _ => rfl
theorem b_BadNumber___init__ {K : Frag} {mg : Str → Option Value} (G : Good fa fn K mg) : L2.Binds K (fdOf K (mA "BadNumber" "__init__" K)) ["self", "value"] [] := G.binds 2 rfl rfl fun _ _ _ _ _ _ us hl => match us, hl with | [_, _], _ => rfl
theorem b_UnknownLine___init__ {K : Frag} {mg : Str → Option Value} (G : Good fa fn K mg) : L2.Binds K (fdOf K (mA "UnknownLine" "__init__" K)) ["self", "row_id"] [] := G.binds 3 rfl rfl fun _ _ _ _ _ _ us hl => match us, hl with | [_, _], _ => rfl
theorem b_TakenId___init__ {K : Frag} {mg : Str → Option Value} (G : Good fa fn K mg) : L2.Binds K (fdOf K (mA "TakenId" "__init__" K)) ["self", "row_id"] [] := G.binds 4 rfl rfl fun _ _ _ _ _ _ us hl => match us, hl with | [_, _], _ => rfl
theorem b_TakenLine___init__ {K : Frag} {mg : Str → Option Value} (G : Good fa fn K mg) : L2.Binds K (fdOf K (mA "TakenLine" "__init__" K)) ["self", "row_id"] [] := G.binds 5 rfl rfl fun _ _ _ _ _ _ us hl => match us, hl with | [_, _], _ => rfl
theorem b_is_integer {K : Frag} {mg : Str → Option Value} (G : Good fa fn K mg) : L2.Binds K (fdOf K (gA "is_integer" K)) ["value"] [] := G.binds 6 rfl rfl fun _ _ _ _ _ _ us hl => match us, hl with | [_], _ => rfl
theorem b_is_between {K : Frag} {mg : Str → Option Value} (G : Good fa fn K mg) : L2.Binds K (fdOf K (gA "is_between" K)) ["value", "low", "high"] [] := G.binds 7 rfl rfl fun _ _ _ _ _ _ us hl => match us, hl with | [_, _, _], _ => rfl
theorem b_is_line {K : Frag} {mg : Str → Option Value} (G : Good fa fn K mg) : L2.Binds K (fdOf K (gA "is_line" K)) ["value"] [] := G.binds 8 rfl rfl fun _ _ _ _ _ _ us hl => match us, hl with | [_], _ => rfl
theorem b_is_price {K : Frag} {mg : Str → Option Value} (G : Good fa fn K mg) : L2.Binds K (fdOf K (gA "is_price" K)) ["value"] [] := G.binds 9 rfl rfl fun _ _ _ _ _ _ us hl => match us, hl with | [_], _ => rfl
theorem b_is_id_in {K : Frag} {mg : Str → Option Value} (G : Good fa fn K mg) : L2.Binds K (fdOf K (gA "is_id_in" K)) ["value", "lines"] [] := G.binds 10 rfl rfl fun _ _ _ _ _ _ us hl => match us, hl with | [_, _], _ => rfl
theorem b_with_line {K : Frag} {mg : Str → Option Value} (G : Good fa fn K mg) : L2.Binds K (fdOf K (gA "with_line" K)) ["lines", "line"] [] := G.binds 11 rfl rfl fun _ _ _ _ _ _ us hl => match us, hl with | [_, _], _ => rfl
theorem b_without_id {K : Frag} {mg : Str → Option Value} (G : Good fa fn K mg) : L2.Binds K (fdOf K (gA "without_id" K)) ["lines", "row_id"] [] := G.binds 12 rfl rfl fun _ _ _ _ _ _ us hl => match us, hl with | [_, _], _ => rfl
theorem b_State___init__ {K : Frag} {mg : Str → Option Value} (G : Good fa fn K mg) : L2.Binds K (fdOf K (mA "State" "__init__" K)) ["self", "mine", "theirs", "cap", "fixed"] [] := G.binds 13 rfl rfl fun _ _ _ _ _ _ us hl => match us, hl with | [_, _, _, _, _], _ => rfl
theorem b_State_is_same {K : Frag} {mg : Str → Option Value} (G : Good fa fn K mg) : L2.Binds K (fdOf K (mA "State" "is_same" K)) ["self", "second"] [] := G.binds 14 rfl rfl fun _ _ _ _ _ _ us hl => match us, hl with | [_, _], _ => rfl
theorem b_Comparison___init__ {K : Frag} {mg : Str → Option Value} (G : Good fa fn K mg) : L2.Binds K (fdOf K (mA "Comparison" "__init__" K)) ["self"] [] := G.binds 15 rfl rfl fun _ _ _ _ _ _ us hl => match us, hl with | [_], _ => rfl
theorem b_Comparison_made {K : Frag} {mg : Str → Option Value} (G : Good fa fn K mg) : L2.Binds K (fdOf K (cA "Comparison" "made" K)) ["cls", "own", "other", "price", "confirmed"] [] := G.binds 16 rfl rfl fun _ _ _ _ _ _ us hl => match us, hl with | [_, _, _, _, _], _ => rfl
theorem kb_Comparison_made_confirmed_price_other_own {K : Frag} {mg : Str → Option Value} (G : Good fa fn K mg) : KBn K (fdOf K (cA "Comparison" "made" K)) ["cls", "own", "other", "price", "confirmed"] 1 ["confirmed", "price", "other", "own"] (gx Value.none [0, 4, 3, 2, 1]) (gx V.non [0, 4, 3, 2, 1]) := G.kbinds 16 rfl rfl [0, 4, 3, 2, 1] fun _ _ _ _ _ _ us ws h1 h2 => match us, ws, h1, h2 with | [_], [_, _, _, _], _, _ => rfl
theorem b_Comparison_now {K : Frag} {mg : Str → Option Value} (G : Good fa fn K mg) : L2.Binds K (fdOf K (mA "Comparison" "now" K)) ["self"] [] := G.binds 17 rfl rfl fun _ _ _ _ _ _ us hl => match us, hl with | [_], _ => rfl
theorem b_Comparison_own {K : Frag} {mg : Str → Option Value} (G : Good fa fn K mg) : L2.Binds K (fdOf K (pA "Comparison" "own" K)) ["self"] [] := G.binds 18 rfl rfl fun _ _ _ _ _ _ us hl => match us, hl with | [_], _ => rfl
theorem b_Comparison_other {K : Frag} {mg : Str → Option Value} (G : Good fa fn K mg) : L2.Binds K (fdOf K (pA "Comparison" "other" K)) ["self"] [] := G.binds 19 rfl rfl fun _ _ _ _ _ _ us hl => match us, hl with | [_], _ => rfl
theorem b_Comparison_price {K : Frag} {mg : Str → Option Value} (G : Good fa fn K mg) : L2.Binds K (fdOf K (pA "Comparison" "price" K)) ["self"] [] := G.binds 20 rfl rfl fun _ _ _ _ _ _ us hl => match us, hl with | [_], _ => rfl
theorem b_Comparison_confirmed {K : Frag} {mg : Str → Option Value} (G : Good fa fn K mg) : L2.Binds K (fdOf K (pA "Comparison" "confirmed" K)) ["self"] [] := G.binds 21 rfl rfl fun _ _ _ _ _ _ us hl => match us, hl with | [_], _ => rfl
theorem b_Comparison_keep {K : Frag} {mg : Str → Option Value} (G : Good fa fn K mg) : L2.Binds K (fdOf K (mA "Comparison" "keep" K)) ["self", "mine", "theirs", "cap", "fixed"] [] := G.binds 22 rfl rfl fun _ _ _ _ _ _ us hl => match us, hl with | [_, _, _, _, _], _ => rfl
theorem b_Comparison_need_line {K : Frag} {mg : Str → Option Value} (G : Good fa fn K mg) : L2.Binds K (fdOf K (mA "Comparison" "need_line" K)) ["self", "lines", "line"] [] := G.binds 23 rfl rfl fun _ _ _ _ _ _ us hl => match us, hl with | [_, _, _], _ => rfl
theorem b_Comparison_need_known {K : Frag} {mg : Str → Option Value} (G : Good fa fn K mg) : L2.Binds K (fdOf K (mA "Comparison" "need_known" K)) ["self", "lines", "row_id"] [] := G.binds 24 rfl rfl fun _ _ _ _ _ _ us hl => match us, hl with | [_, _, _], _ => rfl
theorem b_Comparison_add_own {K : Frag} {mg : Str → Option Value} (G : Good fa fn K mg) : L2.Binds K (fdOf K (mA "Comparison" "add_own" K)) ["self", "row_id", "day", "amount"] [] := G.binds 25 rfl rfl fun _ _ _ _ _ _ us hl => match us, hl with | [_, _, _, _], _ => rfl
theorem kb_Comparison_add_own_amount_day_row_id {K : Frag} {mg : Str → Option Value} (G : Good fa fn K mg) : KBn K (fdOf K (mA "Comparison" "add_own" K)) ["self", "row_id", "day", "amount"] 1 ["amount", "day", "row_id"] (gx Value.none [0, 3, 2, 1]) (gx V.non [0, 3, 2, 1]) := G.kbinds 25 rfl rfl [0, 3, 2, 1] fun _ _ _ _ _ _ us ws h1 h2 => match us, ws, h1, h2 with | [_], [_, _, _], _, _ => rfl
theorem b_Comparison_add_other {K : Frag} {mg : Str → Option Value} (G : Good fa fn K mg) : L2.Binds K (fdOf K (mA "Comparison" "add_other" K)) ["self", "row_id", "day", "amount"] [] := G.binds 26 rfl rfl fun _ _ _ _ _ _ us hl => match us, hl with | [_, _, _, _], _ => rfl
theorem kb_Comparison_add_other_amount_day_row_id {K : Frag} {mg : Str → Option Value} (G : Good fa fn K mg) : KBn K (fdOf K (mA "Comparison" "add_other" K)) ["self", "row_id", "day", "amount"] 1 ["amount", "day", "row_id"] (gx Value.none [0, 3, 2, 1]) (gx V.non [0, 3, 2, 1]) := G.kbinds 26 rfl rfl [0, 3, 2, 1] fun _ _ _ _ _ _ us ws h1 h2 => match us, ws, h1, h2 with | [_], [_, _, _], _, _ => rfl
theorem b_Comparison_drop_own {K : Frag} {mg : Str → Option Value} (G : Good fa fn K mg) : L2.Binds K (fdOf K (mA "Comparison" "drop_own" K)) ["self", "row_id"] [] := G.binds 27 rfl rfl fun _ _ _ _ _ _ us hl => match us, hl with | [_, _], _ => rfl
theorem kb_Comparison_drop_own_row_id {K : Frag} {mg : Str → Option Value} (G : Good fa fn K mg) : KBn K (fdOf K (mA "Comparison" "drop_own" K)) ["self", "row_id"] 1 ["row_id"] (gx Value.none [0, 1]) (gx V.non [0, 1]) := G.kbinds 27 rfl rfl [0, 1] fun _ _ _ _ _ _ us ws h1 h2 => match us, ws, h1, h2 with | [_], [_], _, _ => rfl
theorem b_Comparison_drop_other {K : Frag} {mg : Str → Option Value} (G : Good fa fn K mg) : L2.Binds K (fdOf K (mA "Comparison" "drop_other" K)) ["self", "row_id"] [] := G.binds 28 rfl rfl fun _ _ _ _ _ _ us hl => match us, hl with | [_, _], _ => rfl
theorem kb_Comparison_drop_other_row_id {K : Frag} {mg : Str → Option Value} (G : Good fa fn K mg) : KBn K (fdOf K (mA "Comparison" "drop_other" K)) ["self", "row_id"] 1 ["row_id"] (gx Value.none [0, 1]) (gx V.non [0, 1]) := G.kbinds 28 rfl rfl [0, 1] fun _ _ _ _ _ _ us ws h1 h2 => match us, ws, h1, h2 with | [_], [_], _, _ => rfl
theorem b_Comparison_set_price {K : Frag} {mg : Str → Option Value} (G : Good fa fn K mg) : L2.Binds K (fdOf K (mA "Comparison" "set_price" K)) ["self", "price"] [] := G.binds 29 rfl rfl fun _ _ _ _ _ _ us hl => match us, hl with | [_, _], _ => rfl
theorem kb_Comparison_set_price_price {K : Frag} {mg : Str → Option Value} (G : Good fa fn K mg) : KBn K (fdOf K (mA "Comparison" "set_price" K)) ["self", "price"] 1 ["price"] (gx Value.none [0, 1]) (gx V.non [0, 1]) := G.kbinds 29 rfl rfl [0, 1] fun _ _ _ _ _ _ us ws h1 h2 => match us, ws, h1, h2 with | [_], [_], _, _ => rfl
theorem b_Comparison_open_again {K : Frag} {mg : Str → Option Value} (G : Good fa fn K mg) : L2.Binds K (fdOf K (mA "Comparison" "open_again" K)) ["self", "own_id"] [] := G.binds 30 rfl rfl fun _ _ _ _ _ _ us hl => match us, hl with | [_, _], _ => rfl
theorem kb_Comparison_open_again_own_id {K : Frag} {mg : Str → Option Value} (G : Good fa fn K mg) : KBn K (fdOf K (mA "Comparison" "open_again" K)) ["self", "own_id"] 1 ["own_id"] (gx Value.none [0, 1]) (gx V.non [0, 1]) := G.kbinds 30 rfl rfl [0, 1] fun _ _ _ _ _ _ us ws h1 h2 => match us, ws, h1, h2 with | [_], [_], _, _ => rfl
theorem b_Comparison_confirm {K : Frag} {mg : Str → Option Value} (G : Good fa fn K mg) : L2.Binds K (fdOf K (mA "Comparison" "confirm" K)) ["self", "own_id", "other_id"] [] := G.binds 31 rfl rfl fun _ _ _ _ _ _ us hl => match us, hl with | [_, _, _], _ => rfl
theorem kb_Comparison_confirm_other_id_own_id {K : Frag} {mg : Str → Option Value} (G : Good fa fn K mg) : KBn K (fdOf K (mA "Comparison" "confirm" K)) ["self", "own_id", "other_id"] 1 ["other_id", "own_id"] (gx Value.none [0, 2, 1]) (gx V.non [0, 2, 1]) := G.kbinds 31 rfl rfl [0, 2, 1] fun _ _ _ _ _ _ us ws h1 h2 => match us, ws, h1, h2 with | [_], [_, _], _, _ => rfl
theorem b_Comparison___eq__ {K : Frag} {mg : Str → Option Value} (G : Good fa fn K mg) : L2.Binds K (fdOf K (mA "Comparison" "__eq__" K)) ["self", "other"] [] := G.binds 32 rfl rfl fun _ _ _ _ _ _ us hl => match us, hl with | [_, _], _ => rfl
theorem b__law_draw {K : Frag} {mg : Str → Option Value} (G : Good fa fn K mg) : L2.Binds K (fdOf K (gA "_law_draw" K)) ["stream", "size"] [] := G.binds 33 rfl rfl fun _ _ _ _ _ _ us hl => match us, hl with | [_, _], _ => rfl
theorem b__law_stream {K : Frag} {mg : Str → Option Value} (G : Good fa fn K mg) : L2.Binds K (fdOf K (gA "_law_stream" K)) ["script", "start"] [] := G.binds 34 rfl rfl fun _ _ _ _ _ _ us hl => match us, hl with | [_, _], _ => rfl
theorem b_law {K : Frag} {mg : Str → Option Value} (G : Good fa fn K mg) : L2.Binds K (fdOf K (gA "law" K)) ["script"] [] := G.binds 35 rfl rfl fun _ _ _ _ _ _ us hl => match us, hl with | [_], _ => rfl

/-! ### errors -/
theorem ok_BadLine___init__ {P : Program} {w : World} {K : Frag} {mg : Str → Option Value} {base : Heap} (G : Good fa fn K mg) : FnOk P w K mg base (L2.CX P w) 1 (mA "BadLine" "__init__" K) (fdOf K (mA "BadLine" "__init__" K)) ["self", "value"] (spX K (gA "BadLine" K) (mA "BadLine" "__init__" K) "value") :=
  ok_exc (m := "invalid line") (G.def_ 0 rfl) sc_BadLine___init__ rfl (G.exc1 17 rfl) fun cdv A outer s0 H E hr => pss_cons (ps_expr (pe_oinit rfl (G.glo 58 rfl) (G.exc0 59 rfl) (pa_cons (pv 0) (pa_cons pe_str pa_nil)))) (pss_one (ps_ost (pv 0) (pv 1)))
theorem ok_BadPrice___init__ {P : Program} {w : World} {K : Frag} {mg : Str → Option Value} {base : Heap} (G : Good fa fn K mg) : FnOk P w K mg base (L2.CX P w) 1 (mA "BadPrice" "__init__" K) (fdOf K (mA "BadPrice" "__init__" K)) ["self", "value"] (spX K (gA "BadPrice" K) (mA "BadPrice" "__init__" K) "value") :=
  ok_exc (m := "invalid price") (G.def_ 1 rfl) sc_BadPrice___init__ rfl (G.exc1 37 rfl) fun cdv A outer s0 H E hr => pss_cons (ps_expr (pe_oinit rfl (G.glo 58 rfl) (G.exc0 59 rfl) (pa_cons (pv 0) (pa_cons pe_str pa_nil)))) (pss_one (ps_ost (pv 0) (pv 1)))
theorem ok_BadNumber___init__ {P : Program} {w : World} {K : Frag} {mg : Str → Option Value} {base : Heap} (G : Good fa fn K mg) : FnOk P w K mg base (L2.CX P w) 1 (mA "BadNumber" "__init__" K) (fdOf K (mA "BadNumber" "__init__" K)) ["self", "value"] (spX K (gA "BadNumber" K) (mA "BadNumber" "__init__" K) "value") :=
  ok_exc (m := "invalid number") (G.def_ 2 rfl) sc_BadNumber___init__ rfl (G.exc1 23 rfl) fun cdv A outer s0 H E hr => pss_cons (ps_expr (pe_oinit rfl (G.glo 58 rfl) (G.exc0 59 rfl) (pa_cons (pv 0) (pa_cons pe_str pa_nil)))) (pss_one (ps_ost (pv 0) (pv 1)))
theorem ok_UnknownLine___init__ {P : Program} {w : World} {K : Frag} {mg : Str → Option Value} {base : Heap} (G : Good fa fn K mg) : FnOk P w K mg base (L2.CX P w) 1 (mA "UnknownLine" "__init__" K) (fdOf K (mA "UnknownLine" "__init__" K)) ["self", "row_id"] (spX K (gA "UnknownLine" K) (mA "UnknownLine" "__init__" K) "row_id") :=
  ok_exc (m := "unknown line") (G.def_ 3 rfl) sc_UnknownLine___init__ rfl (G.exc1 25 rfl) fun cdv A outer s0 H E hr => pss_cons (ps_expr (pe_oinit rfl (G.glo 58 rfl) (G.exc0 59 rfl) (pa_cons (pv 0) (pa_cons pe_str pa_nil)))) (pss_one (ps_ost (pv 0) (pv 1)))
theorem ok_TakenId___init__ {P : Program} {w : World} {K : Frag} {mg : Str → Option Value} {base : Heap} (G : Good fa fn K mg) : FnOk P w K mg base (L2.CX P w) 1 (mA "TakenId" "__init__" K) (fdOf K (mA "TakenId" "__init__" K)) ["self", "row_id"] (spX K (gA "TakenId" K) (mA "TakenId" "__init__" K) "row_id") :=
  ok_exc (m := "id is taken") (G.def_ 4 rfl) sc_TakenId___init__ rfl (G.exc1 20 rfl) fun cdv A outer s0 H E hr => pss_cons (ps_expr (pe_oinit rfl (G.glo 58 rfl) (G.exc0 59 rfl) (pa_cons (pv 0) (pa_cons pe_str pa_nil)))) (pss_one (ps_ost (pv 0) (pv 1)))
theorem ok_TakenLine___init__ {P : Program} {w : World} {K : Frag} {mg : Str → Option Value} {base : Heap} (G : Good fa fn K mg) : FnOk P w K mg base (L2.CX P w) 1 (mA "TakenLine" "__init__" K) (fdOf K (mA "TakenLine" "__init__" K)) ["self", "row_id"] (spX K (gA "TakenLine" K) (mA "TakenLine" "__init__" K) "row_id") :=
  ok_exc (m := "line is confirmed") (G.def_ 5 rfl) sc_TakenLine___init__ rfl (G.exc1 40 rfl) fun cdv A outer s0 H E hr => pss_cons (ps_expr (pe_oinit rfl (G.glo 58 rfl) (G.exc0 59 rfl) (pa_cons (pv 0) (pa_cons pe_str pa_nil)))) (pss_one (ps_ost (pv 0) (pv 1)))

/-! ### books -/
/-- b says whether a is a whole number -/
def IsInt (μ : Mem) (a : Dt) (b : Bool) : Prop := (∃ i, a = .int i ∧ b = true) ∨ (b = false ∧ ∃ t, TyD μ a t ∧ (t = "bool" ∨ kitB t "int" = some false))
theorem isInt (μ : Mem) (i : Int) : IsInt μ (.int i) true := .inl ⟨i, rfl, rfl⟩
def q_is_integer (a : Dt) : Post := fun μ W _ => ∃ b, IsInt μ a b ∧ W (.bl b) μ
abbrev sp_is_integer (_ : Frag) : DSp := sp1 q_is_integer
theorem ok_is_integer {P : Program} {w : World} {K : Frag} {mg : Str → Option Value} {base : Heap} (G : Good fa fn K mg) : FnOk P w K mg base (L2.CX P w) 1 (gA "is_integer" K) (fdOf K (gA "is_integer" K)) ["value"] (spD K (sp_is_integer K)) := by
  refine ok_def (G.def_ 6 rfl) sc_is_integer len1 fun cdv A outer s0 H E hr => ⟨_, (pss_one (ps_ret (pe_and (pe_callB (r := rIsi K) call_isi rfl (G.free 0 rfl) (by rfl) (pa_cons (pv 0) (pa_cons (pe_bltn (v := .ty "int") (u := .type "int") rfl (G.free 1 rfl) rfl rfl) pa_nil))) (pe_one (pe_not (pe_callB (r := rIsi K) call_isi rfl (G.free 0 rfl) (by rfl) (pa_cons (pv 0) (pa_cons (pe_bltn (v := .ty "bool") (u := .type "bool") rfl (G.free 2 rfl) rfl rfl) pa_nil)))))))), ?_⟩
  try dsimp only [cxOf]
  rintro ds μ W X ⟨a, rfl, b, hb, w⟩
  repeat ac_rfl
  rcases hb with ⟨i, rfl, rfl⟩ | ⟨rfl, t, ht, rfl | hk⟩
  · refine rw_isi (.int i) (b := true) (by decide +kernel) ⟨_, rfl, ?_⟩
    rw [if_pos rfl]
    repeat ac_rfl
    exact rw_isi (.int i) (b := false) (by decide +kernel) ⟨_, rfl, w⟩
  · refine rw_isi ht (b := true) (by decide +kernel) ⟨_, rfl, ?_⟩
    rw [if_pos rfl]
    repeat ac_rfl
    exact rw_isi ht (b := true) (by decide +kernel) ⟨_, rfl, w⟩
  · refine rw_isi ht hk ⟨_, rfl, ?_⟩
    rw [if_neg (by decide)]
    exact w
/-- low <= a <= high -/
def q_is_between (a lo hi : Dt) : Post := fun μ W _ => ∃ l h, lo = .int l ∧ hi = .int h ∧ ((∃ i, a = .int i ∧ W (.bl (decide (l ≤ i) && decide (i ≤ h))) μ) ∨ (IsInt μ a false ∧ W (.bl false) μ))
abbrev sp_is_between (_ : Frag) : DSp := sp3 q_is_between
theorem ok_is_between {P : Program} {w : World} {K : Frag} {mg : Str → Option Value} {base : Heap} (G : Good fa fn K mg) : FnOk P w K mg base (L2.CX P w) 2 (gA "is_between" K) (fdOf K (gA "is_between" K)) ["value", "low", "high"] (spD K (sp_is_between K)) := by
  have ok_is_integer : FnOk P w K mg base (L2.CX P w) 1 (gA "is_integer" K) (fdOf K (gA "is_integer" K)) ["value"] (spD K (sp_is_integer K)) := ok_is_integer G
  refine ok_def (G.def_ 7 rfl) sc_is_between len3 fun cdv A outer s0 H E hr => ⟨_, (pss_one (ps_ret (pe_and (pe_call ok_is_integer (hr.mono (by decide)) rfl (G.glo 3 rfl) (G.def_ 6 rfl).kp (b_is_integer G) .nil passL (pa_cons (pv 0) pa_nil)) (pe_one (pe_chain op_le op_le (pv 1) (pv 0) (pv 2)))))), ?_⟩
  try dsimp only [cxOf]
  rintro ds μ W X ⟨a, _, _, rfl, l, h, rfl, rfl, w⟩
  repeat ac_rfl
  rcases w with ⟨i, rfl, w⟩ | ⟨hb, w⟩
  · refine ⟨true, isInt _ _, true, rfl, ?_⟩
    repeat ac_rfl
    refine it2 (fun e => ?_) fun e => ?_
    · repeat ac_rfl
      rw [e] at w
      exact w
    · rw [e] at w
      exact w
  · refine ⟨false, hb, false, rfl, ?_⟩
    repeat ac_rfl
    exact w
def q_is_line (a : Dt) : Post := fun μ W _ => ∃ x y z, a = .tup [.int x, .int y, .int z] ∧ W (.bl (lineOk x y z)) μ
abbrev sp_is_line (_ : Frag) : DSp := sp1 q_is_line
theorem ok_is_line {P : Program} {w : World} {K : Frag} {mg : Str → Option Value} {base : Heap} (G : Good fa fn K mg) : FnOk P w K mg base (L2.CX P w) 3 (gA "is_line" K) (fdOf K (gA "is_line" K)) ["value"] (spD K (sp_is_line K)) := by
  have ok_is_between : FnOk P w K mg base (L2.CX P w) 2 (gA "is_between" K) (fdOf K (gA "is_between" K)) ["value", "low", "high"] (spD K (sp_is_between K)) := ok_is_between G
  obtain ⟨tk_GREATEST_ID, hk_GREATEST_ID⟩ := G.int 7 rfl
  obtain ⟨tk_LAST_DAY, hk_LAST_DAY⟩ := G.int 8 rfl
  obtain ⟨tk_GREATEST_AMOUNT, hk_GREATEST_AMOUNT⟩ := G.int 9 rfl
  refine ok_def (G.def_ 8 rfl) sc_is_line len1 fun cdv A outer s0 H E hr => ⟨_, (pss_cons (ps_if (PW.pt (pw_or (pt_not (pt_val (pe_callB (r := rIsi K) call_isi rfl (G.free 0 rfl) (by rfl) (pa_cons (pv 0) (pa_cons (pe_bltn (v := .ty "tuple") (u := .type "tuple") rfl (G.free 4 rfl) rfl rfl) pa_nil))))) (pw_or1 (pt_cmpR op_ne (pe_callB (r := Evl.rLenS K) cr_len rfl (G.free 5 rfl) (by rfl) (pa_cons (pv 0) pa_nil)) pe_int (nomark _))))) (pss_one (ps_ret pe_bl)) pss_nil) (pss_cons (ps_asg (pv 0) (pg_tup (n := 3) rfl (pgs_cons (pg_name (i := 1) sc_is_line.nd rfl (Or.inl rfl)) (pgs_cons (pg_name (i := 2) sc_is_line.nd rfl (Or.inl rfl)) (pgs_cons (pg_name (i := 3) sc_is_line.nd rfl (Or.inl rfl)) pgs_nil))))) (pss_cons (ps_if (PW.pt (pw_or (pt_not (pt_val (pe_call ok_is_between (hr.mono (by decide)) rfl (G.glo 6 rfl) (G.def_ 7 rfl).kp (b_is_between G) .nil passL (pa_cons (pv 1) (pa_cons pe_int (pa_cons (pe_glob (v := .int 1000000) rfl hk_GREATEST_ID ⟨_, rfl⟩) pa_nil)))))) (pw_or1 (pt_not (pt_val (pe_call ok_is_between (hr.mono (by decide)) rfl (G.glo 6 rfl) (G.def_ 7 rfl).kp (b_is_between G) .nil passL (pa_cons (pv 2) (pa_cons pe_int (pa_cons (pe_glob (v := .int 1000000) rfl hk_LAST_DAY ⟨_, rfl⟩) pa_nil))))))))) (pss_one (ps_ret pe_bl)) pss_nil) (pss_one (ps_ret (pe_and (pe_call ok_is_between (hr.mono (by decide)) rfl (G.glo 6 rfl) (G.def_ 7 rfl).kp (b_is_between G) .nil passL (pa_cons (pv 3) (pa_cons (pe_un un_neg (pe_glob (v := .int 1000000000000) rfl hk_GREATEST_AMOUNT ⟨_, rfl⟩)) (pa_cons (pe_glob (v := .int 1000000000000) rfl hk_GREATEST_AMOUNT ⟨_, rfl⟩) pa_nil)))) (pe_one (pe_cmpR op_ne (pv 3) pe_int (nomark _))))))))), ?_⟩
  try dsimp only [cxOf]
  rintro ds μ W X ⟨a, rfl, x, y, z, rfl, w⟩
  repeat ac_rfl
  refine rw_isi (.tup _) (b := true) (by decide +kernel) ?_
  repeat ac_rfl
  refine rw_len (.inr (.inl rfl)) ?_
  repeat ac_rfl
  refine ⟨_, _, rfl, rfl, .inl ⟨_, rfl, ?_⟩⟩
  repeat ac_rfl
  refine it2 (fun e => ?_) fun e => ?_
  · repeat ac_rfl
    have e' : lineOk x y z = false := by simp at e; simp [lineOk]; omega
    rw [e'] at w
    exact w
  · repeat ac_rfl
    refine ⟨_, _, rfl, rfl, .inl ⟨_, rfl, ?_⟩⟩
    repeat ac_rfl
    refine it2 (fun e2 => ?_) fun e2 => ?_
    · repeat ac_rfl
      have e' : lineOk x y z = false := by simp at e e2; simp [lineOk]; omega
      rw [e'] at w
      exact w
    · repeat ac_rfl
      refine ⟨_, _, rfl, rfl, .inl ⟨_, rfl, ?_⟩⟩
      repeat ac_rfl
      refine it2 (fun e3 => ?_) fun e3 => ?_
      · repeat ac_rfl
        have e' : lineOk x y z = !decide (z = 0) := by
          simp at e e2 e3
          have h1 : (1 ≤ x ∧ x ≤ 1000000) ∧ (0 ≤ y ∧ y ≤ 1000000) ∧ -1000000000000 ≤ z ∧ z ≤ 1000000000000 := by omega
          simp [lineOk, h1]
        rw [e'] at w
        exact w
      · have e' : lineOk x y z = false := by simp at e e2 e3; simp [lineOk]; omega
        rw [e'] at w
        exact w
def q_is_price (a : Dt) : Post := fun μ W _ => (∃ i, a = .int i ∧ W (.bl (decide (0 ≤ i) && decide (i ≤ 1000000000000))) μ) ∨ (IsInt μ a false ∧ W (.bl false) μ)
abbrev sp_is_price (_ : Frag) : DSp := sp1 q_is_price
theorem ok_is_price {P : Program} {w : World} {K : Frag} {mg : Str → Option Value} {base : Heap} (G : Good fa fn K mg) : FnOk P w K mg base (L2.CX P w) 3 (gA "is_price" K) (fdOf K (gA "is_price" K)) ["value"] (spD K (sp_is_price K)) := by
  have ok_is_between : FnOk P w K mg base (L2.CX P w) 2 (gA "is_between" K) (fdOf K (gA "is_between" K)) ["value", "low", "high"] (spD K (sp_is_between K)) := ok_is_between G
  obtain ⟨tk_GREATEST_PRICE, hk_GREATEST_PRICE⟩ := G.int 10 rfl
  refine ok_def (G.def_ 9 rfl) sc_is_price len1 fun cdv A outer s0 H E hr => ⟨_, (pss_one (ps_ret (pe_call ok_is_between (hr.mono (by decide)) rfl (G.glo 6 rfl) (G.def_ 7 rfl).kp (b_is_between G) .nil passL (pa_cons (pv 0) (pa_cons pe_int (pa_cons (pe_glob (v := .int 1000000000000) rfl hk_GREATEST_PRICE ⟨_, rfl⟩) pa_nil)))))), ?_⟩
  try dsimp only [cxOf]
  rintro ds μ W X ⟨a, rfl, w⟩
  repeat ac_rfl
  refine ⟨_, _, rfl, rfl, ?_⟩
  rcases w with ⟨i, rfl, w⟩ | ⟨hb, w⟩
  · exact .inl ⟨i, rfl, w⟩
  · exact .inr ⟨hb, w⟩



/-! ### comparison -/
def q_is_id_in (a l : Dt) : Post := fun μ W _ => ∃ rows : List (Int × List Dt), l = .lst (rows.map rowD) ∧ rows.length ≤ 1000000 ∧ ((∃ i, a = .int i ∧ W (.bl (decide (i ∈ rows.map (·.1)))) μ) ∨ (IsInt μ a false ∧ W (.bl false) μ))
abbrev sp_is_id_in (_ : Frag) : DSp := sp2 q_is_id_in
theorem ok_is_id_in {P : Program} {w : World} {K : Frag} {mg : Str → Option Value} {base : Heap} (G : Good fa fn K mg) : FnOk P w K mg base (L2.CX P w) 1 (gA "is_id_in" K) (fdOf K (gA "is_id_in" K)) ["value", "lines"] (spD K (sp_is_id_in K)) := by
  refine ok_def (G.def_ 10 rfl) sc_is_id_in len2 fun cdv A outer s0 H E hr => ⟨_, (pss_one (ps_ret (pe_and (pe_callB (r := rIsi K) call_isi rfl (G.free 0 rfl) (by rfl) (pa_cons (pv 0) (pa_cons (pe_bltn (v := .ty "int") (u := .type "int") rfl (G.free 1 rfl) rfl rfl) pa_nil))) (pe_and (pe_not (pe_callB (r := rIsi K) call_isi rfl (G.free 0 rfl) (by rfl) (pa_cons (pv 0) (pa_cons (pe_bltn (v := .ty "bool") (u := .type "bool") rfl (G.free 2 rfl) rfl rfl) pa_nil)))) (pe_one (pe_cmpR (r := rIn K false) op_in_seq (pv 0) (pe_lc (own := [("line", 2)]) (g := (gName 2)) (tt := tYes) rfl sc_is_id_in.nd (pi_list (pv 1)) (blkOk_by (N := N_is_id_in) (sc := defScope s_is_id_in) (by decide +kernel)) (fun _ _ _ _ _ => (pg_name (i := 2) sc_is_id_in.nd rfl (Or.inl rfl))) (fun _ _ _ _ _ => pts_nil) (fun _ _ _ _ _ => (pe_ix (r := rIxT K) ix_tup (pv 2) pe_int (fun _ _ => rfl)))) rfl)))))), ?_⟩
  try dsimp only [cxOf]
  rintro ds μ W X ⟨a, _, rfl, rows, rfl, hl, w⟩
  repeat ac_rfl
  rcases w with ⟨i, rfl, w⟩ | ⟨⟨i, _, h⟩ | ⟨_, t, ht, rfl | hk⟩, w⟩
  · refine rw_isi (.int i) (b := true) (by decide +kernel) ?_
    repeat ac_rfl
    refine rw_isi (.int i) (b := false) (by decide +kernel) ?_
    repeat ac_rfl
    refine wp_lc0 rowD (fun r => .int r.1) onto_name mono_name (wpi_list ?_)
    repeat ac_rfl
    refine ⟨rows, rfl, hl, fun r hr => ?_, ?_⟩
    · repeat ac_rfl
      exact rw_ixT atI_zero ⟨rfl, rfl⟩
    · have e : rows.map (fun r => Dt.int r.1) = (rows.map (·.1)).map Dt.int := by rw [List.map_map]; rfl
      exact rw_inI (neg := false) (.inl (e ▸ isl)) w
  · cases h
  · refine rw_isi ht (b := true) (by decide +kernel) ?_
    repeat ac_rfl
    refine rw_isi ht (b := true) (by decide +kernel) ?_
    repeat ac_rfl
    exact w
  · refine rw_isi ht hk ?_
    repeat ac_rfl
    exact w
def q_with_line (ls l : Dt) : Post := fun μ W _ => ∃ (xs : List Ln) (x : Ln), ls = .lst (xs.map lnD) ∧ l = lnD x ∧ xs.length ≤ 1000 ∧ W (.lst ((sortLn (xs ++ [x])).map lnD)) μ
abbrev sp_with_line (_ : Frag) : DSp := sp2 q_with_line
theorem ok_with_line {P : Program} {w : World} {K : Frag} {mg : Str → Option Value} {base : Heap} (G : Good fa fn K mg) : FnOk P w K mg base (L2.CX P w) 1 (gA "with_line" K) (fdOf K (gA "with_line" K)) ["lines", "line"] (spD K (sp_with_line K)) := by
  refine ok_def (G.def_ 11 rfl) sc_with_line len2 fun cdv A outer s0 H E hr => ⟨_, (pss_one (ps_ret (pe_callB (r := rSortD K) (cr_sortedD (hu64 hr)) rfl (G.free 11 rfl) (by rfl) (pa_cons (pe_lst (pa_starK K (pv 0) (pa_cons (pv 1) pa_nil))) pa_nil)))), ?_⟩
  try dsimp only [cxOf]
  rintro ds μ W X ⟨_, _, rfl, xs, x, rfl, rfl, hl, w⟩
  repeat ac_rfl
  refine ⟨_, .inl isl, ?_⟩
  repeat ac_rfl
  have e : xs.map lnD ++ [lnD x] = (xs ++ [x]).map lnD := by rw [List.map_append]; rfl
  rw [e]
  refine ⟨by rw [List.length_map, List.length_append, List.length_singleton]; omega, ?_⟩
  repeat ac_rfl
  refine rw_sorted isl (sorts_ln _ (by rw [List.length_append, List.length_singleton]; omega)) ?_
  rw [sortD_ln]
  exact w
def q_without_id (ls i : Dt) : Post := fun μ W _ => ∃ (xs : List Ln) (n : Int), ls = .lst (xs.map lnD) ∧ i = .int n ∧ xs.length ≤ 1000 ∧ W (.lst ((xs.filter fun l => decide (l.1 ≠ n)).map lnD)) μ
abbrev sp_without_id (_ : Frag) : DSp := sp2 q_without_id
theorem ok_without_id {P : Program} {w : World} {K : Frag} {mg : Str → Option Value} {base : Heap} (G : Good fa fn K mg) : FnOk P w K mg base (L2.CX P w) 1 (gA "without_id" K) (fdOf K (gA "without_id" K)) ["lines", "row_id"] (spD K (sp_without_id K)) := by
  refine ok_def (G.def_ 12 rfl) sc_without_id len2 fun cdv A outer s0 H E hr => ⟨_, (pss_one (ps_ret (pe_lc (own := [("line", 2)]) (g := (gName 2)) (tt := _) rfl sc_without_id.nd (pi_list (pv 0)) (blkOk_by (N := N_without_id) (sc := defScope s_without_id) (by decide +kernel)) (fun _ _ _ _ _ => (pg_name (i := 2) sc_without_id.nd rfl (Or.inl rfl))) (fun _ _ _ _ _ => (pts_one (pt_cmpR op_ne (pe_ix (r := rIxT K) ix_tup (pv 2) pe_int (fun _ _ => rfl)) (pv 1) (nomark _)))) (fun _ _ _ _ _ => (pv 2))))), ?_⟩
  try dsimp only [cxOf]
  rintro ds μ W X ⟨_, _, rfl, xs, n, rfl, rfl, hl, w⟩
  repeat ac_rfl
  refine wp_lcX lnD (fun l => decide (l.1 ≠ n)) lnD onto_name mono_name (wpi_list ?_)
  repeat ac_rfl
  refine ⟨xs, rfl, by omega, fun l hl => ?_, w⟩
  repeat ac_rfl
  refine rw_ixT (d := .int l.1) rfl ?_
  repeat ac_rfl
  refine it2 (fun e => ⟨by simpa using e, ?_⟩) fun e => ⟨by simpa using e, rfl⟩
  repeat ac_rfl
  exact ⟨rfl, rfl⟩
def q_State___init__ (K : Frag) (s m t c f : Dt) : Post := fun μ W _ => ∃ (a : Addr) (μ0 : Mem), s = .ref a ∧ μ = (a, .ins (gA "State" K) []) :: μ0 ∧ W .non ((a, .ins (gA "State" K) [("mine", m), ("theirs", t), ("cap", c), ("fixed", f)]) :: μ0)
abbrev sp_State___init__ (K : Frag) : DSp := sp5 (q_State___init__ K)
theorem ok_State___init__ {P : Program} {w : World} {K : Frag} {mg : Str → Option Value} {base : Heap} (G : Good fa fn K mg) : FnOk P w K mg base (L2.CX P w) 1 (mA "State" "__init__" K) (fdOf K (mA "State" "__init__" K)) ["self", "mine", "theirs", "cap", "fixed"] (spD K (sp_State___init__ K)) := by
  have c_State := G.cls 43 rfl
  have n_State_mine := G.noat 60 rfl
  have c_State := G.cls 43 rfl
  have n_State_theirs := G.noat 61 rfl
  have c_State := G.cls 43 rfl
  have n_State_cap := G.noat 62 rfl
  have c_State := G.cls 43 rfl
  have n_State_fixed := G.noat 63 rfl
  refine ok_def (G.def_ 13 rfl) sc_State___init__ len5 fun cdv A outer s0 H E hr => ⟨_, (pss_cons (ps_fld (pv 0) (pv 1) rfl) (pss_cons (ps_fld (pv 0) (pv 2) rfl) (pss_cons (ps_fld (pv 0) (pv 3) rfl) (pss_one (ps_fld (pv 0) (pv 4) rfl))))), ?_⟩
  try dsimp only [cxOf]
  rintro ds μ W X ⟨_, m, t, c, f, rfl, a, μ0, rfl, rfl, w⟩
  repeat ac_rfl
  exact w
def q_State_is_same (K : Frag) (x y : Dt) : Post := fun μ W _ => ∃ s t : Stt, x = stD K s ∧ y = stD K t ∧ W (.bl (decide (s = t))) μ
abbrev sp_State_is_same (K : Frag) : DSp := sp2 (q_State_is_same K)
theorem stt_eq (s t : Stt) : s = t ↔ s.own = t.own ∧ s.other = t.other ∧ s.cap = t.cap ∧ s.fixed = t.fixed := by
  cases s
  cases t
  simp
theorem ok_State_is_same {P : Program} {w : World} {K : Frag} {mg : Str → Option Value} {base : Heap} (G : Good fa fn K mg) : FnOk P w K mg base (L2.CX P w) 1 (mA "State" "is_same" K) (fdOf K (mA "State" "is_same" K)) ["self", "second"] (spD K (sp_State_is_same K)) := by
  have c_State := G.cls 43 rfl
  have n_State_mine := G.noat 60 rfl
  have c_State := G.cls 43 rfl
  have n_State_theirs := G.noat 61 rfl
  have c_State := G.cls 43 rfl
  have n_State_cap := G.noat 62 rfl
  have c_State := G.cls 43 rfl
  have n_State_fixed := G.noat 63 rfl
  refine ok_def (G.def_ 14 rfl) sc_State_is_same len2 fun cdv A outer s0 H E hr => ⟨_, (pss_cons (ps_if (PW.pt (pw_or (pt_cmpR (r := rNeD K) (op_neD (hu64 hr)) (pe_fldK K (pv 0)) (pe_fldK K (pv 1)) (nomark _)) (pw_or1 (pt_cmpR (r := rNeD K) (op_neD (hu64 hr)) (pe_fldK K (pv 0)) (pe_fldK K (pv 1)) (nomark _))))) (pss_one (ps_ret pe_bl)) pss_nil) (pss_one (ps_ret (pe_and (pe_cmpR op_eq (pe_fldK K (pv 0)) (pe_fldK K (pv 1)) (nomark _)) (pe_one (pe_cmpR (r := rEqD K) (op_eqD (hu64 hr)) (pe_fldK K (pv 0)) (pe_fldK K (pv 1)) (nomark _))))))), ?_⟩
  try dsimp only [cxOf]
  rintro ds μ W X ⟨_, _, rfl, s, t, rfl, rfl, w⟩
  repeat ac_rfl
  refine rw_ne_lns isl isl ?_
  repeat ac_rfl
  refine it2 (fun e => ?_) fun e => ?_
  · repeat ac_rfl
    have e' : decide (s = t) = false := by simp at e; simp [stt_eq]; intro h; exact absurd h e
    rw [e'] at w
    exact w
  · repeat ac_rfl
    refine rw_ne_lns isl isl ?_
    repeat ac_rfl
    refine it2 (fun e2 => ?_) fun e2 => ?_
    · repeat ac_rfl
      have e' : decide (s = t) = false := by simp at e2; simp [stt_eq]; intro _ h; exact absurd h e2
      rw [e'] at w
      exact w
    · repeat ac_rfl
      simp at e e2
      refine it2 (fun e3 => ?_) fun e3 => ?_
      · repeat ac_rfl
        refine rw_eq_prs isl isl ?_
        have e' : decide (s = t) = decide (s.fixed = t.fixed) := by
          simp at e3
          have h : s = t ↔ s.fixed = t.fixed := by rw [stt_eq]; simp [e, e2, e3]
          simp [h]
        rw [e'] at w
        exact w
      · have e' : decide (s = t) = false := by simp at e3; simp [stt_eq]; intro _ _ h; exact absurd h e3
        rw [e'] at w
        exact w


def q_Comparison___init__ (K : Frag) (s : Dt) : Post := fun μ W _ => ∃ (a : Addr) (μ0 : Mem), s = .ref a ∧ μ = (a, .ins (gA "Comparison" K) []) :: μ0 ∧ W .non ((a, cmpMo K [⟨[], [], 0, []⟩] 0) :: μ0)
abbrev sp_Comparison___init__ (K : Frag) : DSp := sp1 (q_Comparison___init__ K)
theorem ok_Comparison___init__ {P : Program} {w : World} {K : Frag} {mg : Str → Option Value} {base : Heap} (G : Good fa fn K mg) : FnOk P w K mg base (L2.CX P w) 3 (mA "Comparison" "__init__" K) (fdOf K (mA "Comparison" "__init__" K)) ["self"] (spD K (sp_Comparison___init__ K)) := by
  have ok_State___init__ : FnOk P w K mg base (L2.CX P w) 1 (mA "State" "__init__" K) (fdOf K (mA "State" "__init__" K)) ["self", "mine", "theirs", "cap", "fixed"] (spD K (sp_State___init__ K)) := ok_State___init__ G
  have c_Comparison := G.cls 27 rfl
  have n_Comparison_states := G.noat 64 rfl
  have c_Comparison := G.cls 27 rfl
  have n_Comparison_spot := G.noat 65 rfl
  refine ok_def (G.def_ 15 rfl) sc_Comparison___init__ len1 fun cdv A outer s0 H E hr => ⟨_, (pss_cons (ps_fld (pv 0) (pe_lst (pa_cons (pe_make (G.mkr 12 rfl) ok_State___init__ (hr.mono (by decide)) rfl (G.glo 13 rfl) (b_State___init__ G) .nil passL (pa_cons (pe_lst pa_nil) (pa_cons (pe_lst pa_nil) (pa_cons pe_int (pa_cons (pe_lst pa_nil) pa_nil))))) pa_nil)) rfl) (pss_one (ps_fld (pv 0) pe_int rfl))), ?_⟩
  try dsimp only [cxOf]
  rintro ds μ W X ⟨_, rfl, a, μ0, rfl, rfl, w⟩
  repeat ac_rfl
  refine wp_freezeI (wp_make ?_)
  repeat ac_rfl
  intro x hx
  repeat ac_rfl
  refine ⟨x, _, rfl, rfl, rfl, x, _, _, _, rfl, rfl, ?_⟩
  repeat ac_rfl
  exact w
def q_Comparison_made (K : Frag) (s os ts p fs : Dt) : Post := fun μ W _ => ∃ (xs ys : List Ln) (i : Int) (ps : List Pr), s = .ref (gA "Comparison" K) ∧ IsLst μ os (xs.map lnD) ∧ IsLst μ ts (ys.map lnD) ∧ p = .int i ∧ IsLst μ fs (ps.map prD) ∧ xs.length ≤ 1000 ∧ ys.length ≤ 1000 ∧ ps.length ≤ 1000 ∧ ∀ a, a ∉ dom μ → W (.ref a) ((a, cmpMo K [⟨sortLn xs, sortLn ys, i, sortPr ps⟩] 0) :: μ)
abbrev sp_Comparison_made (K : Frag) : DSp := sp5 (q_Comparison_made K)
theorem ok_Comparison_made {P : Program} {w : World} {K : Frag} {mg : Str → Option Value} {base : Heap} (G : Good fa fn K mg) : FnOk P w K mg base (L2.CX P w) 5 (cA "Comparison" "made" K) (fdOf K (cA "Comparison" "made" K)) ["cls", "own", "other", "price", "confirmed"] (spD K (sp_Comparison_made K)) := by
  have ok_Comparison___init__ : FnOk P w K mg base (L2.CX P w) 3 (mA "Comparison" "__init__" K) (fdOf K (mA "Comparison" "__init__" K)) ["self"] (spD K (sp_Comparison___init__ K)) := ok_Comparison___init__ G
  have ok_State___init__ : FnOk P w K mg base (L2.CX P w) 1 (mA "State" "__init__" K) (fdOf K (mA "State" "__init__" K)) ["self", "mine", "theirs", "cap", "fixed"] (spD K (sp_State___init__ K)) := ok_State___init__ G
  have c_Comparison := G.cls 27 rfl
  have n_Comparison_states := G.noat 64 rfl
  refine ok_def (G.def_ 16 rfl) sc_Comparison_made len5 fun cdv A outer s0 H E hr => ⟨_, (pss_cons (ps_set (i := 5) sc_Comparison_made.nd rfl (Or.inl rfl) (pe_makeV (pv 0) (G.mkr 14 rfl) ok_Comparison___init__ (hr.mono (by decide)) (b_Comparison___init__ G) passL)) (pss_cons (ps_fld (pv 5) (pe_lst (pa_cons (pe_make (G.mkr 12 rfl) ok_State___init__ (hr.mono (by decide)) rfl (G.glo 13 rfl) (b_State___init__ G) .nil passL (pa_cons (pe_callB (r := rSortD K) (cr_sortedD (hu64 hr)) rfl (G.free 11 rfl) (by rfl) (pa_cons (pv 1) pa_nil)) (pa_cons (pe_callB (r := rSortD K) (cr_sortedD (hu64 hr)) rfl (G.free 11 rfl) (by rfl) (pa_cons (pv 2) pa_nil)) (pa_cons (pv 3) (pa_cons (pe_callB (r := rSortD K) (cr_sortedD (hu64 hr)) rfl (G.free 11 rfl) (by rfl) (pa_cons (pv 4) pa_nil)) pa_nil))))) pa_nil)) rfl) (pss_one (ps_ret (pv 5))))), ?_⟩
  try dsimp only [cxOf]
  rintro ds μ W X ⟨_, os, ts, _, fs, rfl, xs, ys, i, ps, rfl, h1, h2, rfl, h3, l1, l2, l3, w⟩
  repeat ac_rfl
  refine wp_makeV ?_
  repeat ac_rfl
  refine ⟨rfl, fun x hx => ?_⟩
  repeat ac_rfl
  refine ⟨x, _, rfl, rfl, rfl, ?_⟩
  repeat ac_rfl
  refine wp_freezeI (wp_make ?_)
  repeat ac_rfl
  refine rw_sorted h1.push (sorts_ln _ (by omega)) ?_
  rw [sortD_ln]
  repeat ac_rfl
  refine rw_sorted h2.push (sorts_ln _ (by omega)) ?_
  rw [sortD_ln]
  repeat ac_rfl
  refine rw_sorted h3.push (sorts_pr _ (by omega)) ?_
  rw [sortD_pr]
  repeat ac_rfl
  intro y hy
  repeat ac_rfl
  refine ⟨y, _, rfl, rfl, rfl, y, _, _, _, rfl, rfl, ?_⟩
  repeat ac_rfl
  exact w x hx
def q_Comparison_now (K : Frag) (s : Dt) : Post := fun μ W _ => ∃ c a sts k t, s = .ref a ∧ CmpAt K μ c a sts k t ∧ W (stD K t) μ
abbrev sp_Comparison_now (K : Frag) : DSp := sp1 (q_Comparison_now K)
theorem ok_Comparison_now {P : Program} {w : World} {K : Frag} {mg : Str → Option Value} {base : Heap} (G : Good fa fn K mg) : FnOk P w K mg base (L2.CX P w) 1 (mA "Comparison" "now" K) (fdOf K (mA "Comparison" "now" K)) ["self"] (spD K (sp_Comparison_now K)) := by
  have c_Comparison := G.cls 27 rfl
  have n_Comparison_states := G.noat 64 rfl
  have c_Comparison := G.cls 27 rfl
  have n_Comparison_spot := G.noat 65 rfl
  refine ok_def (G.def_ 17 rfl) sc_Comparison_now len1 fun cdv A outer s0 H E hr => ⟨_, (pss_one (ps_ret (pe_ix (r := rIxL K) ix_list (pe_fldK K (pv 0)) (pe_fldK K (pv 0)) (fun _ _ => rfl)))), ?_⟩
  try dsimp only [cxOf]
  rintro ds μ W X ⟨_, rfl, c, a, sts, k, t, rfl, h, w⟩
  have hc := h.cell
  repeat ac_rfl
  exact rw_ixL (atI_map h.now) w
def q_Comparison_own (K : Frag) (s : Dt) : Post := fun μ W _ => ∃ c a sts k t, s = .ref a ∧ CmpAt K μ c a sts k t ∧ RetL W (t.own.map lnD) μ
abbrev sp_Comparison_own (K : Frag) : DSp := sp1 (q_Comparison_own K)
theorem ok_Comparison_own {P : Program} {w : World} {K : Frag} {mg : Str → Option Value} {base : Heap} (G : Good fa fn K mg) : FnOk P w K mg base (L2.CX P w) 1 (pA "Comparison" "own" K) (fdOf K (pA "Comparison" "own" K)) ["self"] (spD K (sp_Comparison_own K)) := by
  have c_Comparison := G.cls 27 rfl
  have n_Comparison_states := G.noat 64 rfl
  have c_Comparison := G.cls 27 rfl
  have n_Comparison_spot := G.noat 65 rfl
  have c_State := G.cls 43 rfl
  have n_State_mine := G.noat 60 rfl
  refine ok_def (G.def_ 18 rfl) sc_Comparison_own len1 fun cdv A outer s0 H E hr => ⟨_, (pss_one (ps_ret (pe_callTy (r := Evl.rListS K) cr_list rfl (G.free 15 rfl) (by rfl) (pa_cons (pe_fldK K (pe_ix (r := rIxL K) ix_list (pe_fldK K (pv 0)) (pe_fldK K (pv 0)) (fun _ _ => rfl))) pa_nil)))), ?_⟩
  try dsimp only [cxOf]
  rintro ds μ W X ⟨_, rfl, c, a, sts, k, t, rfl, h, w⟩
  have hc := h.cell
  repeat ac_rfl
  refine rw_ixL (atI_map h.now) ?_
  repeat ac_rfl
  exact rwL_list (.inl isl) w
def q_Comparison_other (K : Frag) (s : Dt) : Post := fun μ W _ => ∃ c a sts k t, s = .ref a ∧ CmpAt K μ c a sts k t ∧ RetL W (t.other.map lnD) μ
abbrev sp_Comparison_other (K : Frag) : DSp := sp1 (q_Comparison_other K)
theorem ok_Comparison_other {P : Program} {w : World} {K : Frag} {mg : Str → Option Value} {base : Heap} (G : Good fa fn K mg) : FnOk P w K mg base (L2.CX P w) 1 (pA "Comparison" "other" K) (fdOf K (pA "Comparison" "other" K)) ["self"] (spD K (sp_Comparison_other K)) := by
  have c_Comparison := G.cls 27 rfl
  have n_Comparison_states := G.noat 64 rfl
  have c_Comparison := G.cls 27 rfl
  have n_Comparison_spot := G.noat 65 rfl
  have c_State := G.cls 43 rfl
  have n_State_theirs := G.noat 61 rfl
  refine ok_def (G.def_ 19 rfl) sc_Comparison_other len1 fun cdv A outer s0 H E hr => ⟨_, (pss_one (ps_ret (pe_callTy (r := Evl.rListS K) cr_list rfl (G.free 15 rfl) (by rfl) (pa_cons (pe_fldK K (pe_ix (r := rIxL K) ix_list (pe_fldK K (pv 0)) (pe_fldK K (pv 0)) (fun _ _ => rfl))) pa_nil)))), ?_⟩
  try dsimp only [cxOf]
  rintro ds μ W X ⟨_, rfl, c, a, sts, k, t, rfl, h, w⟩
  have hc := h.cell
  repeat ac_rfl
  refine rw_ixL (atI_map h.now) ?_
  repeat ac_rfl
  exact rwL_list (.inl isl) w
def q_Comparison_price (K : Frag) (s : Dt) : Post := fun μ W _ => ∃ c a sts k t, s = .ref a ∧ CmpAt K μ c a sts k t ∧ W (.int t.cap) μ
abbrev sp_Comparison_price (K : Frag) : DSp := sp1 (q_Comparison_price K)
theorem ok_Comparison_price {P : Program} {w : World} {K : Frag} {mg : Str → Option Value} {base : Heap} (G : Good fa fn K mg) : FnOk P w K mg base (L2.CX P w) 1 (pA "Comparison" "price" K) (fdOf K (pA "Comparison" "price" K)) ["self"] (spD K (sp_Comparison_price K)) := by
  have c_Comparison := G.cls 27 rfl
  have n_Comparison_states := G.noat 64 rfl
  have c_Comparison := G.cls 27 rfl
  have n_Comparison_spot := G.noat 65 rfl
  have c_State := G.cls 43 rfl
  have n_State_cap := G.noat 62 rfl
  refine ok_def (G.def_ 20 rfl) sc_Comparison_price len1 fun cdv A outer s0 H E hr => ⟨_, (pss_one (ps_ret (pe_fldK K (pe_ix (r := rIxL K) ix_list (pe_fldK K (pv 0)) (pe_fldK K (pv 0)) (fun _ _ => rfl))))), ?_⟩
  try dsimp only [cxOf]
  rintro ds μ W X ⟨_, rfl, c, a, sts, k, t, rfl, h, w⟩
  have hc := h.cell
  repeat ac_rfl
  refine rw_ixL (atI_map h.now) ?_
  repeat ac_rfl
  exact w
def q_Comparison_confirmed (K : Frag) (s : Dt) : Post := fun μ W _ => ∃ c a sts k t, s = .ref a ∧ CmpAt K μ c a sts k t ∧ RetL W (t.fixed.map prD) μ
abbrev sp_Comparison_confirmed (K : Frag) : DSp := sp1 (q_Comparison_confirmed K)
theorem ok_Comparison_confirmed {P : Program} {w : World} {K : Frag} {mg : Str → Option Value} {base : Heap} (G : Good fa fn K mg) : FnOk P w K mg base (L2.CX P w) 1 (pA "Comparison" "confirmed" K) (fdOf K (pA "Comparison" "confirmed" K)) ["self"] (spD K (sp_Comparison_confirmed K)) := by
  have c_Comparison := G.cls 27 rfl
  have n_Comparison_states := G.noat 64 rfl
  have c_Comparison := G.cls 27 rfl
  have n_Comparison_spot := G.noat 65 rfl
  have c_State := G.cls 43 rfl
  have n_State_fixed := G.noat 63 rfl
  refine ok_def (G.def_ 21 rfl) sc_Comparison_confirmed len1 fun cdv A outer s0 H E hr => ⟨_, (pss_one (ps_ret (pe_callTy (r := Evl.rListS K) cr_list rfl (G.free 15 rfl) (by rfl) (pa_cons (pe_fldK K (pe_ix (r := rIxL K) ix_list (pe_fldK K (pv 0)) (pe_fldK K (pv 0)) (fun _ _ => rfl))) pa_nil)))), ?_⟩
  try dsimp only [cxOf]
  rintro ds μ W X ⟨_, rfl, c, a, sts, k, t, rfl, h, w⟩
  have hc := h.cell
  repeat ac_rfl
  refine rw_ixL (atI_map h.now) ?_
  repeat ac_rfl
  exact rwL_list (.inl isl) w


def q_Comparison_keep (K : Frag) (s m t p f : Dt) : Post := fun μ W _ => ∃ (c : Nat) (a : Addr) (sts : List Stt) (k : Nat) (n : Stt), s = .ref a ∧ μ[c]? = some (a, cmpMo K sts k) ∧ k < sts.length ∧ sts.length ≤ 100000 ∧ m = .lst (n.own.map lnD) ∧ t = .lst (n.other.map lnD) ∧ p = .int n.cap ∧ f = .lst (n.fixed.map prD) ∧ W .non (μ.set c (a, cmpMo K (keepS sts k n) (k + 1)))
abbrev sp_Comparison_keep (K : Frag) : DSp := sp5 (q_Comparison_keep K)
theorem ok_Comparison_keep {P : Program} {w : World} {K : Frag} {mg : Str → Option Value} {base : Heap} (G : Good fa fn K mg) : FnOk P w K mg base (L2.CX P w) 3 (mA "Comparison" "keep" K) (fdOf K (mA "Comparison" "keep" K)) ["self", "mine", "theirs", "cap", "fixed"] (spD K (sp_Comparison_keep K)) := by
  have ok_State___init__ : FnOk P w K mg base (L2.CX P w) 1 (mA "State" "__init__" K) (fdOf K (mA "State" "__init__" K)) ["self", "mine", "theirs", "cap", "fixed"] (spD K (sp_State___init__ K)) := ok_State___init__ G
  have c_Comparison := G.cls 27 rfl
  have n_Comparison_spot := G.noat 65 rfl
  have c_Comparison := G.cls 27 rfl
  have n_Comparison_states := G.noat 64 rfl
  refine ok_def (G.def_ 22 rfl) sc_Comparison_keep len5 fun cdv A outer s0 H E hr => ⟨_, (pss_cons (ps_fldaug (pv 0) pe_int in_add) (pss_one (ps_fld (pv 0) (pe_lst (pa_starK K (pe_slice (r := rSlL K) sl_list (pe_fldK K (pv 0)) po_none (po_some (pe_fldK K (pv 0)))) (pa_cons (pe_make (G.mkr 12 rfl) ok_State___init__ (hr.mono (by decide)) rfl (G.glo 13 rfl) (b_State___init__ G) .nil passL (pa_cons (pv 1) (pa_cons (pv 2) (pa_cons (pv 3) (pa_cons (pv 4) pa_nil))))) pa_nil))) rfl))), ?_⟩
  try dsimp only [cxOf]
  rintro ds μ W X ⟨_, _, _, _, _, rfl, c, a, sts, k, n, rfl, hc, hk, hf, rfl, rfl, rfl, rfl, w⟩
  repeat ac_rfl
  refine wps_fldaugI ?_
  repeat ac_rfl
  refine ⟨c, a, _, _, (k : Int), rfl, hc, c_Comparison, n_Comparison_spot, rfl, lt_of_ble rfl, ?_⟩
  repeat ac_rfl
  refine ⟨_, hc, lt_of_ble rfl, ?_⟩
  repeat ac_rfl
  refine wp_sl ?_
  repeat ac_rfl
  refine wpo_none (wpo_some ?_)
  repeat ac_rfl
  refine rw_slL (ds := sts.map (stD K)) isl ?_
  have e1 : cutD (sts.map (stD K)) none (some ((k : Int) + 1)) = (sts.take (k + 1)).map (stD K) := by
    rw [List.map_take, ← cut_take (by rw [List.length_map]; omega)]
    rfl
  rw [e1]
  refine ⟨_, .inl isl, ?_⟩
  repeat ac_rfl
  refine wp_freezeI (wp_make ?_)
  repeat ac_rfl
  intro x hx
  repeat ac_rfl
  refine ⟨x, _, rfl, rfl, rfl, x, _, _, _, rfl, rfl, ?_⟩
  repeat ac_rfl
  have e2 : (sts.take (k + 1)).map (stD K) ++ [stD K n] = (keepS sts k n).map (stD K) := by unfold keepS; rw [List.map_append]; rfl
  refine ⟨by show ((sts.take (k + 1)).map (stD K) ++ [stD K n]).length ≤ _; rw [e2, List.length_map, keepS, List.length_append, List.length_take]; simp; omega, ?_⟩
  repeat ac_rfl
  have w' : W .non (μ.set c (a, Mo.ins (gA "Comparison" K) [("states", .lst ((sts.take (k + 1)).map (stD K) ++ [stD K n])), ("spot", .int ((k : Int) + 1))])) := by
    rw [e2]
    exact w
  rw [List.set_set]
  exact w'
def q_Comparison_need_line (K : Frag) (s ls l : Dt) : Post := fun μ W X => ∃ (c : Nat) (a : Addr) (sts : List Stt) (k : Nat) (xs : List Ln) (x : Ln), s = .ref a ∧ μ[c]? = some (a, cmpMo K sts k) ∧ ls = .lst (xs.map lnD) ∧ l = lnD x ∧ xs.length ≤ 1000 ∧ Ends0 K μ W X (needLine xs x)
abbrev sp_Comparison_need_line (K : Frag) : DSp := sp3 (q_Comparison_need_line K)
theorem ok_Comparison_need_line {P : Program} {w : World} {K : Frag} {mg : Str → Option Value} {base : Heap} (G : Good fa fn K mg) : FnOk P w K mg base (L2.CX P w) 4 (mA "Comparison" "need_line" K) (fdOf K (mA "Comparison" "need_line" K)) ["self", "lines", "line"] (spD K (sp_Comparison_need_line K)) := by
  have ok_is_line : FnOk P w K mg base (L2.CX P w) 3 (gA "is_line" K) (fdOf K (gA "is_line" K)) ["value"] (spD K (sp_is_line K)) := ok_is_line G
  have ok_BadLine___init__ : FnOk P w K mg base (L2.CX P w) 1 (mA "BadLine" "__init__" K) (fdOf K (mA "BadLine" "__init__" K)) ["self", "value"] (spX K (gA "BadLine" K) (mA "BadLine" "__init__" K) "value") := ok_BadLine___init__ G
  have ok_is_id_in : FnOk P w K mg base (L2.CX P w) 1 (gA "is_id_in" K) (fdOf K (gA "is_id_in" K)) ["value", "lines"] (spD K (sp_is_id_in K)) := ok_is_id_in G
  have ok_TakenId___init__ : FnOk P w K mg base (L2.CX P w) 1 (mA "TakenId" "__init__" K) (fdOf K (mA "TakenId" "__init__" K)) ["self", "row_id"] (spX K (gA "TakenId" K) (mA "TakenId" "__init__" K) "row_id") := ok_TakenId___init__ G
  have ok_BadNumber___init__ : FnOk P w K mg base (L2.CX P w) 1 (mA "BadNumber" "__init__" K) (fdOf K (mA "BadNumber" "__init__" K)) ["self", "value"] (spX K (gA "BadNumber" K) (mA "BadNumber" "__init__" K) "value") := ok_BadNumber___init__ G
  refine ok_def (G.def_ 23 rfl) sc_Comparison_need_line len3 fun cdv A outer s0 H E hr => ⟨_, (pss_cons (ps_if (pt_not (pt_val (pe_call ok_is_line (hr.mono (by decide)) rfl (G.glo 16 rfl) (G.def_ 8 rfl).kp (b_is_line G) .nil passL (pa_cons (pv 2) pa_nil)))) (pss_one (L2.ps_raise rfl (takes_of rfl rfl rfl rfl) (pmk_oex (G.exc1 17 rfl).o (G.exc1 17 rfl).i (G.exc1 17 rfl).t ok_BadLine___init__ (hr.mono (by decide)) (b_BadLine___init__ G) .nil passL rfl (G.glo 18 rfl) (pa_cons (pv 2) pa_nil)))) pss_nil) (pss_cons (ps_if (pt_val (pe_call ok_is_id_in (hr.mono (by decide)) rfl (G.glo 19 rfl) (G.def_ 10 rfl).kp (b_is_id_in G) .nil passL (pa_cons (pe_ix (r := rIxT K) ix_tup (pv 2) pe_int (fun _ _ => rfl)) (pa_cons (pv 1) pa_nil)))) (pss_one (L2.ps_raise rfl (takes_of rfl rfl rfl rfl) (pmk_oex (G.exc1 20 rfl).o (G.exc1 20 rfl).i (G.exc1 20 rfl).t ok_TakenId___init__ (hr.mono (by decide)) (b_TakenId___init__ G) .nil passL rfl (G.glo 21 rfl) (pa_cons (pe_ix (r := rIxT K) ix_tup (pv 2) pe_int (fun _ _ => rfl)) pa_nil)))) pss_nil) (pss_one (ps_if (pt_cmpR op_eq (pe_callB (r := Evl.rLenS K) cr_len rfl (G.free 5 rfl) (by rfl) (pa_cons (pv 1) pa_nil)) (pe_conK K (pv 0)) (nomark _)) (pss_one (L2.ps_raise rfl (takes_of rfl rfl rfl rfl) (pmk_oex (G.exc1 23 rfl).o (G.exc1 23 rfl).i (G.exc1 23 rfl).t ok_BadNumber___init__ (hr.mono (by decide)) (b_BadNumber___init__ G) .nil passL rfl (G.glo 24 rfl) (pa_cons (pe_op op_add (pe_callB (r := Evl.rLenS K) cr_len rfl (G.free 5 rfl) (by rfl) (pa_cons (pv 1) pa_nil)) pe_int) pa_nil)))) pss_nil)))), ?_⟩
  try dsimp only [cxOf]
  rintro ds μ W X ⟨_, _, _, rfl, c, a, sts, k, xs, x, rfl, hc, rfl, rfl, hl, w⟩
  unfold needLine at w
  repeat ac_rfl
  refine ⟨_, _, _, rfl, ?_⟩
  repeat ac_rfl
  refine it2 (fun e => ?_) fun e => ?_
  · have e' : lineOk x.1 x.2.1 x.2.2 = false := by simpa using e
    rw [if_pos e'] at w
    refine wps_raiseO (fun _ _ _ _ h => h) ?_
    repeat ac_rfl
    exact ⟨_, rfl, w⟩
  · have e' : ¬ lineOk x.1 x.2.1 x.2.2 = false := by simpa using e
    rw [if_neg e'] at w
    repeat ac_rfl
    refine rw_ixT (d := .int x.1) rfl ?_
    repeat ac_rfl
    rw [rows_ln]
    refine ⟨_, rfl, by rw [List.length_map]; omega, .inl ⟨_, rfl, ?_⟩⟩
    repeat ac_rfl
    have ei : (xs.map fun l => (l.1, [Dt.int l.2.1, Dt.int l.2.2])).map (·.1) = ids xs := by rw [List.map_map]; rfl
    rw [ei]
    refine it2 (fun e2 => ?_) fun e2 => ?_
    · rw [if_pos (by simpa using e2)] at w
      refine wps_raiseO (fun _ _ _ _ h => h) ?_
      repeat ac_rfl
      refine rw_ixT (d := .int x.1) rfl ?_
      repeat ac_rfl
      exact ⟨_, rfl, w⟩
    · rw [if_neg (by simpa using e2)] at w
      repeat ac_rfl
      rw [← rows_ln]
      obtain ⟨tl, cn⟩ := (G.con 22 rfl)
      refine rw_len (.inl isl) ?_
      refine wp_tcon (dv := .int 60) (fun _ => .int _) cn ?_
      repeat ac_rfl
      refine ⟨c, a, _, rfl, hc, (G.cls 27 rfl), rfl, ?_⟩
      repeat ac_rfl
      rw [List.length_map]
      refine it2 (fun e3 => ?_) fun e3 => ?_
      · have e3' : xs.length = 60 := by simp at e3; omega
        rw [if_pos e3'] at w
        refine wps_raiseO (fun _ _ _ _ h => h) ?_
        repeat ac_rfl
        refine rw_len (.inl isl) ?_
        repeat ac_rfl
        refine ⟨_, rfl, ?_⟩
        rw [List.length_map, e3']
        exact w
      · rw [if_neg (by simp at e3; omega)] at w
        repeat ac_rfl
        exact w
def q_Comparison_need_known (K : Frag) (s ls i : Dt) : Post := fun μ W X => ∃ (rows : List (Int × List Dt)) (n : Int), ls = .lst (rows.map rowD) ∧ i = .int n ∧ rows.length ≤ 1000 ∧ Ends0 K μ W X (needKnown (rows.map (·.1)) n)
abbrev sp_Comparison_need_known (K : Frag) : DSp := sp3 (q_Comparison_need_known K)
theorem ok_Comparison_need_known {P : Program} {w : World} {K : Frag} {mg : Str → Option Value} {base : Heap} (G : Good fa fn K mg) : FnOk P w K mg base (L2.CX P w) 3 (mA "Comparison" "need_known" K) (fdOf K (mA "Comparison" "need_known" K)) ["self", "lines", "row_id"] (spD K (sp_Comparison_need_known K)) := by
  have ok_is_id_in : FnOk P w K mg base (L2.CX P w) 1 (gA "is_id_in" K) (fdOf K (gA "is_id_in" K)) ["value", "lines"] (spD K (sp_is_id_in K)) := ok_is_id_in G
  have ok_UnknownLine___init__ : FnOk P w K mg base (L2.CX P w) 1 (mA "UnknownLine" "__init__" K) (fdOf K (mA "UnknownLine" "__init__" K)) ["self", "row_id"] (spX K (gA "UnknownLine" K) (mA "UnknownLine" "__init__" K) "row_id") := ok_UnknownLine___init__ G
  refine ok_def (G.def_ 24 rfl) sc_Comparison_need_known len3 fun cdv A outer s0 H E hr => ⟨_, (pss_one (ps_if (pt_not (pt_val (pe_call ok_is_id_in (hr.mono (by decide)) rfl (G.glo 19 rfl) (G.def_ 10 rfl).kp (b_is_id_in G) .nil passL (pa_cons (pv 2) (pa_cons (pv 1) pa_nil))))) (pss_one (L2.ps_raise rfl (takes_of rfl rfl rfl rfl) (pmk_oex (G.exc1 25 rfl).o (G.exc1 25 rfl).i (G.exc1 25 rfl).t ok_UnknownLine___init__ (hr.mono (by decide)) (b_UnknownLine___init__ G) .nil passL rfl (G.glo 26 rfl) (pa_cons (pv 2) pa_nil)))) pss_nil)), ?_⟩
  try dsimp only [cxOf]
  rintro ds μ W X ⟨s, _, _, rfl, rows, n, rfl, rfl, hl, w⟩
  unfold needKnown at w
  repeat ac_rfl
  refine ⟨_, rfl, by omega, .inl ⟨_, rfl, ?_⟩⟩
  repeat ac_rfl
  refine it2 (fun e => ?_) fun e => ?_
  · rw [if_neg (by simpa using e)] at w
    refine wps_raiseO (fun _ _ _ _ h => h) ?_
    repeat ac_rfl
    exact ⟨_, rfl, w⟩
  · rw [if_pos (by simpa using e)] at w
    repeat ac_rfl
    exact w


def q_Comparison_add_own (K : Frag) (s x y z : Dt) : Post := fun μ W X => ∃ c a sts k t i j l, s = .ref a ∧ CmpAt K μ c a sts k t ∧ x = .int i ∧ y = .int j ∧ z = .int l ∧ EndsS K μ c a sts k W X (addOwn t (i, j, l))
abbrev sp_Comparison_add_own (K : Frag) : DSp := sp4 (q_Comparison_add_own K)
theorem ok_Comparison_add_own {P : Program} {w : World} {K : Frag} {mg : Str → Option Value} {base : Heap} (G : Good fa fn K mg) : FnOk P w K mg base (L2.CX P w) 5 (mA "Comparison" "add_own" K) (fdOf K (mA "Comparison" "add_own" K)) ["self", "row_id", "day", "amount"] (spD K (sp_Comparison_add_own K)) := by
  have ok_Comparison_need_line : FnOk P w K mg base (L2.CX P w) 4 (mA "Comparison" "need_line" K) (fdOf K (mA "Comparison" "need_line" K)) ["self", "lines", "line"] (spD K (sp_Comparison_need_line K)) := ok_Comparison_need_line G
  have ok_Comparison_own : FnOk P w K mg base (L2.CX P w) 1 (pA "Comparison" "own" K) (fdOf K (pA "Comparison" "own" K)) ["self"] (spD K (sp_Comparison_own K)) := ok_Comparison_own G
  have ok_Comparison_now : FnOk P w K mg base (L2.CX P w) 1 (mA "Comparison" "now" K) (fdOf K (mA "Comparison" "now" K)) ["self"] (spD K (sp_Comparison_now K)) := ok_Comparison_now G
  have ok_Comparison_keep : FnOk P w K mg base (L2.CX P w) 3 (mA "Comparison" "keep" K) (fdOf K (mA "Comparison" "keep" K)) ["self", "mine", "theirs", "cap", "fixed"] (spD K (sp_Comparison_keep K)) := ok_Comparison_keep G
  have ok_with_line : FnOk P w K mg base (L2.CX P w) 1 (gA "with_line" K) (fdOf K (gA "with_line" K)) ["lines", "line"] (spD K (sp_with_line K)) := ok_with_line G
  have c_State := G.cls 43 rfl
  have n_State_fixed := G.noat 63 rfl
  have c_State := G.cls 43 rfl
  have n_State_cap := G.noat 62 rfl
  have c_State := G.cls 43 rfl
  have n_State_theirs := G.noat 61 rfl
  have c_State := G.cls 43 rfl
  have n_State_mine := G.noat 60 rfl
  refine ok_def (G.def_ 25 rfl) sc_Comparison_add_own len4 fun cdv A outer s0 H E hr => ⟨_, (pss_cons (ps_set (i := 4) sc_Comparison_add_own.nd rfl (Or.inl rfl) (pe_tup (pa_cons (pv 1) (pa_cons (pv 2) (pa_cons (pv 3) pa_nil))))) (pss_cons (ps_expr (pe_meth (pv 0) (G.cls 27 rfl) (G.meth 28 rfl) ok_Comparison_need_line (hr.mono (by decide)) (b_Comparison_need_line G) .nil (passX rfl rfl rfl rfl) (pa_cons (pe_prop (pv 0) (G.cls 27 rfl) (G.prop 29 rfl) ok_Comparison_own (hr.mono (by decide)) (b_Comparison_own G) .nil passL rfl) (pa_cons (pv 4) pa_nil)))) (pss_cons (ps_set (i := 5) sc_Comparison_add_own.nd rfl (Or.inl rfl) (pe_meth0 (pv 0) (G.cls 27 rfl) (G.meth 30 rfl) ok_Comparison_now (hr.mono (by decide)) (b_Comparison_now G) .nil passL)) (pss_one (ps_expr (pe_meth (pv 0) (G.cls 27 rfl) (G.meth 31 rfl) ok_Comparison_keep (hr.mono (by decide)) (b_Comparison_keep G) .nil passL (pa_cons (pe_call ok_with_line (hr.mono (by decide)) rfl (G.glo 32 rfl) (G.def_ 11 rfl).kp (b_with_line G) .nil passL (pa_cons (pe_fldK K (pv 5)) (pa_cons (pv 4) pa_nil))) (pa_cons (pe_fldK K (pv 5)) (pa_cons (pe_fldK K (pv 5)) (pa_cons (pe_fldK K (pv 5)) pa_nil)))))))))), ?_⟩
  try dsimp only [cxOf]
  rintro ds μ W X ⟨_, _, _, _, rfl, c, a, sts, k, t, i, j, l, rfl, h, rfl, rfl, rfl, w⟩
  have hc := h.cell
  have hn := h.now
  have hk := (List.getElem?_eq_some_iff.mp hn).1
  unfold addOwn at w
  repeat ac_rfl
  refine ⟨c, a, sts, k, t, rfl, h, .inl ?_⟩
  repeat ac_rfl
  refine ⟨c, a, sts, k, t.own, (i, j, l), rfl, hc, rfl, rfl, h.own, ?_⟩
  cases e : needLine t.own (i, j, l) with
  | some er => rw [e] at w; exact w
  | none =>
    rw [e] at w
    unfold Ends0
    repeat ac_rfl
    refine ⟨c, a, sts, k, t, rfl, h, ?_⟩
    repeat ac_rfl
    refine ⟨t.own, (i, j, l), rfl, rfl, h.own, ?_⟩
    repeat ac_rfl
    exact ⟨c, a, sts, k, { t with own := sortLn (t.own ++ [(i, j, l)]) }, rfl, hc, hk, h.few, rfl, rfl, rfl, rfl, w⟩
def q_Comparison_add_other (K : Frag) (s x y z : Dt) : Post := fun μ W X => ∃ c a sts k t i j l, s = .ref a ∧ CmpAt K μ c a sts k t ∧ x = .int i ∧ y = .int j ∧ z = .int l ∧ EndsS K μ c a sts k W X (addOther t (i, j, l))
abbrev sp_Comparison_add_other (K : Frag) : DSp := sp4 (q_Comparison_add_other K)
theorem ok_Comparison_add_other {P : Program} {w : World} {K : Frag} {mg : Str → Option Value} {base : Heap} (G : Good fa fn K mg) : FnOk P w K mg base (L2.CX P w) 5 (mA "Comparison" "add_other" K) (fdOf K (mA "Comparison" "add_other" K)) ["self", "row_id", "day", "amount"] (spD K (sp_Comparison_add_other K)) := by
  have ok_Comparison_need_line : FnOk P w K mg base (L2.CX P w) 4 (mA "Comparison" "need_line" K) (fdOf K (mA "Comparison" "need_line" K)) ["self", "lines", "line"] (spD K (sp_Comparison_need_line K)) := ok_Comparison_need_line G
  have ok_Comparison_other : FnOk P w K mg base (L2.CX P w) 1 (pA "Comparison" "other" K) (fdOf K (pA "Comparison" "other" K)) ["self"] (spD K (sp_Comparison_other K)) := ok_Comparison_other G
  have ok_Comparison_now : FnOk P w K mg base (L2.CX P w) 1 (mA "Comparison" "now" K) (fdOf K (mA "Comparison" "now" K)) ["self"] (spD K (sp_Comparison_now K)) := ok_Comparison_now G
  have ok_Comparison_keep : FnOk P w K mg base (L2.CX P w) 3 (mA "Comparison" "keep" K) (fdOf K (mA "Comparison" "keep" K)) ["self", "mine", "theirs", "cap", "fixed"] (spD K (sp_Comparison_keep K)) := ok_Comparison_keep G
  have ok_with_line : FnOk P w K mg base (L2.CX P w) 1 (gA "with_line" K) (fdOf K (gA "with_line" K)) ["lines", "line"] (spD K (sp_with_line K)) := ok_with_line G
  have c_State := G.cls 43 rfl
  have n_State_fixed := G.noat 63 rfl
  have c_State := G.cls 43 rfl
  have n_State_cap := G.noat 62 rfl
  have c_State := G.cls 43 rfl
  have n_State_theirs := G.noat 61 rfl
  have c_State := G.cls 43 rfl
  have n_State_mine := G.noat 60 rfl
  refine ok_def (G.def_ 26 rfl) sc_Comparison_add_other len4 fun cdv A outer s0 H E hr => ⟨_, (pss_cons (ps_set (i := 4) sc_Comparison_add_other.nd rfl (Or.inl rfl) (pe_tup (pa_cons (pv 1) (pa_cons (pv 2) (pa_cons (pv 3) pa_nil))))) (pss_cons (ps_expr (pe_meth (pv 0) (G.cls 27 rfl) (G.meth 28 rfl) ok_Comparison_need_line (hr.mono (by decide)) (b_Comparison_need_line G) .nil (passX rfl rfl rfl rfl) (pa_cons (pe_prop (pv 0) (G.cls 27 rfl) (G.prop 33 rfl) ok_Comparison_other (hr.mono (by decide)) (b_Comparison_other G) .nil passL rfl) (pa_cons (pv 4) pa_nil)))) (pss_cons (ps_set (i := 5) sc_Comparison_add_other.nd rfl (Or.inl rfl) (pe_meth0 (pv 0) (G.cls 27 rfl) (G.meth 30 rfl) ok_Comparison_now (hr.mono (by decide)) (b_Comparison_now G) .nil passL)) (pss_one (ps_expr (pe_meth (pv 0) (G.cls 27 rfl) (G.meth 31 rfl) ok_Comparison_keep (hr.mono (by decide)) (b_Comparison_keep G) .nil passL (pa_cons (pe_fldK K (pv 5)) (pa_cons (pe_call ok_with_line (hr.mono (by decide)) rfl (G.glo 32 rfl) (G.def_ 11 rfl).kp (b_with_line G) .nil passL (pa_cons (pe_fldK K (pv 5)) (pa_cons (pv 4) pa_nil))) (pa_cons (pe_fldK K (pv 5)) (pa_cons (pe_fldK K (pv 5)) pa_nil)))))))))), ?_⟩
  try dsimp only [cxOf]
  rintro ds μ W X ⟨_, _, _, _, rfl, c, a, sts, k, t, i, j, l, rfl, h, rfl, rfl, rfl, w⟩
  have hc := h.cell
  have hn := h.now
  have hk := (List.getElem?_eq_some_iff.mp hn).1
  unfold addOther at w
  repeat ac_rfl
  refine ⟨c, a, sts, k, t, rfl, h, .inl ?_⟩
  repeat ac_rfl
  refine ⟨c, a, sts, k, t.other, (i, j, l), rfl, hc, rfl, rfl, h.other, ?_⟩
  cases e : needLine t.other (i, j, l) with
  | some er => rw [e] at w; exact w
  | none =>
    rw [e] at w
    unfold Ends0
    repeat ac_rfl
    refine ⟨c, a, sts, k, t, rfl, h, ?_⟩
    repeat ac_rfl
    refine ⟨t.other, (i, j, l), rfl, rfl, h.other, ?_⟩
    repeat ac_rfl
    exact ⟨c, a, sts, k, { t with other := sortLn (t.other ++ [(i, j, l)]) }, rfl, hc, hk, h.few, rfl, rfl, rfl, rfl, w⟩


def q_Comparison_drop_own (K : Frag) (s x : Dt) : Post := fun μ W X => ∃ c a sts k t i, s = .ref a ∧ CmpAt K μ c a sts k t ∧ x = .int i ∧ EndsS K μ c a sts k W X (dropOwn t i)
abbrev sp_Comparison_drop_own (K : Frag) : DSp := sp2 (q_Comparison_drop_own K)
theorem ok_Comparison_drop_own {P : Program} {w : World} {K : Frag} {mg : Str → Option Value} {base : Heap} (G : Good fa fn K mg) : FnOk P w K mg base (L2.CX P w) 4 (mA "Comparison" "drop_own" K) (fdOf K (mA "Comparison" "drop_own" K)) ["self", "row_id"] (spD K (sp_Comparison_drop_own K)) := by
  have ok_Comparison_need_known : FnOk P w K mg base (L2.CX P w) 3 (mA "Comparison" "need_known" K) (fdOf K (mA "Comparison" "need_known" K)) ["self", "lines", "row_id"] (spD K (sp_Comparison_need_known K)) := ok_Comparison_need_known G
  have ok_Comparison_own : FnOk P w K mg base (L2.CX P w) 1 (pA "Comparison" "own" K) (fdOf K (pA "Comparison" "own" K)) ["self"] (spD K (sp_Comparison_own K)) := ok_Comparison_own G
  have ok_Comparison_now : FnOk P w K mg base (L2.CX P w) 1 (mA "Comparison" "now" K) (fdOf K (mA "Comparison" "now" K)) ["self"] (spD K (sp_Comparison_now K)) := ok_Comparison_now G
  have ok_Comparison_keep : FnOk P w K mg base (L2.CX P w) 3 (mA "Comparison" "keep" K) (fdOf K (mA "Comparison" "keep" K)) ["self", "mine", "theirs", "cap", "fixed"] (spD K (sp_Comparison_keep K)) := ok_Comparison_keep G
  have ok_without_id : FnOk P w K mg base (L2.CX P w) 1 (gA "without_id" K) (fdOf K (gA "without_id" K)) ["lines", "row_id"] (spD K (sp_without_id K)) := ok_without_id G
  have c_State := G.cls 43 rfl
  have n_State_fixed := G.noat 63 rfl
  have c_State := G.cls 43 rfl
  have n_State_cap := G.noat 62 rfl
  have c_State := G.cls 43 rfl
  have n_State_theirs := G.noat 61 rfl
  have c_State := G.cls 43 rfl
  have n_State_mine := G.noat 60 rfl
  refine ok_def (G.def_ 27 rfl) sc_Comparison_drop_own len2 fun cdv A outer s0 H E hr => ⟨_, (pss_cons (ps_expr (pe_meth (pv 0) (G.cls 27 rfl) (G.meth 34 rfl) ok_Comparison_need_known (hr.mono (by decide)) (b_Comparison_need_known G) .nil (passX rfl rfl rfl rfl) (pa_cons (pe_prop (pv 0) (G.cls 27 rfl) (G.prop 29 rfl) ok_Comparison_own (hr.mono (by decide)) (b_Comparison_own G) .nil passL rfl) (pa_cons (pv 1) pa_nil)))) (pss_cons (ps_set (i := 2) sc_Comparison_drop_own.nd rfl (Or.inl rfl) (pe_meth0 (pv 0) (G.cls 27 rfl) (G.meth 30 rfl) ok_Comparison_now (hr.mono (by decide)) (b_Comparison_now G) .nil passL)) (pss_cons (ps_setLc (i := 3) (own := [("pair", 4)]) (g := (gName 4)) (tt := _) rfl sc_Comparison_drop_own.nd rfl rfl (sw_true rfl rfl rfl (by decide +kernel)) (pi_list (pe_fldK K (pv 2))) (blkOk_by (N := N_Comparison_drop_own) (sc := defScope s_Comparison_drop_own) (by decide +kernel)) (fun _ _ _ _ _ => (pg_name (i := 4) sc_Comparison_drop_own.nd rfl (Or.inl rfl))) (fun _ _ _ _ _ => (pts_one (pt_cmpR op_ne (pe_ix (r := rIxT K) ix_tup (pv 4) pe_int (fun _ _ => rfl)) (pv 1) (nomark _)))) (fun _ _ _ _ _ => (pv 4))) (pss_one (ps_expr (pe_meth (pv 0) (G.cls 27 rfl) (G.meth 31 rfl) ok_Comparison_keep (hr.mono (by decide)) (b_Comparison_keep G) .nil passL (pa_cons (pe_call ok_without_id (hr.mono (by decide)) rfl (G.glo 35 rfl) (G.def_ 12 rfl).kp (b_without_id G) .nil passL (pa_cons (pe_fldK K (pv 2)) (pa_cons (pv 1) pa_nil))) (pa_cons (pe_fldK K (pv 2)) (pa_cons (pe_fldK K (pv 2)) (pa_cons (pv 3) pa_nil)))))))))), ?_⟩
  try dsimp only [cxOf]
  rintro ds μ W X ⟨_, _, rfl, c, a, sts, k, t, i, rfl, h, rfl, w⟩
  have hc := h.cell
  have hn := h.now
  have hk := (List.getElem?_eq_some_iff.mp hn).1
  unfold dropOwn at w
  repeat ac_rfl
  refine ⟨c, a, sts, k, t, rfl, h, .inl ?_⟩
  repeat ac_rfl
  refine ⟨_, i, congrArg Dt.lst (rows_ln t.own), rfl, by rw [List.length_map]; exact h.own, ?_⟩
  have ei : (t.own.map fun l => (l.1, [Dt.int l.2.1, Dt.int l.2.2])).map (·.1) = ids t.own := by rw [List.map_map]; rfl
  rw [ei]
  cases e : needKnown (ids t.own) i with
  | some er => rw [e] at w; exact w
  | none =>
    rw [e] at w
    unfold Ends0
    repeat ac_rfl
    refine ⟨c, a, sts, k, t, rfl, h, ?_⟩
    repeat ac_rfl
    refine wp_lcX prD (fun l => decide (l.1 ≠ i)) prD onto_name mono_name (wpi_list ?_)
    repeat ac_rfl
    refine ⟨t.fixed, rfl, by have := h.fixed; omega, fun l hl => ?_, ?_⟩
    · repeat ac_rfl
      refine rw_ixT (d := .int l.1) rfl ?_
      repeat ac_rfl
      refine it2 (fun e => ⟨by simpa using e, ?_⟩) fun e => ⟨by simpa using e, rfl⟩
      repeat ac_rfl
      exact ⟨rfl, rfl⟩
    repeat ac_rfl
    refine ⟨t.own, i, rfl, rfl, h.own, ?_⟩
    repeat ac_rfl
    exact ⟨c, a, sts, k, { t with own := t.own.filter fun l => decide (l.1 ≠ i), fixed := t.fixed.filter fun p => decide (p.1 ≠ i) }, rfl, hc, hk, h.few, rfl, rfl, rfl, rfl, w⟩
def q_Comparison_drop_other (K : Frag) (s x : Dt) : Post := fun μ W X => ∃ c a sts k t i, s = .ref a ∧ CmpAt K μ c a sts k t ∧ x = .int i ∧ EndsS K μ c a sts k W X (dropOther t i)
abbrev sp_Comparison_drop_other (K : Frag) : DSp := sp2 (q_Comparison_drop_other K)
theorem ok_Comparison_drop_other {P : Program} {w : World} {K : Frag} {mg : Str → Option Value} {base : Heap} (G : Good fa fn K mg) : FnOk P w K mg base (L2.CX P w) 4 (mA "Comparison" "drop_other" K) (fdOf K (mA "Comparison" "drop_other" K)) ["self", "row_id"] (spD K (sp_Comparison_drop_other K)) := by
  have ok_Comparison_need_known : FnOk P w K mg base (L2.CX P w) 3 (mA "Comparison" "need_known" K) (fdOf K (mA "Comparison" "need_known" K)) ["self", "lines", "row_id"] (spD K (sp_Comparison_need_known K)) := ok_Comparison_need_known G
  have ok_Comparison_other : FnOk P w K mg base (L2.CX P w) 1 (pA "Comparison" "other" K) (fdOf K (pA "Comparison" "other" K)) ["self"] (spD K (sp_Comparison_other K)) := ok_Comparison_other G
  have ok_Comparison_now : FnOk P w K mg base (L2.CX P w) 1 (mA "Comparison" "now" K) (fdOf K (mA "Comparison" "now" K)) ["self"] (spD K (sp_Comparison_now K)) := ok_Comparison_now G
  have ok_Comparison_keep : FnOk P w K mg base (L2.CX P w) 3 (mA "Comparison" "keep" K) (fdOf K (mA "Comparison" "keep" K)) ["self", "mine", "theirs", "cap", "fixed"] (spD K (sp_Comparison_keep K)) := ok_Comparison_keep G
  have ok_without_id : FnOk P w K mg base (L2.CX P w) 1 (gA "without_id" K) (fdOf K (gA "without_id" K)) ["lines", "row_id"] (spD K (sp_without_id K)) := ok_without_id G
  have c_State := G.cls 43 rfl
  have n_State_fixed := G.noat 63 rfl
  have c_State := G.cls 43 rfl
  have n_State_cap := G.noat 62 rfl
  have c_State := G.cls 43 rfl
  have n_State_theirs := G.noat 61 rfl
  have c_State := G.cls 43 rfl
  have n_State_mine := G.noat 60 rfl
  refine ok_def (G.def_ 28 rfl) sc_Comparison_drop_other len2 fun cdv A outer s0 H E hr => ⟨_, (pss_cons (ps_expr (pe_meth (pv 0) (G.cls 27 rfl) (G.meth 34 rfl) ok_Comparison_need_known (hr.mono (by decide)) (b_Comparison_need_known G) .nil (passX rfl rfl rfl rfl) (pa_cons (pe_prop (pv 0) (G.cls 27 rfl) (G.prop 33 rfl) ok_Comparison_other (hr.mono (by decide)) (b_Comparison_other G) .nil passL rfl) (pa_cons (pv 1) pa_nil)))) (pss_cons (ps_set (i := 2) sc_Comparison_drop_other.nd rfl (Or.inl rfl) (pe_meth0 (pv 0) (G.cls 27 rfl) (G.meth 30 rfl) ok_Comparison_now (hr.mono (by decide)) (b_Comparison_now G) .nil passL)) (pss_cons (ps_setLc (i := 3) (own := [("pair", 4)]) (g := (gName 4)) (tt := _) rfl sc_Comparison_drop_other.nd rfl rfl (sw_true rfl rfl rfl (by decide +kernel)) (pi_list (pe_fldK K (pv 2))) (blkOk_by (N := N_Comparison_drop_other) (sc := defScope s_Comparison_drop_other) (by decide +kernel)) (fun _ _ _ _ _ => (pg_name (i := 4) sc_Comparison_drop_other.nd rfl (Or.inl rfl))) (fun _ _ _ _ _ => (pts_one (pt_cmpR op_ne (pe_ix (r := rIxT K) ix_tup (pv 4) pe_int (fun _ _ => rfl)) (pv 1) (nomark _)))) (fun _ _ _ _ _ => (pv 4))) (pss_one (ps_expr (pe_meth (pv 0) (G.cls 27 rfl) (G.meth 31 rfl) ok_Comparison_keep (hr.mono (by decide)) (b_Comparison_keep G) .nil passL (pa_cons (pe_fldK K (pv 2)) (pa_cons (pe_call ok_without_id (hr.mono (by decide)) rfl (G.glo 35 rfl) (G.def_ 12 rfl).kp (b_without_id G) .nil passL (pa_cons (pe_fldK K (pv 2)) (pa_cons (pv 1) pa_nil))) (pa_cons (pe_fldK K (pv 2)) (pa_cons (pv 3) pa_nil)))))))))), ?_⟩
  try dsimp only [cxOf]
  rintro ds μ W X ⟨_, _, rfl, c, a, sts, k, t, i, rfl, h, rfl, w⟩
  have hc := h.cell
  have hn := h.now
  have hk := (List.getElem?_eq_some_iff.mp hn).1
  unfold dropOther at w
  repeat ac_rfl
  refine ⟨c, a, sts, k, t, rfl, h, .inl ?_⟩
  repeat ac_rfl
  refine ⟨_, i, congrArg Dt.lst (rows_ln t.other), rfl, by rw [List.length_map]; exact h.other, ?_⟩
  have ei : (t.other.map fun l => (l.1, [Dt.int l.2.1, Dt.int l.2.2])).map (·.1) = ids t.other := by rw [List.map_map]; rfl
  rw [ei]
  cases e : needKnown (ids t.other) i with
  | some er => rw [e] at w; exact w
  | none =>
    rw [e] at w
    unfold Ends0
    repeat ac_rfl
    refine ⟨c, a, sts, k, t, rfl, h, ?_⟩
    repeat ac_rfl
    refine wp_lcX prD (fun l => decide (l.2 ≠ i)) prD onto_name mono_name (wpi_list ?_)
    repeat ac_rfl
    refine ⟨t.fixed, rfl, by have := h.fixed; omega, fun l hl => ?_, ?_⟩
    · repeat ac_rfl
      refine rw_ixT (d := .int l.2) rfl ?_
      repeat ac_rfl
      refine it2 (fun e => ⟨by simpa using e, ?_⟩) fun e => ⟨by simpa using e, rfl⟩
      repeat ac_rfl
      exact ⟨rfl, rfl⟩
    repeat ac_rfl
    refine ⟨t.other, i, rfl, rfl, h.other, ?_⟩
    repeat ac_rfl
    exact ⟨c, a, sts, k, { t with other := t.other.filter fun l => decide (l.1 ≠ i), fixed := t.fixed.filter fun p => decide (p.2 ≠ i) }, rfl, hc, hk, h.few, rfl, rfl, rfl, rfl, w⟩
def q_Comparison_set_price (K : Frag) (s x : Dt) : Post := fun μ W X => ∃ c a sts k t i, s = .ref a ∧ CmpAt K μ c a sts k t ∧ x = .int i ∧ EndsS K μ c a sts k W X (setPrice t i)
abbrev sp_Comparison_set_price (K : Frag) : DSp := sp2 (q_Comparison_set_price K)
theorem ok_Comparison_set_price {P : Program} {w : World} {K : Frag} {mg : Str → Option Value} {base : Heap} (G : Good fa fn K mg) : FnOk P w K mg base (L2.CX P w) 4 (mA "Comparison" "set_price" K) (fdOf K (mA "Comparison" "set_price" K)) ["self", "price"] (spD K (sp_Comparison_set_price K)) := by
  have ok_is_price : FnOk P w K mg base (L2.CX P w) 3 (gA "is_price" K) (fdOf K (gA "is_price" K)) ["value"] (spD K (sp_is_price K)) := ok_is_price G
  have ok_BadPrice___init__ : FnOk P w K mg base (L2.CX P w) 1 (mA "BadPrice" "__init__" K) (fdOf K (mA "BadPrice" "__init__" K)) ["self", "value"] (spX K (gA "BadPrice" K) (mA "BadPrice" "__init__" K) "value") := ok_BadPrice___init__ G
  have ok_Comparison_now : FnOk P w K mg base (L2.CX P w) 1 (mA "Comparison" "now" K) (fdOf K (mA "Comparison" "now" K)) ["self"] (spD K (sp_Comparison_now K)) := ok_Comparison_now G
  have ok_Comparison_keep : FnOk P w K mg base (L2.CX P w) 3 (mA "Comparison" "keep" K) (fdOf K (mA "Comparison" "keep" K)) ["self", "mine", "theirs", "cap", "fixed"] (spD K (sp_Comparison_keep K)) := ok_Comparison_keep G
  have c_State := G.cls 43 rfl
  have n_State_fixed := G.noat 63 rfl
  have c_State := G.cls 43 rfl
  have n_State_theirs := G.noat 61 rfl
  have c_State := G.cls 43 rfl
  have n_State_mine := G.noat 60 rfl
  refine ok_def (G.def_ 29 rfl) sc_Comparison_set_price len2 fun cdv A outer s0 H E hr => ⟨_, (pss_cons (ps_if (pt_not (pt_val (pe_call ok_is_price (hr.mono (by decide)) rfl (G.glo 36 rfl) (G.def_ 9 rfl).kp (b_is_price G) .nil passL (pa_cons (pv 1) pa_nil)))) (pss_one (L2.ps_raise rfl (takes_of rfl rfl rfl rfl) (pmk_oex (G.exc1 37 rfl).o (G.exc1 37 rfl).i (G.exc1 37 rfl).t ok_BadPrice___init__ (hr.mono (by decide)) (b_BadPrice___init__ G) .nil passL rfl (G.glo 38 rfl) (pa_cons (pv 1) pa_nil)))) pss_nil) (pss_cons (ps_set (i := 2) sc_Comparison_set_price.nd rfl (Or.inl rfl) (pe_meth0 (pv 0) (G.cls 27 rfl) (G.meth 30 rfl) ok_Comparison_now (hr.mono (by decide)) (b_Comparison_now G) .nil passL)) (pss_one (ps_expr (pe_meth (pv 0) (G.cls 27 rfl) (G.meth 31 rfl) ok_Comparison_keep (hr.mono (by decide)) (b_Comparison_keep G) .nil passL (pa_cons (pe_fldK K (pv 2)) (pa_cons (pe_fldK K (pv 2)) (pa_cons (pv 1) (pa_cons (pe_fldK K (pv 2)) pa_nil))))))))), ?_⟩
  try dsimp only [cxOf]
  rintro ds μ W X ⟨_, _, rfl, c, a, sts, k, t, i, rfl, h, rfl, w⟩
  have hc := h.cell
  have hn := h.now
  have hk := (List.getElem?_eq_some_iff.mp hn).1
  unfold setPrice at w
  repeat ac_rfl
  refine .inl ⟨i, rfl, ?_⟩
  repeat ac_rfl
  refine it2 (fun e => ?_) fun e => ?_
  · rw [if_neg (show ¬ priceOk i = true by simp at e; simp [priceOk]; omega)] at w
    refine wps_raiseO (fun _ _ _ _ h => h) ?_
    repeat ac_rfl
    exact ⟨_, rfl, w⟩
  · rw [if_pos (show priceOk i = true by simp at e; simp [priceOk]; omega)] at w
    repeat ac_rfl
    refine ⟨c, a, sts, k, t, rfl, h, ?_⟩
    repeat ac_rfl
    exact ⟨c, a, sts, k, { t with cap := i }, rfl, hc, hk, h.few, rfl, rfl, rfl, rfl, w⟩


def q_Comparison_open_again (K : Frag) (s x : Dt) : Post := fun μ W X => ∃ c a sts k t i, s = .ref a ∧ CmpAt K μ c a sts k t ∧ x = .int i ∧ EndsS K μ c a sts k W X (openAgain t i)
abbrev sp_Comparison_open_again (K : Frag) : DSp := sp2 (q_Comparison_open_again K)
theorem ok_Comparison_open_again {P : Program} {w : World} {K : Frag} {mg : Str → Option Value} {base : Heap} (G : Good fa fn K mg) : FnOk P w K mg base (L2.CX P w) 4 (mA "Comparison" "open_again" K) (fdOf K (mA "Comparison" "open_again" K)) ["self", "own_id"] (spD K (sp_Comparison_open_again K)) := by
  have ok_Comparison_need_known : FnOk P w K mg base (L2.CX P w) 3 (mA "Comparison" "need_known" K) (fdOf K (mA "Comparison" "need_known" K)) ["self", "lines", "row_id"] (spD K (sp_Comparison_need_known K)) := ok_Comparison_need_known G
  have ok_Comparison_confirmed : FnOk P w K mg base (L2.CX P w) 1 (pA "Comparison" "confirmed" K) (fdOf K (pA "Comparison" "confirmed" K)) ["self"] (spD K (sp_Comparison_confirmed K)) := ok_Comparison_confirmed G
  have ok_Comparison_now : FnOk P w K mg base (L2.CX P w) 1 (mA "Comparison" "now" K) (fdOf K (mA "Comparison" "now" K)) ["self"] (spD K (sp_Comparison_now K)) := ok_Comparison_now G
  have ok_Comparison_keep : FnOk P w K mg base (L2.CX P w) 3 (mA "Comparison" "keep" K) (fdOf K (mA "Comparison" "keep" K)) ["self", "mine", "theirs", "cap", "fixed"] (spD K (sp_Comparison_keep K)) := ok_Comparison_keep G
  have c_State := G.cls 43 rfl
  have n_State_fixed := G.noat 63 rfl
  have c_State := G.cls 43 rfl
  have n_State_cap := G.noat 62 rfl
  have c_State := G.cls 43 rfl
  have n_State_theirs := G.noat 61 rfl
  have c_State := G.cls 43 rfl
  have n_State_mine := G.noat 60 rfl
  refine ok_def (G.def_ 30 rfl) sc_Comparison_open_again len2 fun cdv A outer s0 H E hr => ⟨_, (pss_cons (ps_expr (pe_meth (pv 0) (G.cls 27 rfl) (G.meth 34 rfl) ok_Comparison_need_known (hr.mono (by decide)) (b_Comparison_need_known G) .nil (passX rfl rfl rfl rfl) (pa_cons (pe_prop (pv 0) (G.cls 27 rfl) (G.prop 39 rfl) ok_Comparison_confirmed (hr.mono (by decide)) (b_Comparison_confirmed G) .nil passL rfl) (pa_cons (pv 1) pa_nil)))) (pss_cons (ps_set (i := 2) sc_Comparison_open_again.nd rfl (Or.inl rfl) (pe_meth0 (pv 0) (G.cls 27 rfl) (G.meth 30 rfl) ok_Comparison_now (hr.mono (by decide)) (b_Comparison_now G) .nil passL)) (pss_one (ps_expr (pe_meth (pv 0) (G.cls 27 rfl) (G.meth 31 rfl) ok_Comparison_keep (hr.mono (by decide)) (b_Comparison_keep G) .nil passL (pa_cons (pe_fldK K (pv 2)) (pa_cons (pe_fldK K (pv 2)) (pa_cons (pe_fldK K (pv 2)) (pa_cons (pe_lc (own := [("pair", 3)]) (g := (gName 3)) (tt := _) rfl sc_Comparison_open_again.nd (pi_list (pe_fldK K (pv 2))) (blkOk_by (N := N_Comparison_open_again) (sc := defScope s_Comparison_open_again) (by decide +kernel)) (fun _ _ _ _ _ => (pg_name (i := 3) sc_Comparison_open_again.nd rfl (Or.inl rfl))) (fun _ _ _ _ _ => (pts_one (pt_cmpR op_ne (pe_ix (r := rIxT K) ix_tup (pv 3) pe_int (fun _ _ => rfl)) (pv 1) (nomark _)))) (fun _ _ _ _ _ => (pv 3))) pa_nil))))))))), ?_⟩
  try dsimp only [cxOf]
  rintro ds μ W X ⟨_, _, rfl, c, a, sts, k, t, i, rfl, h, rfl, w⟩
  have hc := h.cell
  have hn := h.now
  have hk := (List.getElem?_eq_some_iff.mp hn).1
  unfold openAgain at w
  repeat ac_rfl
  refine ⟨c, a, sts, k, t, rfl, h, .inl ?_⟩
  repeat ac_rfl
  refine ⟨_, i, congrArg Dt.lst (rows_pr t.fixed), rfl, by rw [List.length_map]; exact h.fixed, ?_⟩
  have ei : (t.fixed.map fun l => (l.1, [Dt.int l.2])).map (·.1) = t.fixed.map (·.1) := by rw [List.map_map]; rfl
  rw [ei]
  cases e : needKnown (t.fixed.map (·.1)) i with
  | some er => rw [e] at w; exact w
  | none =>
    rw [e] at w
    unfold Ends0
    repeat ac_rfl
    refine ⟨c, a, sts, k, t, rfl, h, ?_⟩
    repeat ac_rfl
    refine wp_lcX prD (fun l => decide (l.1 ≠ i)) prD onto_name mono_name (wpi_list ?_)
    repeat ac_rfl
    refine ⟨t.fixed, rfl, by have := h.fixed; omega, fun l hl => ?_, ?_⟩
    · repeat ac_rfl
      refine rw_ixT (d := .int l.1) rfl ?_
      repeat ac_rfl
      refine it2 (fun e => ⟨by simpa using e, ?_⟩) fun e => ⟨by simpa using e, rfl⟩
      repeat ac_rfl
      exact ⟨rfl, rfl⟩
    repeat ac_rfl
    exact ⟨c, a, sts, k, { t with fixed := t.fixed.filter fun p => decide (p.1 ≠ i) }, rfl, hc, hk, h.few, rfl, rfl, rfl, rfl, w⟩
def q_Comparison_confirm (K : Frag) (s x y : Dt) : Post := fun μ W X => ∃ c a sts k t i j, s = .ref a ∧ CmpAt K μ c a sts k t ∧ x = .int i ∧ y = .int j ∧ EndsS K μ c a sts k W X (confirmS t i j)
abbrev sp_Comparison_confirm (K : Frag) : DSp := sp3 (q_Comparison_confirm K)
theorem ok_Comparison_confirm {P : Program} {w : World} {K : Frag} {mg : Str → Option Value} {base : Heap} (G : Good fa fn K mg) : FnOk P w K mg base (L2.CX P w) 4 (mA "Comparison" "confirm" K) (fdOf K (mA "Comparison" "confirm" K)) ["self", "own_id", "other_id"] (spD K (sp_Comparison_confirm K)) := by
  have ok_Comparison_need_known : FnOk P w K mg base (L2.CX P w) 3 (mA "Comparison" "need_known" K) (fdOf K (mA "Comparison" "need_known" K)) ["self", "lines", "row_id"] (spD K (sp_Comparison_need_known K)) := ok_Comparison_need_known G
  have ok_Comparison_own : FnOk P w K mg base (L2.CX P w) 1 (pA "Comparison" "own" K) (fdOf K (pA "Comparison" "own" K)) ["self"] (spD K (sp_Comparison_own K)) := ok_Comparison_own G
  have ok_Comparison_other : FnOk P w K mg base (L2.CX P w) 1 (pA "Comparison" "other" K) (fdOf K (pA "Comparison" "other" K)) ["self"] (spD K (sp_Comparison_other K)) := ok_Comparison_other G
  have ok_Comparison_now : FnOk P w K mg base (L2.CX P w) 1 (mA "Comparison" "now" K) (fdOf K (mA "Comparison" "now" K)) ["self"] (spD K (sp_Comparison_now K)) := ok_Comparison_now G
  have ok_TakenLine___init__ : FnOk P w K mg base (L2.CX P w) 1 (mA "TakenLine" "__init__" K) (fdOf K (mA "TakenLine" "__init__" K)) ["self", "row_id"] (spX K (gA "TakenLine" K) (mA "TakenLine" "__init__" K) "row_id") := ok_TakenLine___init__ G
  have ok_Comparison_keep : FnOk P w K mg base (L2.CX P w) 3 (mA "Comparison" "keep" K) (fdOf K (mA "Comparison" "keep" K)) ["self", "mine", "theirs", "cap", "fixed"] (spD K (sp_Comparison_keep K)) := ok_Comparison_keep G
  have c_State := G.cls 43 rfl
  have n_State_fixed := G.noat 63 rfl
  have c_State := G.cls 43 rfl
  have n_State_cap := G.noat 62 rfl
  have c_State := G.cls 43 rfl
  have n_State_theirs := G.noat 61 rfl
  have c_State := G.cls 43 rfl
  have n_State_mine := G.noat 60 rfl
  refine ok_def (G.def_ 31 rfl) sc_Comparison_confirm len3 fun cdv A outer s0 H E hr => ⟨_, (pss_cons (ps_expr (pe_meth (pv 0) (G.cls 27 rfl) (G.meth 34 rfl) ok_Comparison_need_known (hr.mono (by decide)) (b_Comparison_need_known G) .nil (passX rfl rfl rfl rfl) (pa_cons (pe_prop (pv 0) (G.cls 27 rfl) (G.prop 29 rfl) ok_Comparison_own (hr.mono (by decide)) (b_Comparison_own G) .nil passL rfl) (pa_cons (pv 1) pa_nil)))) (pss_cons (ps_expr (pe_meth (pv 0) (G.cls 27 rfl) (G.meth 34 rfl) ok_Comparison_need_known (hr.mono (by decide)) (b_Comparison_need_known G) .nil (passX rfl rfl rfl rfl) (pa_cons (pe_prop (pv 0) (G.cls 27 rfl) (G.prop 33 rfl) ok_Comparison_other (hr.mono (by decide)) (b_Comparison_other G) .nil passL rfl) (pa_cons (pv 2) pa_nil)))) (pss_cons (ps_set (i := 3) sc_Comparison_confirm.nd rfl (Or.inl rfl) (pe_meth0 (pv 0) (G.cls 27 rfl) (G.meth 30 rfl) ok_Comparison_now (hr.mono (by decide)) (b_Comparison_now G) .nil passL)) (pss_cons (ps_if (pt_cmpR (r := rIn K false) op_in_seq (pv 1) (pe_lc (own := [("pair", 4)]) (g := (gName 4)) (tt := tYes) rfl sc_Comparison_confirm.nd (pi_list (pe_fldK K (pv 3))) (blkOk_by (N := N_Comparison_confirm) (sc := defScope s_Comparison_confirm) (by decide +kernel)) (fun _ _ _ _ _ => (pg_name (i := 4) sc_Comparison_confirm.nd rfl (Or.inl rfl))) (fun _ _ _ _ _ => pts_nil) (fun _ _ _ _ _ => (pe_ix (r := rIxT K) ix_tup (pv 4) pe_int (fun _ _ => rfl)))) rfl) (pss_one (L2.ps_raise rfl (takes_of rfl rfl rfl rfl) (pmk_oex (G.exc1 40 rfl).o (G.exc1 40 rfl).i (G.exc1 40 rfl).t ok_TakenLine___init__ (hr.mono (by decide)) (b_TakenLine___init__ G) .nil passL rfl (G.glo 41 rfl) (pa_cons (pv 1) pa_nil)))) pss_nil) (pss_cons (ps_if (pt_cmpR (r := rIn K false) op_in_seq (pv 2) (pe_lc (own := [("pair", 4)]) (g := (gName 4)) (tt := tYes) rfl sc_Comparison_confirm.nd (pi_list (pe_fldK K (pv 3))) (blkOk_by (N := N_Comparison_confirm) (sc := defScope s_Comparison_confirm) (by decide +kernel)) (fun _ _ _ _ _ => (pg_name (i := 4) sc_Comparison_confirm.nd rfl (Or.inl rfl))) (fun _ _ _ _ _ => pts_nil) (fun _ _ _ _ _ => (pe_ix (r := rIxT K) ix_tup (pv 4) pe_int (fun _ _ => rfl)))) rfl) (pss_one (L2.ps_raise rfl (takes_of rfl rfl rfl rfl) (pmk_oex (G.exc1 40 rfl).o (G.exc1 40 rfl).i (G.exc1 40 rfl).t ok_TakenLine___init__ (hr.mono (by decide)) (b_TakenLine___init__ G) .nil passL rfl (G.glo 41 rfl) (pa_cons (pv 2) pa_nil)))) pss_nil) (pss_one (ps_expr (pe_meth (pv 0) (G.cls 27 rfl) (G.meth 31 rfl) ok_Comparison_keep (hr.mono (by decide)) (b_Comparison_keep G) .nil passL (pa_cons (pe_fldK K (pv 3)) (pa_cons (pe_fldK K (pv 3)) (pa_cons (pe_fldK K (pv 3)) (pa_cons (pe_callB (r := rSortD K) (cr_sortedD (hu64 hr)) rfl (G.free 11 rfl) (by rfl) (pa_cons (pe_lst (pa_starK K (pe_fldK K (pv 3)) (pa_cons (pe_tup (pa_cons (pv 1) (pa_cons (pv 2) pa_nil))) pa_nil))) pa_nil)) pa_nil)))))))))))), ?_⟩
  try dsimp only [cxOf]
  rintro ds μ W X ⟨_, _, _, rfl, c, a, sts, k, t, i, j, rfl, h, rfl, rfl, w⟩
  have hc := h.cell
  have hn := h.now
  have hk := (List.getElem?_eq_some_iff.mp hn).1
  unfold confirmS at w
  repeat ac_rfl
  refine ⟨c, a, sts, k, t, rfl, h, .inl ?_⟩
  repeat ac_rfl
  refine ⟨_, i, congrArg Dt.lst (rows_ln t.own), rfl, by rw [List.length_map]; exact h.own, ?_⟩
  have ei : (t.own.map fun l => (l.1, [Dt.int l.2.1, Dt.int l.2.2])).map (·.1) = ids t.own := by rw [List.map_map]; rfl
  rw [ei]
  cases e : needKnown (ids t.own) i with
  | some er => rw [e] at w; exact w
  | none =>
    rw [e] at w
    unfold Ends0
    repeat ac_rfl
    refine ⟨c, a, sts, k, t, rfl, h, .inl ?_⟩
    repeat ac_rfl
    refine ⟨_, j, congrArg Dt.lst (rows_ln t.other), rfl, by rw [List.length_map]; exact h.other, ?_⟩
    have ej : (t.other.map fun l => (l.1, [Dt.int l.2.1, Dt.int l.2.2])).map (·.1) = ids t.other := by rw [List.map_map]; rfl
    rw [ej]
    cases e : needKnown (ids t.other) j with
    | some er => simp only [e] at w; exact w
    | none =>
      simp only [e] at w
      unfold Ends0
      repeat ac_rfl
      refine ⟨c, a, sts, k, t, rfl, h, ?_⟩
      repeat ac_rfl
      refine wp_lc0 prD (fun r => .int r.1) onto_name mono_name (wpi_list ?_)
      repeat ac_rfl
      refine ⟨t.fixed, rfl, by have := h.fixed; omega, fun l hl => ?_, ?_⟩
      · repeat ac_rfl
        exact rw_ixT (d := .int l.1) rfl ⟨rfl, rfl⟩
      have e1 : t.fixed.map (fun r => Dt.int r.1) = (t.fixed.map (·.1)).map Dt.int := by rw [List.map_map]; rfl
      rw [e1]
      refine rw_inI (neg := false) (.inl isl) ?_
      repeat ac_rfl
      refine it2 (fun e => ?_) fun e => ?_
      · rw [if_pos (by simpa using e)] at w
        refine wps_raiseO (fun _ _ _ _ h => h) ?_
        repeat ac_rfl
        exact ⟨_, rfl, w⟩
      rw [if_neg (by simpa using e)] at w
      repeat ac_rfl
      refine wp_lc0 prD (fun r => .int r.2) onto_name mono_name (wpi_list ?_)
      repeat ac_rfl
      refine ⟨t.fixed, rfl, by have := h.fixed; omega, fun l hl => ?_, ?_⟩
      · repeat ac_rfl
        exact rw_ixT (d := .int l.2) rfl ⟨rfl, rfl⟩
      have e2 : t.fixed.map (fun r => Dt.int r.2) = (t.fixed.map (·.2)).map Dt.int := by rw [List.map_map]; rfl
      rw [e2]
      refine rw_inI (neg := false) (.inl isl) ?_
      repeat ac_rfl
      refine it2 (fun e => ?_) fun e => ?_
      · rw [if_pos (by simpa using e)] at w
        refine wps_raiseO (fun _ _ _ _ h => h) ?_
        repeat ac_rfl
        exact ⟨_, rfl, w⟩
      rw [if_neg (by simpa using e)] at w
      repeat ac_rfl
      refine ⟨_, .inl isl, ?_⟩
      repeat ac_rfl
      have e : t.fixed.map prD ++ [prD (i, j)] = (t.fixed ++ [(i, j)]).map prD := by rw [List.map_append]; rfl
      have hl := h.fixed
      refine ⟨by show (t.fixed.map prD ++ [prD (i, j)]).length ≤ _; rw [e, List.length_map, List.length_append, List.length_singleton]; omega, ?_⟩
      repeat ac_rfl
      show RWL K μ (rSortD K) [.lst (t.fixed.map prD ++ [prD (i, j)])] _
      rw [e]
      refine rw_sorted isl (sorts_pr _ (by rw [List.length_append, List.length_singleton]; omega)) ?_
      rw [sortD_pr]
      repeat ac_rfl
      exact ⟨c, a, sts, k, { t with fixed := sortPr (t.fixed ++ [(i, j)]) }, rfl, hc, hk, h.few, rfl, rfl, rfl, rfl, w⟩
def q_Comparison___eq__ (K : Frag) (x y : Dt) : Post := fun μ W _ => ∃ c a sts k t c' a' sts' k' t', x = .ref a ∧ CmpAt K μ c a sts k t ∧ y = .ref a' ∧ CmpAt K μ c' a' sts' k' t' ∧ W (.bl (decide (t = t'))) μ
abbrev sp_Comparison___eq__ (K : Frag) : DSp := sp2 (q_Comparison___eq__ K)
theorem ok_Comparison___eq__ {P : Program} {w : World} {K : Frag} {mg : Str → Option Value} {base : Heap} (G : Good fa fn K mg) : FnOk P w K mg base (L2.CX P w) 2 (mA "Comparison" "__eq__" K) (fdOf K (mA "Comparison" "__eq__" K)) ["self", "other"] (spD K (sp_Comparison___eq__ K)) := by
  have ok_Comparison_now : FnOk P w K mg base (L2.CX P w) 1 (mA "Comparison" "now" K) (fdOf K (mA "Comparison" "now" K)) ["self"] (spD K (sp_Comparison_now K)) := ok_Comparison_now G
  have ok_State_is_same : FnOk P w K mg base (L2.CX P w) 1 (mA "State" "is_same" K) (fdOf K (mA "State" "is_same" K)) ["self", "second"] (spD K (sp_State_is_same K)) := ok_State_is_same G
  refine ok_def (G.def_ 32 rfl) sc_Comparison___eq__ len2 fun cdv A outer s0 H E hr => ⟨_, (pss_one (ps_ret (pe_and (pe_callB (r := rIsi K) call_isi rfl (G.free 0 rfl) (by rfl) (pa_cons (pv 1) (pa_cons (pe_glob (v := .ref (gA "Comparison" K)) rfl (G.glo 42 rfl) rfl) pa_nil))) (pe_one (pe_meth (pe_meth0 (pv 0) (G.cls 27 rfl) (G.meth 30 rfl) ok_Comparison_now (hr.mono (by decide)) (b_Comparison_now G) .nil passL) (G.cls 43 rfl) (G.meth 44 rfl) ok_State_is_same (hr.mono (by decide)) (b_State_is_same G) .nil passL (pa_cons (pe_meth0 (pv 1) (G.cls 27 rfl) (G.meth 30 rfl) ok_Comparison_now (hr.mono (by decide)) (b_Comparison_now G) .nil passL) pa_nil)))))), ?_⟩
  try dsimp only [cxOf]
  rintro ds μ W X ⟨_, _, rfl, c, a, sts, k, t, c', a', sts', k', t', rfl, h, rfl, h', w⟩
  have hc := h.cell
  have hc' := h'.cell
  repeat ac_rfl
  refine rw_isiC (G.isi 66 rfl) hc' ?_
  repeat ac_rfl
  refine ⟨c, a, sts, k, t, rfl, h, ?_⟩
  repeat ac_rfl
  refine ⟨c', a', sts', k', t', rfl, h', ?_⟩
  repeat ac_rfl
  exact ⟨t, t', rfl, rfl, w⟩



/-! ### draws -/
theorem ok__law_draw {P : Program} {w : World} {K : Frag} {mg : Str → Option Value} {base : Heap} (G : Good fa fn K mg) : FnOk P w K mg base (L2.CX P w) 1 (gA "_law_draw" K) (fdOf K (gA "_law_draw" K)) ["stream", "size"] (spD K (sp__law_draw K)) := by
  refine ok_def (G.def_ 33 rfl) sc__law_draw len2 fun cdv A outer s0 H E hr => ⟨_, (pss_cons (ps_if (pt_cmpR op_ge (pe_ix (r := rIxL K) ix_list (pv 0) pe_int (fun _ _ => rfl)) (pv 1) (nomark _)) (pss_cons (ps_set (i := 2) sc__law_draw.nd rfl (Or.inl rfl) (pe_op op_mod (pe_ix (r := rIxL K) ix_list (pv 0) pe_int (fun _ _ => rfl)) (pv 1))) (pss_cons (ps_asg (pe_op op_fdiv (pe_ix (r := rIxL K) ix_list (pv 0) pe_int (fun _ _ => rfl)) (pv 1)) (pg_sub (pv 0) pe_int set_list)) (pss_one (ps_ret (pv 2))))) pss_nil) (pss_cons (ps_asg (pe_op op_mod (pe_op op_add (pe_op op_mul (pe_ix (r := rIxL K) ix_list (pv 0) pe_int (fun _ _ => rfl)) pe_int) pe_int) pe_int) (pg_sub (pv 0) pe_int set_list)) (pss_one (ps_ret (pe_op op_mod (pe_op op_fdiv (pe_op op_mod (pe_op op_powB (pe_op op_mod (pe_op op_powB (pe_ix (r := rIxL K) ix_list (pv 0) pe_int (fun _ _ => rfl)) pe_int) pe_int) pe_int) pe_int) pe_int) (pv 1)))))), ?_⟩
  try dsimp only [cxOf]
  rintro ds μ W X ⟨_, _, rfl, c, a, m, rfl, rfl, ⟨dg, sd, hc, h1, h2, h3⟩, m1, m2, w⟩
  repeat ac_rfl
  refine rw_ixC (d := .int dg) hc rfl ?_
  repeat ac_rfl
  refine it2 (fun e => ?_) fun e => ?_
  · repeat ac_rfl
    refine rw_ixC (d := .int dg) hc rfl ?_
    repeat ac_rfl
    refine rw_I (show 0 < m by omega) (fun _ => .int _) ?_
    repeat ac_rfl
    refine rw_ixC (d := .int dg) hc rfl ?_
    repeat ac_rfl
    refine rw_I (show CDiv dg m from ⟨by omega, by omega⟩) (fun _ => .int _) ?_
    refine wpg_setL ?_
    repeat ac_rfl
    refine ⟨c, a, _, 0, 0, rfl, rfl, hc, rfl, ?_⟩
    repeat ac_rfl
    exact w _ _ (Int.emod_nonneg _ (by omega)) (Int.emod_lt_of_pos _ (by omega)) (StrAt.mk' (at_set hc) (Int.ediv_nonneg h1 (by omega)) h2 h3)
  · repeat ac_rfl
    refine rw_ixC (d := .int sd) hc rfl ?_
    repeat ac_rfl
    refine rw_I (cmul_l h2 h3) (fun _ => .int _) ?_
    repeat ac_rfl
    refine rw_I (show (0 : Int) < 2147483647 by decide) (fun _ => .int _) ?_
    refine wpg_setL ?_
    repeat ac_rfl
    refine ⟨c, a, _, 1, 1, rfl, rfl, hc, rfl, ?_⟩
    have g1 : 0 ≤ (sd * 48271 + 12345) % 2147483647 := Int.emod_nonneg _ (by decide)
    have g2 : (sd * 48271 + 12345) % 2147483647 < 2147483647 := Int.emod_lt_of_pos _ (by decide)
    generalize (sd * 48271 + 12345) % 2147483647 = t at *
    repeat ac_rfl
    refine rw_ixC (d := .int t) (at_set hc) rfl ?_
    repeat ac_rfl
    refine rw_I (cpow_small g1 (by omega) (by decide) (by decide)) (fun _ => .int _) ?_
    repeat ac_rfl
    refine rw_I (show (0 : Int) < 2147483629 by decide) (fun _ => .int _) ?_
    have g3 : 0 ≤ t ^ (3 : Int).toNat % 2147483629 := Int.emod_nonneg _ (by decide)
    have g4 : t ^ (3 : Int).toNat % 2147483629 < 2147483629 := Int.emod_lt_of_pos _ (by decide)
    generalize t ^ (3 : Int).toNat % 2147483629 = u at *
    repeat ac_rfl
    refine rw_I (cpow_small g3 (by omega) (by decide) (by decide)) (fun _ => .int _) ?_
    repeat ac_rfl
    refine rw_I (show (0 : Int) < 1000000007 by decide) (fun _ => .int _) ?_
    repeat ac_rfl
    refine rw_I (show CDiv _ 7 from ⟨by decide, by decide⟩) (fun _ => .int _) ?_
    repeat ac_rfl
    refine rw_I (show 0 < m by omega) (fun _ => .int _) ?_
    exact w _ _ (Int.emod_nonneg _ (by omega)) (Int.emod_lt_of_pos _ (by omega)) (StrAt.mk' (at_set hc) h1 g1 (by omega))
theorem ok__law_stream {P : Program} {w : World} {K : Frag} {mg : Str → Option Value} {base : Heap} (G : Good fa fn K mg) : FnOk P w K mg base (L2.CX P w) 1 (gA "_law_stream" K) (fdOf K (gA "_law_stream" K)) ["script", "start"] (spD K (sp__law_stream K)) := by
  refine ok_def (G.def_ 34 rfl) sc__law_stream len2 fun cdv A outer s0 H E hr => ⟨_, (pss_cons (ps_set (i := 2) sc__law_stream.nd rfl (Or.inl rfl) (pe_op op_add pe_int (pv 1))) (pss_cons (ps_for PassesOwn.leaving rfl (pi_list (pv 0)) (pg_name (i := 3) sc__law_stream.nd rfl (Or.inl rfl)) (pss_one (ps_set (i := 2) sc__law_stream.nd rfl (Or.inl rfl) (pe_op op_add (pe_op op_mod (pe_op op_powB (pe_op op_add (pe_op op_mul (pv 2) pe_int) (pv 3)) pe_int) pe_int) pe_int)))) (pss_cons (ps_set (i := 4) sc__law_stream.nd rfl (Or.inl rfl) pe_int) (pss_cons (ps_if (PW.pt (pw_and (pt_cmpR op_lt (pv 1) (pe_callB (r := Evl.rLenS K) cr_len rfl (G.free 5 rfl) (by rfl) (pa_cons (pv 0) pa_nil)) (nomark _)) (pw_and1 (pt_cmpR op_ge (pe_ix (r := rIxL K) ix_list (pv 0) (pv 1) (fun _ _ => rfl)) (pe_op op_powB pe_int pe_int) (nomark _))))) (pss_one (ps_set (i := 4) sc__law_stream.nd rfl (Or.inl rfl) (pe_op op_sub (pe_ix (r := rIxL K) ix_list (pv 0) (pv 1) (fun _ _ => rfl)) (pe_op op_powB pe_int pe_int)))) pss_nil) (pss_one (ps_ret (pe_lst (pa_cons (pv 4) (pa_cons (pv 2) pa_nil))))))))), ?_⟩
  try dsimp only [cxOf]
  rintro ds μ W X ⟨_, _, rfl, ns, i, rfl, rfl, i0, i1, hl, hb, w⟩
  repeat ac_rfl
  refine wps_for (wpi_fls ?_)
  repeat ac_rfl
  refine ⟨_, rfl, fun j ρ' μ' => μ' = μ ∧ ∃ (sd : Int) (nb : Option Dt), 0 ≤ sd ∧ sd ≤ 2147483629 ∧ ρ' = [some (.fls (ns.map .int)), some (.int i), some (.int sd), nb, none], ⟨rfl, 53 + i, none, by omega, by omega, rfl⟩, ?_, ?_⟩
  · rintro j y ρ' μ' hy ⟨rfl, sd, nb, s0, s1, rfl⟩
    rw [List.getElem?_map] at hy
    cases e : ns[j]? with
    | none => rw [e] at hy; cases hy
    | some z =>
      rw [e] at hy
      cases hy
      have hz := hb z (List.mem_of_getElem? e)
      repeat ac_rfl
      refine rw_I (cmul_l s0 (by omega)) (fun _ => .int _) ?_
      repeat ac_rfl
      refine rw_I (show CPowB _ 3 from ⟨by decide, ?_⟩) (fun _ => .int _) ?_
      · have h1 := bits_seed (sd := sd) (n := z) (b := 1048576) (by omega) hz
        have h2 : (Builtin.Int.intBits (sd * 40127 + z) : Int) ≤ 1048624 := by omega
        have h4 : (2 : Int) ^ 27 = 134217728 := by decide
        omega
      repeat ac_rfl
      refine rw_I (show (0 : Int) < 2147483629 by decide) (fun _ => .int _) ?_
      have g3 : 0 ≤ (sd * 40127 + z) ^ (3 : Int).toNat % 2147483629 := Int.emod_nonneg _ (by decide)
      have g4 : (sd * 40127 + z) ^ (3 : Int).toNat % 2147483629 < 2147483629 := Int.emod_lt_of_pos _ (by decide)
      generalize (sd * 40127 + z) ^ (3 : Int).toNat % 2147483629 = u at *
      repeat ac_rfl
      exact ⟨rfl, u + 1, _, by omega, by omega, rfl⟩
  · rintro ρ' μ' ⟨rfl, sd, nb, s0, s1, rfl⟩
    repeat ac_rfl
    refine rw_len (.inr (.inr rfl)) ?_
    repeat ac_rfl
    have key : ∀ (ρ2 : Ro) (dg : Int), 0 ≤ dg → ρ2[4]? = some (some (.int dg)) → ρ2[2]? = some (some (.int sd)) → WPS K (bodyW E X) ρ2 μ' (tRet (tLst (tCons (tVar 4) (tCons (tVar 2) tNil)))) (bodyD W) := by
      intro ρ2 dg h0 e4 e2
      refine wps_ret (wp_lstC (wpa_cons (wp_var e4 (wpa_cons (wp_var e2 (wpa_nil ⟨(by show 2 ≤ 1000000; decide), fun p hp => ?_⟩))))))
      exact w p _ hp (StrAt.mk' at0 h0 s0 (by omega))
    refine it2 (fun e => ?_) fun e => ?_
    · repeat ac_rfl
      simp at e
      have hlt : i.toNat < ns.length := by omega
      have hz : atI (ns.map Dt.int) i = some (.int ns[i.toNat]) := by
        have := atI_map (enc := Dt.int) (List.getElem?_eq_getElem hlt)
        rwa [Int.toNat_of_nonneg i0] at this
      refine rw_ixF hz ?_
      repeat ac_rfl
      refine rw_I (show CPowB 10 18 from ⟨by decide, by decide +kernel⟩) (fun _ => .int _) ?_
      repeat ac_rfl
      refine it2 (fun e => ?_) fun e => ?_
      · repeat ac_rfl
        refine rw_ixF hz ?_
        repeat ac_rfl
        refine rw_I (show CPowB 10 18 from ⟨by decide, by decide +kernel⟩) (fun _ => .int _) ?_
        have e2 : (10 : Int) ^ (18 : Int).toNat = 1000000000000000000 := by decide +kernel
        simp at e
        refine rw_I0 (fun _ => .int _) (wpg_name ?_)
        exact key _ _ (by omega) rfl rfl
      · exact wps_next (key _ 0 (by decide) rfl rfl)
    · exact itF rfl (wps_next (key _ 0 (by decide) rfl rfl))



theorem ok_law {P : Program} {w : World} {K : Frag} {mg : Str → Option Value} {base : Heap} (G : Good fa fn K mg) : FnOk P w K mg base (L2.CX P w) 6 (gA "law" K) (fdOf K (gA "law" K)) ["script"] (spD K (sp_law K)) := by
  have ok__law_stream : FnOk P w K mg base (L2.CX P w) 1 (gA "_law_stream" K) (fdOf K (gA "_law_stream" K)) ["script", "start"] (spD K (sp__law_stream K)) := ok__law_stream G
  have ok__law_draw : FnOk P w K mg base (L2.CX P w) 1 (gA "_law_draw" K) (fdOf K (gA "_law_draw" K)) ["stream", "size"] (spD K (sp__law_draw K)) := ok__law_draw G
  have ok_Comparison___init__ : FnOk P w K mg base (L2.CX P w) 3 (mA "Comparison" "__init__" K) (fdOf K (mA "Comparison" "__init__" K)) ["self"] (spD K (sp_Comparison___init__ K)) := ok_Comparison___init__ G
  have ok_Comparison_add_own : FnOk P w K mg base (L2.CX P w) 5 (mA "Comparison" "add_own" K) (fdOf K (mA "Comparison" "add_own" K)) ["self", "row_id", "day", "amount"] (spD K (sp_Comparison_add_own K)) := ok_Comparison_add_own G
  have ok_Comparison_add_other : FnOk P w K mg base (L2.CX P w) 5 (mA "Comparison" "add_other" K) (fdOf K (mA "Comparison" "add_other" K)) ["self", "row_id", "day", "amount"] (spD K (sp_Comparison_add_other K)) := ok_Comparison_add_other G
  have ok_Comparison_set_price : FnOk P w K mg base (L2.CX P w) 4 (mA "Comparison" "set_price" K) (fdOf K (mA "Comparison" "set_price" K)) ["self", "price"] (spD K (sp_Comparison_set_price K)) := ok_Comparison_set_price G
  have ok_Comparison_confirm : FnOk P w K mg base (L2.CX P w) 4 (mA "Comparison" "confirm" K) (fdOf K (mA "Comparison" "confirm" K)) ["self", "own_id", "other_id"] (spD K (sp_Comparison_confirm K)) := ok_Comparison_confirm G
  have ok_Comparison_made : FnOk P w K mg base (L2.CX P w) 5 (cA "Comparison" "made" K) (fdOf K (cA "Comparison" "made" K)) ["cls", "own", "other", "price", "confirmed"] (spD K (sp_Comparison_made K)) := ok_Comparison_made G
  have ok_Comparison_own : FnOk P w K mg base (L2.CX P w) 1 (pA "Comparison" "own" K) (fdOf K (pA "Comparison" "own" K)) ["self"] (spD K (sp_Comparison_own K)) := ok_Comparison_own G
  have ok_Comparison_other : FnOk P w K mg base (L2.CX P w) 1 (pA "Comparison" "other" K) (fdOf K (pA "Comparison" "other" K)) ["self"] (spD K (sp_Comparison_other K)) := ok_Comparison_other G
  have ok_Comparison___eq__ : FnOk P w K mg base (L2.CX P w) 2 (mA "Comparison" "__eq__" K) (fdOf K (mA "Comparison" "__eq__" K)) ["self", "other"] (spD K (sp_Comparison___eq__ K)) := ok_Comparison___eq__ G
  have ok_Comparison_open_again : FnOk P w K mg base (L2.CX P w) 4 (mA "Comparison" "open_again" K) (fdOf K (mA "Comparison" "open_again" K)) ["self", "own_id"] (spD K (sp_Comparison_open_again K)) := ok_Comparison_open_again G
  have ok_Comparison_drop_own : FnOk P w K mg base (L2.CX P w) 4 (mA "Comparison" "drop_own" K) (fdOf K (mA "Comparison" "drop_own" K)) ["self", "row_id"] (spD K (sp_Comparison_drop_own K)) := ok_Comparison_drop_own G
  have ok_Comparison_drop_other : FnOk P w K mg base (L2.CX P w) 4 (mA "Comparison" "drop_other" K) (fdOf K (mA "Comparison" "drop_other" K)) ["self", "row_id"] (spD K (sp_Comparison_drop_other K)) := ok_Comparison_drop_other G
  have ok_Comparison_price : FnOk P w K mg base (L2.CX P w) 1 (pA "Comparison" "price" K) (fdOf K (pA "Comparison" "price" K)) ["self"] (spD K (sp_Comparison_price K)) := ok_Comparison_price G
  have ok_Comparison_confirmed : FnOk P w K mg base (L2.CX P w) 1 (pA "Comparison" "confirmed" K) (fdOf K (pA "Comparison" "confirmed" K)) ["self"] (spD K (sp_Comparison_confirmed K)) := ok_Comparison_confirmed G
  refine ok_def (G.def_ 35 rfl) sc_law len1 fun cdv A outer s0 H E hr => ⟨_, (pss_cons (ps_set (i := 1) sc_law.nd rfl (Or.inl rfl) (pe_call ok__law_stream (hr.mono (by decide)) rfl (G.glo 45 rfl) (G.def_ 34 rfl).kp (b__law_stream G) .nil passL (pa_cons (pv 0) (pa_cons pe_int pa_nil)))) (pss_cons (ps_par3 (i := 2) (j := 3) (l := 4) rfl sc_law.nd rfl rfl rfl (by decide) (by decide) (by decide) rfl rfl rfl (pa_cons (pe_op op_add pe_int (pe_call ok__law_draw (hr.mono (by decide)) rfl (G.glo 46 rfl) (G.def_ 33 rfl).kp (b__law_draw G) .nil passL (pa_cons (pv 1) (pa_cons pe_int pa_nil)))) (pa_cons (pe_call ok__law_draw (hr.mono (by decide)) rfl (G.glo 46 rfl) (G.def_ 33 rfl).kp (b__law_draw G) .nil passL (pa_cons (pv 1) (pa_cons pe_int pa_nil))) (pa_cons (pe_call ok__law_draw (hr.mono (by decide)) rfl (G.glo 46 rfl) (G.def_ 33 rfl).kp (b__law_draw G) .nil passL (pa_cons (pv 1) (pa_cons pe_int pa_nil))) pa_nil))) rfl) (pss_cons (ps_par (i := 5) (j := 6) rfl sc_law.nd rfl rfl (by decide) rfl rfl (pa_cons (pe_make0 (G.mkr 14 rfl) ok_Comparison___init__ (hr.mono (by decide)) rfl (G.glo 42 rfl) (b_Comparison___init__ G) .nil passL) (pa_cons (pe_make0 (G.mkr 14 rfl) ok_Comparison___init__ (hr.mono (by decide)) rfl (G.glo 42 rfl) (b_Comparison___init__ G) .nil passL) pa_nil)) rfl) (pss_cons (ps_expr (pe_meth (pv 5) (G.cls 27 rfl) (G.meth 47 rfl) ok_Comparison_add_own (hr.mono (by decide)) (b_Comparison_add_own G) .nil passL (pa_cons (pv 2) (pa_cons (pv 3) (pa_cons pe_int pa_nil))))) (pss_cons (ps_expr (pe_methN0 (pv 6) (G.cls 27 rfl) (G.meth 47 rfl) ok_Comparison_add_own (hr.mono (by decide)) (kb_Comparison_add_own_amount_day_row_id G) passL (pk_cons pe_int (pk_cons (pv 3) (pk_cons (pv 2) pk_nil))))) (pss_cons (ps_expr (pe_meth (pv 5) (G.cls 27 rfl) (G.meth 48 rfl) ok_Comparison_add_other (hr.mono (by decide)) (b_Comparison_add_other G) .nil passL (pa_cons pe_int (pa_cons pe_int (pa_cons pe_int pa_nil))))) (pss_cons (ps_expr (pe_methN0 (pv 6) (G.cls 27 rfl) (G.meth 48 rfl) ok_Comparison_add_other (hr.mono (by decide)) (kb_Comparison_add_other_amount_day_row_id G) passL (pk_cons pe_int (pk_cons pe_int (pk_cons pe_int pk_nil))))) (pss_cons (ps_expr (pe_meth (pv 5) (G.cls 27 rfl) (G.meth 49 rfl) ok_Comparison_set_price (hr.mono (by decide)) (b_Comparison_set_price G) .nil passL (pa_cons (pv 4) pa_nil))) (pss_cons (ps_expr (pe_methN0 (pv 6) (G.cls 27 rfl) (G.meth 49 rfl) ok_Comparison_set_price (hr.mono (by decide)) (kb_Comparison_set_price_price G) passL (pk_cons (pv 4) pk_nil))) (pss_cons (ps_expr (pe_meth (pv 5) (G.cls 27 rfl) (G.meth 50 rfl) ok_Comparison_confirm (hr.mono (by decide)) (b_Comparison_confirm G) .nil passL (pa_cons (pv 2) (pa_cons pe_int pa_nil)))) (pss_cons (ps_expr (pe_methN0 (pv 6) (G.cls 27 rfl) (G.meth 50 rfl) ok_Comparison_confirm (hr.mono (by decide)) (kb_Comparison_confirm_other_id_own_id G) passL (pk_cons pe_int (pk_cons (pv 2) pk_nil)))) (pss_cons (ps_set (i := 7) sc_law.nd rfl (Or.inl rfl) (pe_cmethN0 (pe_glob (v := .ref (gA "Comparison" K)) rfl (G.glo 42 rfl) rfl) (G.cmet 51 rfl).1 (G.cmet 51 rfl).2 ok_Comparison_made (hr.mono (by decide)) (kb_Comparison_made_confirmed_price_other_own G) passL (pk_cons (pe_lst (pa_cons (pe_tup (pa_cons (pv 2) (pa_cons pe_int pa_nil))) pa_nil)) (pk_cons (pv 4) (pk_cons (pe_prop (pv 6) (G.cls 27 rfl) (G.prop 33 rfl) ok_Comparison_other (hr.mono (by decide)) (b_Comparison_other G) .nil passL rfl) (pk_cons (pe_prop (pv 6) (G.cls 27 rfl) (G.prop 29 rfl) ok_Comparison_own (hr.mono (by decide)) (b_Comparison_own G) .nil passL rfl) pk_nil)))))) (pss_cons (ps_if (PW.pt (pw_or (pt_not (pt_cmpR (op_ownI (fun _ _ => rfl) rfl (G.meth 52 rfl) ok_Comparison___eq__ (hr.mono (by decide)) (b_Comparison___eq__ G) passL) (pv 5) (pv 6) (nomark _))) (pw_or1 (pt_not (pt_cmpR (op_ownI (fun _ _ => rfl) rfl (G.meth 52 rfl) ok_Comparison___eq__ (hr.mono (by decide)) (b_Comparison___eq__ G) passL) (pv 7) (pv 5) (nomark _)))))) (pss_one (ps_ret pe_bl)) pss_nil) (pss_cons (ps_expr (pe_methN0 (pv 6) (G.cls 27 rfl) (G.meth 53 rfl) ok_Comparison_open_again (hr.mono (by decide)) (kb_Comparison_open_again_own_id G) passL (pk_cons (pv 2) pk_nil))) (pss_cons (ps_expr (pe_methN0 (pv 6) (G.cls 27 rfl) (G.meth 54 rfl) ok_Comparison_drop_own (hr.mono (by decide)) (kb_Comparison_drop_own_row_id G) passL (pk_cons (pv 2) pk_nil))) (pss_cons (ps_expr (pe_methN0 (pv 6) (G.cls 27 rfl) (G.meth 55 rfl) ok_Comparison_drop_other (hr.mono (by decide)) (kb_Comparison_drop_other_row_id G) passL (pk_cons pe_int pk_nil))) (pss_one (ps_ret (pe_and (pe_cmpR (r := rEqD K) (op_eqD (hu64 hr)) (pe_prop (pv 6) (G.cls 27 rfl) (G.prop 29 rfl) ok_Comparison_own (hr.mono (by decide)) (b_Comparison_own G) .nil passL rfl) (pe_lst pa_nil) (nomark _)) (pe_and (pe_cmpR (r := rEqD K) (op_eqD (hu64 hr)) (pe_prop (pv 6) (G.cls 27 rfl) (G.prop 33 rfl) ok_Comparison_other (hr.mono (by decide)) (b_Comparison_other G) .nil passL rfl) (pe_lst pa_nil) (nomark _)) (pe_and (pe_cmpR op_eq (pe_prop (pv 6) (G.cls 27 rfl) (G.prop 56 rfl) ok_Comparison_price (hr.mono (by decide)) (b_Comparison_price G) .nil passL rfl) (pv 4) (nomark _)) (pe_one (pe_cmpR (r := rEqD K) (op_eqD (hu64 hr)) (pe_prop (pv 6) (G.cls 27 rfl) (G.prop 39 rfl) ok_Comparison_confirmed (hr.mono (by decide)) (b_Comparison_confirmed G) .nil passL rfl) (pe_lst pa_nil) (nomark _)))))))))))))))))))))))), ?_⟩
  try dsimp only [cxOf]
  rintro ds μ W X ⟨_, rfl, ns, rfl, hl, hb, w⟩
  repeat ac_rfl
  refine ⟨ns, 0, rfl, rfl, by decide, by decide, by omega, hb, fun p x hp hs => ?_⟩
  repeat ac_rfl
  refine drawat hs (by decide) (by decide) fun n1 x1 n10 n19 hs1 => ?_
  repeat ac_rfl
  refine drawat hs1 (by decide) (by decide) fun n2 x2 n20 n29 hs2 => ?_
  repeat ac_rfl
  refine drawat hs2 (by decide) (by decide) fun n3 x3 n30 n39 hs3 => ?_
  clear hs hs1 hs2 hs3
  repeat ac_rfl
  refine ⟨_, _, _, rfl, ?_⟩
  have hN0 : 1 ≤ 1 + n1 := by omega
  have hN1 : 1 + n1 ≤ 9 := by omega
  generalize 1 + n1 = N at hN0 hN1 ⊢
  repeat ac_rfl
  refine wp_make ?_
  repeat ac_rfl
  intro a ha
  repeat ac_rfl
  refine ⟨a, _, rfl, rfl, rfl, ?_⟩
  repeat ac_rfl
  refine wp_make ?_
  repeat ac_rfl
  intro b hb'
  repeat ac_rfl
  refine ⟨b, _, rfl, rfl, rfl, ?_⟩
  repeat ac_rfl
  refine ⟨_, _, rfl, ?_⟩
  let s0 : Stt := ⟨[], [], 0, []⟩
  let s1 : Stt := ⟨[(N, n2, 100)], [], 0, []⟩
  let s2 : Stt := ⟨[(N, n2, 100)], [(8, 2, 50)], 0, []⟩
  let s3 : Stt := ⟨[(N, n2, 100)], [(8, 2, 50)], n3, []⟩
  let s4 : Stt := ⟨[(N, n2, 100)], [(8, 2, 50)], n3, [(N, 8)]⟩
  have e1 : addOwn s0 (N, n2, 100) = .ok s1 := by
    rw [addOwn_ok (by rw [lineOk_iff]; refine ⟨⟨hN0, by show N ≤ 1000000; omega⟩, ⟨n20, by show n2 ≤ 1000000; omega⟩, ⟨by show (-1000000000000 : Int) ≤ 100; decide, by show (100 : Int) ≤ 1000000000000; decide⟩, by show (100 : Int) ≠ 0; decide⟩) (by simp [s0, ids]) (by simp [s0])]
    simp [s0, s1, sortLn_one]
  have e2 : addOther s1 (8, 2, 50) = .ok s2 := by
    rw [addOther_ok (by decide) (by simp [s1, ids]) (by simp [s1])]
    simp [s1, s2, sortLn_one]
  have e3 : setPrice s2 n3 = .ok s3 := by
    rw [price_ok n30 (by omega)]
  have e4 : confirmS s3 N 8 = .ok s4 := by
    rw [confirm_ok (by simp [s3, ids]) (by simp [s3, ids]) (by simp [s3]) (by simp [s3])]
    simp [s3, s4, sortPr_one]
  repeat ac_rfl
  refine ⟨1, a, [s0], 0, s0, N, n2, 100, rfl, cmpat rfl rfl rfl rfl rfl rfl, rfl, rfl, rfl, ?_⟩
  rw [e1]
  simp only [EndsS, List.set_cons_zero, List.set_cons_succ]
  repeat ac_rfl
  refine ⟨0, b, _, rfl, rfl, rfl, ?_⟩
  repeat ac_rfl
  refine ⟨rfl, rfl, ?_⟩
  show sp_Comparison_add_own K [.ref b, .int N, .int n2, .int 100] _ _ _
  repeat ac_rfl
  refine ⟨0, b, [s0], 0, s0, N, n2, 100, rfl, cmpat rfl rfl rfl rfl rfl rfl, rfl, rfl, rfl, ?_⟩
  rw [e1]
  simp only [EndsS, List.set_cons_zero, List.set_cons_succ]
  repeat ac_rfl
  refine ⟨1, a, [s0, s1], 1, s1, 8, 2, 50, rfl, cmpat rfl rfl rfl rfl rfl rfl, rfl, rfl, rfl, ?_⟩
  rw [e2]
  simp only [EndsS, List.set_cons_zero, List.set_cons_succ]
  repeat ac_rfl
  refine ⟨0, b, _, rfl, rfl, rfl, ?_⟩
  repeat ac_rfl
  refine ⟨rfl, rfl, ?_⟩
  show sp_Comparison_add_other K [.ref b, .int 8, .int 2, .int 50] _ _ _
  repeat ac_rfl
  refine ⟨0, b, [s0, s1], 1, s1, 8, 2, 50, rfl, cmpat rfl rfl rfl rfl rfl rfl, rfl, rfl, rfl, ?_⟩
  rw [e2]
  simp only [EndsS, List.set_cons_zero, List.set_cons_succ]
  repeat ac_rfl
  refine ⟨1, a, [s0, s1, s2], 2, s2, n3, rfl, cmpat rfl rfl rfl rfl rfl rfl, rfl, ?_⟩
  rw [e3]
  simp only [EndsS, List.set_cons_zero, List.set_cons_succ]
  repeat ac_rfl
  refine ⟨0, b, _, rfl, rfl, rfl, ?_⟩
  repeat ac_rfl
  refine ⟨rfl, rfl, ?_⟩
  show sp_Comparison_set_price K [.ref b, .int n3] _ _ _
  repeat ac_rfl
  refine ⟨0, b, [s0, s1, s2], 2, s2, n3, rfl, cmpat rfl rfl rfl rfl rfl rfl, rfl, ?_⟩
  rw [e3]
  simp only [EndsS, List.set_cons_zero, List.set_cons_succ]
  repeat ac_rfl
  refine ⟨1, a, [s0, s1, s2, s3], 3, s3, N, 8, rfl, cmpat rfl rfl rfl rfl rfl rfl, rfl, rfl, ?_⟩
  rw [e4]
  simp only [EndsS, List.set_cons_zero, List.set_cons_succ]
  repeat ac_rfl
  refine ⟨0, b, _, rfl, rfl, rfl, ?_⟩
  repeat ac_rfl
  refine ⟨rfl, rfl, ?_⟩
  show sp_Comparison_confirm K [.ref b, .int N, .int 8] _ _ _
  repeat ac_rfl
  refine ⟨0, b, [s0, s1, s2, s3], 3, s3, N, 8, rfl, cmpat rfl rfl rfl rfl rfl rfl, rfl, rfl, ?_⟩
  rw [e4]
  simp only [EndsS, List.set_cons_zero, List.set_cons_succ]
  repeat ac_rfl
  refine ⟨rfl, ?_⟩
  repeat ac_rfl
  refine ⟨0, b, [s0, s1, s2, s3, s4], 4, s4, rfl, cmpat rfl rfl rfl rfl rfl rfl, .inl ?_⟩
  repeat ac_rfl
  refine ⟨0, b, [s0, s1, s2, s3, s4], 4, s4, rfl, cmpat rfl rfl rfl rfl rfl rfl, .inl ?_⟩
  repeat ac_rfl
  refine ⟨rfl, ?_⟩
  show sp_Comparison_made K [.ref (gA "Comparison" K), .lst (s4.own.map lnD), .lst (s4.other.map lnD), .int n3, .lst (s4.fixed.map prD)] _ _ _
  repeat ac_rfl
  refine ⟨s4.own, s4.other, n3, s4.fixed, rfl, isl, isl, rfl, isl, Nat.le_of_ble_eq_true rfl, Nat.le_of_ble_eq_true rfl, Nat.le_of_ble_eq_true rfl, fun m hm => ?_⟩
  have e5 : (⟨sortLn s4.own, sortLn s4.other, n3, sortPr s4.fixed⟩ : Stt) = s4 := by simp [s4, sortLn_one, sortPr_one]
  rw [e5]
  repeat ac_rfl
  refine rw_own (i := 2) (j := 1) rfl rfl ?_
  repeat ac_rfl
  refine ⟨2, a, [s0, s1, s2, s3, s4], 4, s4, 1, b, [s0, s1, s2, s3, s4], 4, s4, rfl, cmpat rfl rfl rfl rfl rfl rfl, rfl, cmpat rfl rfl rfl rfl rfl rfl, ?_⟩
  rw [decide_eq_true (show s4 = s4 from rfl)]
  repeat ac_rfl
  refine rw_own (i := 0) (j := 2) rfl rfl ?_
  repeat ac_rfl
  refine ⟨0, m, [s4], 0, s4, 2, a, [s0, s1, s2, s3, s4], 4, s4, rfl, cmpat rfl rfl rfl rfl rfl rfl, rfl, cmpat rfl rfl rfl rfl rfl rfl, ?_⟩
  rw [decide_eq_true (show s4 = s4 from rfl)]
  repeat ac_rfl
  let s5 : Stt := ⟨[(N, n2, 100)], [(8, 2, 50)], n3, []⟩
  let s6 : Stt := ⟨[], [(8, 2, 50)], n3, []⟩
  let s7 : Stt := ⟨[], [], n3, []⟩
  have f1 : openAgain s4 N = .ok s5 := by
    rw [open_ok (by simp [s4])]
    simp [s4, s5]
  have f2 : dropOwn s5 N = .ok s6 := by
    rw [dropOwn_ok (by simp [s5, ids])]
    simp [s5, s6]
  have f3 : dropOther s6 8 = .ok s7 := by
    rw [dropOther_ok (by simp [s6, ids])]
    simp [s6, s7]
  refine ⟨1, b, _, rfl, rfl, rfl, ?_⟩
  repeat ac_rfl
  refine ⟨rfl, rfl, ?_⟩
  show sp_Comparison_open_again K [.ref b, .int N] _ _ _
  repeat ac_rfl
  refine ⟨1, b, [s0, s1, s2, s3, s4], 4, s4, N, rfl, cmpat rfl rfl rfl rfl rfl rfl, rfl, ?_⟩
  rw [f1]
  simp only [EndsS, List.set_cons_zero, List.set_cons_succ]
  repeat ac_rfl
  refine ⟨1, b, _, rfl, rfl, rfl, ?_⟩
  repeat ac_rfl
  refine ⟨rfl, rfl, ?_⟩
  show sp_Comparison_drop_own K [.ref b, .int N] _ _ _
  repeat ac_rfl
  refine ⟨1, b, [s0, s1, s2, s3, s4, s5], 5, s5, N, rfl, cmpat rfl rfl rfl rfl rfl rfl, rfl, ?_⟩
  rw [f2]
  simp only [EndsS, List.set_cons_zero, List.set_cons_succ]
  repeat ac_rfl
  refine ⟨1, b, _, rfl, rfl, rfl, ?_⟩
  repeat ac_rfl
  refine ⟨rfl, rfl, ?_⟩
  show sp_Comparison_drop_other K [.ref b, .int 8] _ _ _
  repeat ac_rfl
  refine ⟨1, b, [s0, s1, s2, s3, s4, s5, s6], 6, s6, 8, rfl, cmpat rfl rfl rfl rfl rfl rfl, rfl, ?_⟩
  rw [f3]
  simp only [EndsS, List.set_cons_zero, List.set_cons_succ]
  repeat ac_rfl
  refine ⟨1, b, [s0, s1, s2, s3, s4, s5, s6, s7], 7, s7, rfl, cmpat rfl rfl rfl rfl rfl rfl, .inl ?_⟩
  repeat ac_rfl
  refine rw_eq_lns (xs := []) (ys := []) isl isl ?_
  repeat ac_rfl
  refine ⟨1, b, [s0, s1, s2, s3, s4, s5, s6, s7], 7, s7, rfl, cmpat rfl rfl rfl rfl rfl rfl, .inl ?_⟩
  repeat ac_rfl
  refine rw_eq_lns (xs := []) (ys := []) isl isl ?_
  repeat ac_rfl
  refine ⟨1, b, [s0, s1, s2, s3, s4, s5, s6, s7], 7, s7, rfl, cmpat rfl rfl rfl rfl rfl rfl, ?_⟩
  repeat ac_rfl
  rw [decide_eq_true (show s7.cap = n3 from rfl)]
  repeat ac_rfl
  refine ⟨1, b, [s0, s1, s2, s3, s4, s5, s6, s7], 7, s7, rfl, cmpat rfl rfl rfl rfl rfl rfl, .inl ?_⟩
  repeat ac_rfl
  refine rw_eq_prs (xs := []) (ys := []) isl isl ?_
  exact w _



abbrev R : OpenRow := OpenLaw.row PySem.Challenge.rw_matchlines_k51_comparisons_by_name
abbrev qv : Program := view R.prog [46]
def loose : List Str := (["_wall", "GREATEST_ID", "LAST_DAY", "GREATEST_AMOUNT", "GREATEST_PRICE", "is_integer", "is_between", "is_line", "is_price", "sequence", "lines_of", "amounts_of", "MatchError", "BadLine", "BadPrice", "BadNumber", "UnknownLine", "TakenId", "TakenLine", "Unpaired"] : List Str) ++ (["chosen", "first_unpaired", "in_sequence", "lesser", "least_by_number", "exact_steps", "steps", "need_number", "best_matching", "pairs_at", "matching_at", "is_id_in", "with_line", "without_id", "State", "Comparison", "_law_stream", "_law_draw", "_law_choose"] : List Str)
theorem run (w : World) : HandSHeadRun.RunEq R qv (hookP 8 fa fn) (obP 8 fa fn) 9000 loose w := by
  intro os
  kernel_rfl
end Ml.K51

open PySem PySem.W PyProof.Rows
theorem PySem.Challenge.cw_matchlines_k51_comparisons_by_name_holds : PySem.Challenge.rw_matchlines_k51_comparisons_by_name.Holds := by
  w_on; o_law
  refine HandSHeadRun.head_any (r := OpenLaw.row PySem.Challenge.rw_matchlines_k51_comparisons_by_name) (q := Ml.K51.qv) (H := Ml.hookP 8 Ml.K51.fa Ml.K51.fn) (ob := Ml.obP 8 Ml.K51.fa Ml.K51.fn) (M := 9000) (loose := Ml.K51.loose) (kwd := []) (fun s => Ml.obP_eq s) (by kernel_rfl) (fun s => by kernel_rfl) Ml.K51.run (by rfl) (by rfl) (by rfl) (by rfl) (by first | assumption | decide +kernel) (by decide +kernel) ⟨rfl, rfl, rfl, rfl, rfl, by decide +kernel⟩ ?hw ?hc
  case hw => w_witness2
  case hc => exact Ml.walk_gen (l := PySem.Challenge.rw_matchlines_k51_comparisons_by_name) (k := 6) rfl rfl ⟨rfl, by decide, by decide⟩ rfl (fun w K mg G base => Ml.K51.ok_law G) (fun K mg G s u => G.bindsTo 35 (ps := ["script"]) rfl rfl (fun _ _ _ _ _ _ us hl => match us, hl with | [_], _ => rfl) s [u] rfl) (fun K mg G => G.glo 57 rfl)
