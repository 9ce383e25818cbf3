import PyProof.Rows.All
import Wide.All
import OpenK.AllK
import Wide.FinOn
import HandS.ForMost
import HandS.Evl
import HandS.Exc
import HandS.Zip
import HandS.DictComp
import HandS.Style
import HandS.Flow
import HandS.Defaults
import HandS.Property
import HandS.ClsMeth
import HandS.IsInst
import HandS.WordsExc
import HandS.CallSlots
import KE.SortData
import HandS.MakeKwOnly
import HandS.Head0
import HandS.Head1
import HandS.Head2
import HandS.HeadHook1
import HandS.HeadHook2
import HandS.HeadEnd
import HandS.EndBits
import HandS.ExcInit
import HandS.Star
import HandS.Wide
import HandS.WideMore
import HandS.SlotsOwn
import HandS.ExcField
import HandS.TryOnly
import PyProof.ReprRoads
import PyProof.ReprLen
import PyProof.Rows.ReprShort
import HandS.NamedTupSort
import HandS.DictTup
import HandS.More
import HandS.Deep
import PySem.Challenge.RW_matchlines_k53_reports_of_days
set_option Elab.async false
set_option linter.all false
set_option maxRecDepth 100000
set_option maxHeartbeats 0
/-! Ml1: data, memory cells, the data-level wishes (WP) over the hand layer's readings. -/
namespace Ml
open PySem L2
abbrev Frag := PySem.W.Frag
abbrev Addr := PySem.Addr
/-- data -/
inductive Dt where
  | non | bl (b : Bool) | int (i : Int) | str (x : Str) | ref (a : Addr) | ty (n : String)
  | lst (ds : List Dt) | tup (ds : List Dt) | ins (C : Addr) (ns : List Str) (ds : List Dt)
  /-- a list that is never written (the script) -/
  | fls (ds : List Dt)
  /-- dicts that are never written again -/
  | fdK (ks : List Key) (ds : List Dt) | fdT (ks : List (List Key)) (ds : List Dt)
mutual
inductive Rep (K : Frag) (T : Hp) : V → Dt → Prop
  | non : Rep K T .non .non
  | bl (b : Bool) : Rep K T (.bl b) (.bl b)
  | int (i : Int) : Rep K T (.int i) (.int i)
  | str (x : Str) : Rep K T (.str x) (.str x)
  | ref (a : Addr) : Rep K T (.ref a) (.ref a)
  | ty (n : String) : Rep K T (.ty n) (.ty n)
  | lst {a : Addr} {xs : List V} {ds : List Dt} : T a = some (.lst xs) → Reps K T xs ds → Rep K T (.ref a) (.lst ds)
  | tup {a : Addr} {xs : List V} {ds : List Dt} : T a = some (.tup xs) → Reps K T xs ds → Rep K T (.ref a) (.tup ds)
  | fls {a : Addr} {xs : List V} {ds : List Dt} : SqL K T a xs → Reps K T xs ds → Rep K T (.ref a) (.fls ds)
  | ins {a C dx : Addr} {ns : List Str} {xs : List V} {ds : List Dt} : T a = some (.ins C dx (ns.zip xs)) → ns.length = xs.length → Reps K T xs ds → Rep K T (.ref a) (.ins C ns ds)
  | fdK {a : Addr} {o : PySem.Obj} {us : List (Key × V)} {ds : List Dt} : T a = some (.frz o (.dK us)) → Reps K T (us.map (·.2)) ds → Rep K T (.ref a) (.fdK (us.map (·.1)) ds)
  | fdT {a : Addr} {o : PySem.Obj} {us : List (List Key × V)} {ds : List Dt} : T a = some (.frz o (.dT us)) → Reps K T (us.map (·.2)) ds → Rep K T (.ref a) (.fdT (us.map (·.1)) ds)
inductive Reps (K : Frag) (T : Hp) : List V → List Dt → Prop
  | nil : Reps K T [] []
  | cons {v : V} {vs : List V} {d : Dt} {ds : List Dt} : Rep K T v d → Reps K T vs ds → Reps K T (v :: vs) (d :: ds)
end
def Sub (T T' : Hp) : Prop := ∀ b o, T b = some o → T' b = some o
theorem Sub.refl (T : Hp) : Sub T T := fun _ _ h => h
theorem Sub.trans {A B C : Hp} (h : Sub A B) (g : Sub B C) : Sub A C := fun b o e => g b o (h b o e)
theorem Sub.l {K : Frag} {T T' : Hp} {a : Addr} {xs : List V} (e : Sub T T') (h : SqL K T a xs) : SqL K T' a xs := Evl.ex_l e h
theorem Sub.t {K : Frag} {T T' : Hp} {a : Addr} {xs : List V} (e : Sub T T') (h : SqT K T a xs) : SqT K T' a xs := Evl.ex_t e h
mutual
theorem Rep.mono {K : Frag} {T T' : Hp} (e : Sub T T') : ∀ {v : V} {d : Dt}, Rep K T v d → Rep K T' v d
  | _, _, .non => .non
  | _, _, .bl b => .bl b
  | _, _, .int i => .int i
  | _, _, .str x => .str x
  | _, _, .ref a => .ref a
  | _, _, .ty n => .ty n
  | _, _, .lst h r => .lst (e _ _ h) (Reps.mono e r)
  | _, _, .tup h r => .tup (e _ _ h) (Reps.mono e r)
  | _, _, .fls h r => .fls (e.l h) (Reps.mono e r)
  | _, _, .ins h l r => .ins (e _ _ h) l (Reps.mono e r)
  | _, _, .fdK h r => .fdK (e _ _ h) (Reps.mono e r)
  | _, _, .fdT h r => .fdT (e _ _ h) (Reps.mono e r)
theorem Reps.mono {K : Frag} {T T' : Hp} (e : Sub T T') : ∀ {vs : List V} {ds : List Dt}, Reps K T vs ds → Reps K T' vs ds
  | _, _, .nil => .nil
  | _, _, .cons h r => .cons (Rep.mono e h) (Reps.mono e r)
end
theorem Reps.length {K : Frag} {T : Hp} : ∀ {vs : List V} {ds : List Dt}, Reps K T vs ds → vs.length = ds.length
  | _, _, .nil => rfl
  | _, _, .cons _ r => by rw [List.length_cons, List.length_cons, Reps.length r]
theorem Reps.get {K : Frag} {T : Hp} : ∀ {vs : List V} {ds : List Dt} {i : Nat} {d : Dt}, Reps K T vs ds → ds[i]? = some d → ∃ v, vs[i]? = some v ∧ Rep K T v d
  | _, _, _, _, .nil, e => by simp at e
  | _, _, 0, _, .cons h _, e => by
    simp at e
    subst e
    exact ⟨_, rfl, h⟩
  | _, _, i + 1, d, .cons _ r, e => by
    obtain ⟨v, h1, h2⟩ := Reps.get (i := i) (d := d) r (by simpa using e)
    exact ⟨v, by simpa using h1, h2⟩
theorem Reps.get' {K : Frag} {T : Hp} {vs : List V} {ds : List Dt} {i : Nat} {v : V} (h : Reps K T vs ds) (e : vs[i]? = some v) : ∃ d, ds[i]? = some d ∧ Rep K T v d := by
  have hl := h.length
  obtain ⟨hi, _⟩ := List.getElem?_eq_some_iff.mp e
  have e2 : ds[i]? = some ds[i] := List.getElem?_eq_getElem (by omega)
  obtain ⟨v', h1, h2⟩ := h.get e2
  rw [e] at h1
  cases h1
  exact ⟨_, e2, h2⟩
theorem Reps.append {K : Frag} {T : Hp} : ∀ {vs us : List V} {ds es : List Dt}, Reps K T vs ds → Reps K T us es → Reps K T (vs ++ us) (ds ++ es)
  | _, _, _, _, .nil, r => r
  | _, _, _, _, .cons h r, q => .cons h (Reps.append r q)
theorem Reps.take {K : Frag} {T : Hp} : ∀ {vs : List V} {ds : List Dt} (n : Nat), Reps K T vs ds → Reps K T (vs.take n) (ds.take n)
  | _, _, 0, _ => by simp; exact .nil
  | _, _, _ + 1, .nil => .nil
  | _, _, n + 1, .cons h r => .cons h (Reps.take n r)
theorem Reps.drop {K : Frag} {T : Hp} : ∀ {vs : List V} {ds : List Dt} (n : Nat), Reps K T vs ds → Reps K T (vs.drop n) (ds.drop n)
  | _, _, 0, r => r
  | _, _, _ + 1, .nil => .nil
  | _, _, n + 1, .cons _ r => Reps.drop n r
theorem Reps.set {K : Frag} {T : Hp} {v : V} {d : Dt} (h : Rep K T v d) : ∀ {vs : List V} {ds : List Dt} (n : Nat), Reps K T vs ds → Reps K T (vs.set n v) (ds.set n d)
  | _, _, _, .nil => .nil
  | _, _, 0, .cons _ r => .cons h r
  | _, _, n + 1, .cons g r => .cons g (Reps.set h n r)
theorem Reps.one {K : Frag} {T : Hp} {v : V} {d : Dt} (h : Rep K T v d) : Reps K T [v] [d] := .cons h .nil
/-- flat data as a value -/
def Dt.flat : Dt → Option V
  | .non => some .non
  | .bl b => some (.bl b)
  | .int i => some (.int i)
  | .str x => some (.str x)
  | .ref a => some (.ref a)
  | _ => none
theorem Rep.int_inv {K : Frag} {T : Hp} {v : V} {i : Int} (h : Rep K T v (.int i)) : v = .int i := by cases h; rfl
theorem Rep.bl_inv {K : Frag} {T : Hp} {v : V} {b : Bool} (h : Rep K T v (.bl b)) : v = .bl b := by cases h; rfl
theorem Rep.str_inv {K : Frag} {T : Hp} {v : V} {x : Str} (h : Rep K T v (.str x)) : v = .str x := by cases h; rfl
theorem Rep.non_inv {K : Frag} {T : Hp} {v : V} (h : Rep K T v .non) : v = .non := by cases h; rfl
theorem Rep.ref_inv {K : Frag} {T : Hp} {v : V} {a : Addr} (h : Rep K T v (.ref a)) : v = .ref a := by cases h; rfl
theorem Rep.ty_inv {K : Frag} {T : Hp} {v : V} {a : String} (h : Rep K T v (.ty a)) : v = .ty a := by cases h; rfl
theorem Rep.lst_inv {K : Frag} {T : Hp} {v : V} {ds : List Dt} (h : Rep K T v (.lst ds)) : ∃ a xs, v = .ref a ∧ T a = some (.lst xs) ∧ Reps K T xs ds := by cases h with | lst h r => exact ⟨_, _, rfl, h, r⟩
theorem Rep.fls_inv {K : Frag} {T : Hp} {v : V} {ds : List Dt} (h : Rep K T v (.fls ds)) : ∃ a xs, v = .ref a ∧ SqL K T a xs ∧ Reps K T xs ds := by cases h with | fls h r => exact ⟨_, _, rfl, h, r⟩
theorem Rep.tup_inv {K : Frag} {T : Hp} {v : V} {ds : List Dt} (h : Rep K T v (.tup ds)) : ∃ a xs, v = .ref a ∧ T a = some (.tup xs) ∧ Reps K T xs ds := by cases h with | tup h r => exact ⟨_, _, rfl, h, r⟩
theorem Rep.ins_inv {K : Frag} {T : Hp} {v : V} {C : Addr} {ns : List Str} {ds : List Dt} (h : Rep K T v (.ins C ns ds)) : ∃ a dx xs, v = .ref a ∧ T a = some (.ins C dx (ns.zip xs)) ∧ ns.length = xs.length ∧ Reps K T xs ds := by cases h with | ins h l r => exact ⟨_, _, _, rfl, h, l, r⟩
theorem Reps.nil_inv {K : Frag} {T : Hp} {vs : List V} (h : Reps K T vs []) : vs = [] := by cases h; rfl
theorem Reps.cons_inv {K : Frag} {T : Hp} {vs : List V} {d : Dt} {ds : List Dt} (h : Reps K T vs (d :: ds)) : ∃ v us, vs = v :: us ∧ Rep K T v d ∧ Reps K T us ds := by cases h with | cons h r => exact ⟨_, _, rfl, h, r⟩

/-! ### memory: what may change -/
inductive Mo where
  | lst (ds : List Dt) | dK (kvs : List (Key × Dt)) | dT (kvs : List (List Key × Dt)) | ins (C : Addr) (fs : List (Str × Dt)) | xd (fs : List (Str × Dt))
abbrev Mem := List (Addr × Mo)
def PRep {α : Type} (K : Frag) (T : Hp) (p : α × V) (q : α × Dt) : Prop := p.1 = q.1 ∧ Rep K T p.2 q.2
def Cell (K : Frag) (T H : Hp) (a : Addr) : Mo → Prop
  | .lst ds => ∃ vs, H a = some (.lst vs) ∧ Reps K T vs ds
  | .dK kvs => ∃ us, H a = some (.dK us) ∧ Paired (PRep K T) us kvs
  | .dT kvs => ∃ us, H a = some (.dT us) ∧ Paired (PRep K T) us kvs
  | .ins C fs => ∃ dx us, H a = some (.ins C dx us) ∧ Paired (PRep K T) us fs
  | .xd fs => ∃ us, H a = some (.xd us) ∧ Paired (PRep K T) us fs
theorem PRep.mono {α : Type} {K : Frag} {T T' : Hp} (e : Sub T T') {us : List (α × V)} {kvs : List (α × Dt)} (h : Paired (PRep K T) us kvs) : Paired (PRep K T') us kvs :=
  Paired.mapP h fun _ _ ⟨h1, h2⟩ => ⟨h1, h2.mono e⟩
theorem Cell.mono {K : Frag} {T T' H H' : Hp} {a : Addr} {m : Mo} (e : Sub T T') (k : ∀ o, H a = some o → H' a = some o) (h : Cell K T H a m) : Cell K T' H' a m := by
  cases m with
  | lst ds => obtain ⟨vs, h1, h2⟩ := h; exact ⟨vs, k _ h1, h2.mono e⟩
  | dK kvs => obtain ⟨us, h1, h2⟩ := h; exact ⟨us, k _ h1, PRep.mono e h2⟩
  | dT kvs => obtain ⟨us, h1, h2⟩ := h; exact ⟨us, k _ h1, PRep.mono e h2⟩
  | ins C fs => obtain ⟨dx, us, h1, h2⟩ := h; exact ⟨dx, us, k _ h1, PRep.mono e h2⟩
  | xd fs => obtain ⟨us, h1, h2⟩ := h; exact ⟨us, k _ h1, PRep.mono e h2⟩
theorem Cell.there {K : Frag} {T H : Hp} {a : Addr} {m : Mo} (h : Cell K T H a m) : ∃ o, H a = some o := by
  cases m with
  | lst ds => obtain ⟨vs, h1, h2⟩ := h; exact ⟨_, h1⟩
  | dK kvs => obtain ⟨us, h1, h2⟩ := h; exact ⟨_, h1⟩
  | dT kvs => obtain ⟨us, h1, h2⟩ := h; exact ⟨_, h1⟩
  | ins C fs => obtain ⟨dx, us, h1, h2⟩ := h; exact ⟨_, h1⟩
  | xd fs => obtain ⟨us, h1, h2⟩ := h; exact ⟨_, h1⟩
theorem Cell.notTup {K : Frag} {T H : Hp} {a : Addr} {m : Mo} (h : Cell K T H a m) {o : HO} (e : H a = some o) : ∀ xs, o ≠ .tup xs := fun ys z => by
  subst z
  cases m with
  | lst ds => obtain ⟨vs, h1, h2⟩ := h; rw [e] at h1; cases h1
  | dK kvs => obtain ⟨us, h1, h2⟩ := h; rw [e] at h1; cases h1
  | dT kvs => obtain ⟨us, h1, h2⟩ := h; rw [e] at h1; cases h1
  | ins C fs => obtain ⟨dx, us, h1, h2⟩ := h; rw [e] at h1; cases h1
  | xd fs => obtain ⟨us, h1, h2⟩ := h; rw [e] at h1; cases h1
abbrev dom (μ : Mem) : List Addr := μ.map (·.1)
structure Mst (K : Frag) (T : Hp) (μ : Mem) (H : Hp) : Prop where
  sub : Sub T H
  mem : ∀ p ∈ μ, T p.1 = none ∧ Cell K T H p.1 p.2
  nd : (dom μ).Nodup
structure Step (T : Hp) (μ : Mem) (H : Hp) (T' : Hp) (μ' : Mem) (H' : Hp) : Prop where
  grow : Sub T T'
  kept : ∀ b o, H b = some o → b ∉ dom μ → H' b = some o
  new : ∀ b o, H b = some o → (∀ xs, o ≠ .tup xs) → T b = none → b ∉ dom μ → T' b = none
  cells : ∀ b o, H b = some o → b ∉ dom μ → b ∉ dom μ'
theorem Step.refl (T : Hp) (μ : Mem) (H : Hp) : Step T μ H T μ H := ⟨Sub.refl T, fun _ _ h _ => h, fun _ _ _ _ h _ => h, fun _ _ _ h => h⟩
theorem Step.trans {T T1 T2 : Hp} {μ μ1 μ2 : Mem} {H H1 H2 : Hp} (a : Step T μ H T1 μ1 H1) (b : Step T1 μ1 H1 T2 μ2 H2) : Step T μ H T2 μ2 H2 where
  grow := a.grow.trans b.grow
  kept := fun c o h n => b.kept c o (a.kept c o h n) (a.cells c o h n)
  new := fun c o h z t n => b.new c o (a.kept c o h n) z (a.new c o h z t n) (a.cells c o h n)
  cells := fun c o h n => b.cells c o (a.kept c o h n) (a.cells c o h n)
theorem Mst.fresh {K : Frag} {T H : Hp} {μ : Mem} (M : Mst K T μ H) {p : Addr} (h : H p = none) : T p = none := by
  cases e : T p with
  | none => rfl
  | some o => rw [M.sub _ _ e] at h; cases h
theorem Mst.notin {K : Frag} {T H : Hp} {μ : Mem} (M : Mst K T μ H) {p : Addr} (h : H p = none) : p ∉ dom μ := fun hp => by
  obtain ⟨q, hq, e⟩ := List.mem_map.mp hp
  obtain ⟨o, ho⟩ := (M.mem q hq).2.there
  rw [e, h] at ho
  cases ho
/-- a new object of data is laid -/
theorem Mst.lay {K : Frag} {T H : Hp} {μ : Mem} {p : Addr} {o : HO} (M : Mst K T μ H) (h : H p = none) : Mst K (upd T p o) μ (upd H p o) ∧ Step T μ H (upd T p o) μ (upd H p o) := by
  have ht := M.fresh h
  have g : Sub T (upd T p o) := fun b u e => by rw [upd_ne (ne_of_none e ht)]; exact e
  refine ⟨⟨fun b u e => ?_, fun q hq => ?_, M.nd⟩, ⟨g, fun b u e _ => ?_, fun b u e _ t _ => ?_, fun _ _ _ n => n⟩⟩
  · by_cases hb : b = p
    · subst hb; rw [upd_same] at e ⊢; exact e
    · rw [upd_ne hb] at e ⊢; exact M.sub _ _ e
  · obtain ⟨h1, h2⟩ := M.mem q hq
    have hne : q.1 ≠ p := fun e => M.notin h (List.mem_map.mpr ⟨q, hq, e⟩)
    exact ⟨by rw [upd_ne hne]; exact h1, h2.mono g fun u e => by rw [upd_ne hne]; exact e⟩
  · rw [upd_ne (ne_of_none e h)]; exact e
  · rw [upd_ne (ne_of_none e h)]; exact t
/-- a new cell -/
theorem Mst.cell {K : Frag} {T H : Hp} {μ : Mem} {p : Addr} {o : HO} {m : Mo} (M : Mst K T μ H) (h : H p = none) (c : Cell K T (upd H p o) p m) : Mst K T ((p, m) :: μ) (upd H p o) ∧ Step T μ H T ((p, m) :: μ) (upd H p o) := by
  have ht := M.fresh h
  refine ⟨⟨fun b u e => ?_, fun q hq => ?_, ?_⟩, ⟨Sub.refl T, fun b u e _ => ?_, fun b u e _ t _ => t, fun b u e n hb => ?_⟩⟩
  · rw [upd_ne (ne_of_none e ht)]; exact M.sub _ _ e
  · rcases List.mem_cons.mp hq with rfl | hq
    · exact ⟨ht, c⟩
    · obtain ⟨h1, h2⟩ := M.mem q hq
      have hne : q.1 ≠ p := fun e => M.notin h (List.mem_map.mpr ⟨q, hq, e⟩)
      exact ⟨h1, h2.mono (Sub.refl T) fun u e => by rw [upd_ne hne]; exact e⟩
  · exact List.nodup_cons.mpr ⟨M.notin h, M.nd⟩
  · rw [upd_ne (ne_of_none e h)]; exact e
  · rcases List.mem_cons.mp (show b ∈ p :: dom μ from hb) with hb | hb
    · subst hb; rw [h] at e; cases e
    · exact n hb
theorem dom_set {μ : Mem} {i : Nat} {a : Addr} {m m' : Mo} (h : μ[i]? = some (a, m)) : dom (μ.set i (a, m')) = dom μ := by
  show (μ.set i (a, m')).map (·.1) = μ.map (·.1)
  rw [List.map_set]
  obtain ⟨hi, e⟩ := List.getElem?_eq_some_iff.mp h
  have : (μ.map (·.1))[i]? = some a := by rw [List.getElem?_map, h]; rfl
  obtain ⟨hi', e'⟩ := List.getElem?_eq_some_iff.mp this
  apply List.ext_getElem (by simp)
  intro j h1 h2
  by_cases hj : j = i
  · subst hj; rw [List.getElem_set_self]; exact e'.symm
  · rw [List.getElem_set_ne (Ne.symm hj)]
theorem Mst.dom_inj {K : Frag} {T H : Hp} {μ : Mem} (M : Mst K T μ H) {i : Nat} {a : Addr} {m : Mo} (h : μ[i]? = some (a, m)) {j : Nat} {q : Addr × Mo} (hq : μ[j]? = some q) (e : q.1 = a) : j = i := by
  have h1 : (dom μ)[i]? = some a := by show (μ.map (·.1))[i]? = _; rw [List.getElem?_map, h]; rfl
  have h2 : (dom μ)[j]? = some a := by show (μ.map (·.1))[j]? = _; rw [List.getElem?_map, hq]; exact congrArg some e
  obtain ⟨h3, e3⟩ := List.getElem?_eq_some_iff.mp h1
  obtain ⟨h4, e4⟩ := List.getElem?_eq_some_iff.mp h2
  exact (List.getElem_inj M.nd).mp (e4.trans e3.symm)
/-- the i-th cell is written -/
theorem Mst.put {K : Frag} {T H : Hp} {μ : Mem} {i : Nat} {a : Addr} {m m' : Mo} {o : HO} (M : Mst K T μ H) (h : μ[i]? = some (a, m)) (c : Cell K T (upd H a o) a m') : Mst K T (μ.set i (a, m')) (upd H a o) ∧ Step T μ H T (μ.set i (a, m')) (upd H a o) := by
  have hm : (a, m) ∈ μ := List.mem_of_getElem? h
  have ha : a ∈ dom μ := List.mem_map.mpr ⟨_, hm, rfl⟩
  have ta : T a = none := (M.mem _ hm).1
  have hi := (List.getElem?_eq_some_iff.mp h).1
  refine ⟨⟨fun b u e => ?_, fun q hq => ?_, ?_⟩, ⟨Sub.refl T, fun b u e n => ?_, fun b u e _ t _ => t, fun b u e n => ?_⟩⟩
  · rw [upd_ne (ne_of_none e ta)]; exact M.sub _ _ e
  · obtain ⟨j, hj⟩ := List.mem_iff_getElem?.mp hq
    by_cases hji : j = i
    · subst hji
      rw [List.getElem?_set_self hi] at hj
      cases hj
      exact ⟨ta, c⟩
    · rw [List.getElem?_set_ne (Ne.symm hji)] at hj
      obtain ⟨h1, h2⟩ := M.mem q (List.mem_of_getElem? hj)
      have hne : q.1 ≠ a := fun e => hji (M.dom_inj h hj e)
      exact ⟨h1, h2.mono (Sub.refl T) fun u e => by rw [upd_ne hne]; exact e⟩
  · show (dom (μ.set i (a, m'))).Nodup
    rw [dom_set h]; exact M.nd
  · have hne : b ≠ a := fun e => n (e ▸ ha)
    rw [upd_ne hne]; exact e
  · rw [dom_set h]; exact n
theorem Mst.get {K : Frag} {T H : Hp} {μ : Mem} {i : Nat} {a : Addr} {m : Mo} (M : Mst K T μ H) (h : μ[i]? = some (a, m)) : Cell K T H a m := (M.mem _ (List.mem_of_getElem? h)).2
/-- some cells alone -/
theorem Mst.part {K : Frag} {T H : Hp} {μ foot rest : Mem} (M : Mst K T μ H) (p : μ.Perm (foot ++ rest)) : Mst K T foot H :=
  ⟨M.sub, fun q hq => M.mem q (p.mem_iff.mpr (List.mem_append_left _ hq)), by
    have h : (dom (foot ++ rest)).Nodup := (p.map (·.1)).nodup_iff.mp M.nd
    rw [show dom (foot ++ rest) = dom foot ++ dom rest from List.map_append] at h
    exact (List.nodup_append.mp h).1⟩
/-- the rest stays -/
theorem Mst.frame {K : Frag} {T H T' H' : Hp} {μ foot foot' rest : Mem} (M : Mst K T μ H) (p : μ.Perm (foot ++ rest)) (S : Step T foot H T' foot' H') (M' : Mst K T' foot' H') :
    Mst K T' (foot' ++ rest) H' ∧ Step T μ H T' (foot' ++ rest) H' := by
  have hnd : (dom (foot ++ rest)).Nodup := (p.map (·.1)).nodup_iff.mp M.nd
  rw [show dom (foot ++ rest) = dom foot ++ dom rest from List.map_append] at hnd
  obtain ⟨n1, n2, n3⟩ := List.nodup_append.mp hnd
  have memr : ∀ q ∈ rest, q ∈ μ := fun q hq => p.mem_iff.mpr (List.mem_append_right _ hq)
  have out : ∀ q ∈ rest, q.1 ∉ dom foot := fun q hq hf => n3 _ hf _ (List.mem_map.mpr ⟨q, hq, rfl⟩) rfl
  have dm : ∀ b, b ∈ dom μ ↔ b ∈ dom foot ∨ b ∈ dom rest := fun b => by
    have := (p.map (·.1)).mem_iff (a := b)
    rw [show (foot ++ rest).map (·.1) = dom foot ++ dom rest from List.map_append] at this
    exact this.trans List.mem_append
  refine ⟨⟨M'.sub, fun q hq => ?_, ?_⟩, ⟨S.grow, fun b o e n => S.kept b o e fun h => n ((dm b).mpr (.inl h)), fun b o e z t n => S.new b o e z t fun h => n ((dm b).mpr (.inl h)), fun b o e n h => ?_⟩⟩
  · rcases List.mem_append.mp hq with hq | hq
    · exact M'.mem q hq
    · obtain ⟨h1, h2⟩ := M.mem q (memr q hq)
      obtain ⟨o, ho⟩ := h2.there
      exact ⟨S.new _ o ho (h2.notTup ho) h1 (out q hq), h2.mono S.grow fun u e => S.kept _ u e (out q hq)⟩
  · show (dom (foot' ++ rest)).Nodup
    rw [show dom (foot' ++ rest) = dom foot' ++ dom rest from List.map_append]
    refine List.nodup_append.mpr ⟨M'.nd, n2, fun a ha b hb e => ?_⟩
    subst e
    obtain ⟨q, hq, e⟩ := List.mem_map.mp hb
    obtain ⟨o, ho⟩ := (M.mem q (memr q hq)).2.there
    have e' : q.1 = a := e
    subst e'
    exact S.cells _ o ho (out q hq) ha
  · rw [show dom (foot' ++ rest) = dom foot' ++ dom rest from List.map_append] at h
    rcases List.mem_append.mp h with h | h
    · exact S.cells b o e (fun z => n ((dm b).mpr (.inl z))) h
    · exact n ((dm b).mpr (.inr h))
theorem Mst.perm {K : Frag} {T H : Hp} {μ μ' : Mem} (M : Mst K T μ H) (p : μ.Perm μ') : Mst K T μ' H :=
  ⟨M.sub, fun q hq => M.mem q (p.mem_iff.mpr hq), (p.map (·.1)).nodup_iff.mp M.nd⟩
theorem Step.perm {T H T' H' : Hp} {μ μ' μ'' : Mem} (S : Step T μ H T' μ' H') (p : μ'.Perm μ'') : Step T μ H T' μ'' H' :=
  ⟨S.grow, S.kept, S.new, fun b o e n h => S.cells b o e n ((p.map (·.1)).mem_iff.mpr h)⟩
theorem Step.permL {T H T' H' : Hp} {μ μ' μ0 : Mem} (S : Step T μ H T' μ' H') (p : μ0.Perm μ) : Step T μ0 H T' μ' H' := by
  have d : ∀ b, b ∉ dom μ0 → b ∉ dom μ := fun b n h => n ((p.map (·.1)).mem_iff.mpr h)
  exact ⟨S.grow, fun b o e n => S.kept b o e (d b n), fun b o e z t n => S.new b o e z t (d b n), fun b o e n => S.cells b o e (d b n)⟩
/-- cells forgotten -/
theorem Mst.drop {K : Frag} {T H : Hp} {μ foot rest : Mem} (M : Mst K T μ H) (p : μ.Perm (foot ++ rest)) : Mst K T foot H ∧ Step T μ H T foot H :=
  ⟨M.part p, ⟨Sub.refl T, fun _ _ h _ => h, fun _ _ _ _ h _ => h, fun b o e n h => n ((p.map (·.1)).mem_iff.mpr (by rw [List.map_append]; exact List.mem_append_left _ h))⟩⟩
end Ml

/-! Ml2: the wishes over data. -/
namespace Ml
open PySem L2
abbrev Ro := List (Option Dt)
structure Locs (K : Frag) (T : Hp) (ρ : Ro) (σ : L2.St) : Prop where
  len : σ.length = ρ.length
  get : ∀ (i : Nat) (d : Dt), ρ[i]? = some (some d) → ∃ v, σ[i]? = some (some v) ∧ Rep K T v d
theorem Locs.mono {K : Frag} {T T' : Hp} {ρ : Ro} {σ : L2.St} (e : Sub T T') (h : Locs K T ρ σ) : Locs K T' ρ σ :=
  ⟨h.len, fun i d e' => let ⟨v, h1, h2⟩ := h.get i d e'; ⟨v, h1, h2.mono e⟩⟩
theorem Locs.set {K : Frag} {T : Hp} {ρ : Ro} {σ : L2.St} (h : Locs K T ρ σ) {v : V} {d : Dt} (r : Rep K T v d) (i : Nat) : Locs K T (ρ.set i (some d)) (σ.set i (some v)) := by
  refine ⟨by simp [h.len], fun j e he => ?_⟩
  by_cases hj : j = i
  · subst hj
    by_cases hl : j < ρ.length
    · rw [List.getElem?_set_self hl] at he
      cases he
      exact ⟨v, by rw [List.getElem?_set_self (by rw [h.len]; exact hl)], r⟩
    · rw [List.getElem?_eq_none (by simpa using hl)] at he
      cases he
  · rw [List.getElem?_set_ne (Ne.symm hj)] at he
    obtain ⟨w, h1, h2⟩ := h.get j e he
    exact ⟨w, by rw [List.getElem?_set_ne (Ne.symm hj)]; exact h1, h2⟩
theorem Locs.clear {K : Frag} {T : Hp} {ρ : Ro} {σ : L2.St} (h : Locs K T ρ σ) (i : Nat) : Locs K T (ρ.set i none) (σ.set i none) := by
  refine ⟨by simp [h.len], fun j e he => ?_⟩
  by_cases hj : j = i
  · subst hj
    by_cases hl : j < ρ.length
    · rw [List.getElem?_set_self hl] at he
      cases he
    · rw [List.getElem?_eq_none (by simpa using hl)] at he
      cases he
  · rw [List.getElem?_set_ne (Ne.symm hj)] at he
    obtain ⟨w, h1, h2⟩ := h.get j e he
    exact ⟨w, by rw [List.getElem?_set_ne (Ne.symm hj)]; exact h1, h2⟩
/-- what is wanted of an exception: at the slots; over data -/
structure Wish where
  W : WX
  X : Addr → List (Str × Dt) → Ro → Mem → Prop
def FinW (K : Frag) (T : Hp) (μ : Mem) (H : Hp) (Y : Wish) : Prop := ∀ T' C dx fs σ' ρ' H' μ', Y.X C fs ρ' μ' → Step T μ H T' ((dx, .xd fs) :: μ') H' → Mst K T' ((dx, .xd fs) :: μ') H' → Locs K T' ρ' σ' → Y.W (.ref C) (some dx) σ' H'
/-- no exception -/
def noW : Wish := ⟨fun _ _ _ _ => False, fun _ _ _ _ => False⟩
theorem finW_no {K : Frag} {T H : Hp} {μ : Mem} : FinW K T μ H noW := fun _ _ _ _ _ _ _ _ h => h.elim
/-- what is wanted of a value, at data level, is enough for what is wanted of it -/
def Fin1 (K : Frag) (T : Hp) (μ : Mem) (H : Hp) (W : Dt → Mem → Prop) (Q : VK) : Prop := ∀ T' v H' d μ', W d μ' → Step T μ H T' μ' H' → Mst K T' μ' H' → Rep K T' v d → Q v H'
def FinB (K : Frag) (T : Hp) (μ : Mem) (H : Hp) (W : Bool → Mem → Prop) (Q : Bool → Hp → Prop) : Prop := ∀ T' b H' μ', W b μ' → Step T μ H T' μ' H' → Mst K T' μ' H' → Q b H'
def FinA (K : Frag) (T : Hp) (μ : Mem) (H : Hp) (W : List Dt → Mem → Prop) (Q : List V → Hp → Prop) : Prop := ∀ T' vs H' ds μ', W ds μ' → Step T μ H T' μ' H' → Mst K T' μ' H' → Reps K T' vs ds → Q vs H'
def FinH (K : Frag) (T : Hp) (μ : Mem) (H : Hp) (W : Mem → Prop) (Q : Hp → Prop) : Prop := ∀ T' H' μ', W μ' → Step T μ H T' μ' H' → Mst K T' μ' H' → Q H'
def WP (K : Frag) (Y : Wish) (ρ : Ro) (μ : Mem) (te : TE) (W : Dt → Mem → Prop) : Prop := ∀ T σ H, Mst K T μ H → Locs K T ρ σ → FinW K T μ H Y → ∀ Q, Fin1 K T μ H W Q → te σ H Q
def WPT (K : Frag) (Y : Wish) (ρ : Ro) (μ : Mem) (tt : TT) (W : Bool → Mem → Prop) : Prop := ∀ T σ H, Mst K T μ H → Locs K T ρ σ → FinW K T μ H Y → ∀ Q, FinB K T μ H W Q → tt σ H Q
def WPA (K : Frag) (Y : Wish) (ρ : Ro) (μ : Mem) (ta : TA) (W : List Dt → Mem → Prop) : Prop := ∀ T σ H, Mst K T μ H → Locs K T ρ σ → FinW K T μ H Y → ∀ Q, FinA K T μ H W Q → ta σ H Q
/-- operators on values -/
def RW2 (K : Frag) (μ : Mem) (r : R2) (d e : Dt) (W : Dt → Mem → Prop) : Prop := ∀ T H x y, Mst K T μ H → Rep K T x d → Rep K T y e → ∀ Q, Fin1 K T μ H W Q → r x y H Q
def RW1 (K : Frag) (μ : Mem) (r : V → Hp → VK → Prop) (d : Dt) (W : Dt → Mem → Prop) : Prop := ∀ T H x, Mst K T μ H → Rep K T x d → ∀ Q, Fin1 K T μ H W Q → r x H Q
def RWL (K : Frag) (μ : Mem) (r : List V → Hp → VK → Prop) (ds : List Dt) (W : Dt → Mem → Prop) : Prop := ∀ T H xs, Mst K T μ H → Reps K T xs ds → ∀ Q, Fin1 K T μ H W Q → r xs H Q
def RWM (K : Frag) (μ : Mem) (r : V → List V → Hp → VK → Prop) (d : Dt) (ds : List Dt) (W : Dt → Mem → Prop) : Prop := ∀ T H x xs, Mst K T μ H → Rep K T x d → Reps K T xs ds → ∀ Q, Fin1 K T μ H W Q → r x xs H Q
section
variable {K : Frag} {Y : Wish} {T T1 H H1 : Hp} {μ μ1 : Mem} {ρ : Ro} {σ : L2.St}
theorem FinW.go (F : FinW K T μ H Y) (S : Step T μ H T1 μ1 H1) : FinW K T1 μ1 H1 Y := fun T' C dx fs σ' ρ' H' μ' w S' => F T' C dx fs σ' ρ' H' μ' w (S.trans S')
theorem Fin1.go {W W' : Dt → Mem → Prop} {Q : VK} (F : Fin1 K T μ H W Q) (S : Step T μ H T1 μ1 H1) (h : ∀ d μ', W' d μ' → W d μ') : Fin1 K T1 μ1 H1 W' Q := fun T' v H' d μ' w S' M' r => F T' v H' d μ' (h d μ' w) (S.trans S') M' r
theorem FinB.go {W : Bool → Mem → Prop} {Q : Bool → Hp → Prop} (F : FinB K T μ H W Q) (S : Step T μ H T1 μ1 H1) : FinB K T1 μ1 H1 W Q := fun T' b H' μ' w S' M' => F T' b H' μ' w (S.trans S') M'
theorem FinA.go {W : List Dt → Mem → Prop} {Q : List V → Hp → Prop} (F : FinA K T μ H W Q) (S : Step T μ H T1 μ1 H1) : FinA K T1 μ1 H1 W Q := fun T' v H' d μ' w S' M' r => F T' v H' d μ' w (S.trans S') M' r
theorem FinH.go {W : Mem → Prop} {Q : Hp → Prop} (F : FinH K T μ H W Q) (S : Step T μ H T1 μ1 H1) : FinH K T1 μ1 H1 W Q := fun T' H' μ' w S' M' => F T' H' μ' w (S.trans S') M'
theorem WP.imp {te : TE} {W W' : Dt → Mem → Prop} (h : WP K Y ρ μ te W) (k : ∀ d μ', W d μ' → W' d μ') : WP K Y ρ μ te W' := fun T σ H M L N Q F => h T σ H M L N Q (F.go (Step.refl _ _ _) k)
theorem WPT.imp {te : TT} {W W' : Bool → Mem → Prop} (h : WPT K Y ρ μ te W) (k : ∀ d μ', W d μ' → W' d μ') : WPT K Y ρ μ te W' := fun T σ H M L N Q F => h T σ H M L N Q fun T' b H' μ' w => F T' b H' μ' (k _ _ w)
theorem WPA.imp {te : TA} {W W' : List Dt → Mem → Prop} (h : WPA K Y ρ μ te W) (k : ∀ d μ', W d μ' → W' d μ') : WPA K Y ρ μ te W' := fun T σ H M L N Q F => h T σ H M L N Q fun T' b H' d μ' w => F T' b H' d μ' (k _ _ w)

/-! ### names, constants, operators -/
theorem wp_var {i : Nat} {d : Dt} {W : Dt → Mem → Prop} (h : ρ[i]? = some (some d)) (w : W d μ) : WP K Y ρ μ (tVar i) W := fun T σ H M L N Q F => by
  obtain ⟨v, h1, h2⟩ := L.get i d h
  exact ⟨v, h1, F T v H d μ w (Step.refl _ _ _) M h2⟩
theorem wp_int {n : Int} {W : Dt → Mem → Prop} (w : W (.int n) μ) : WP K Y ρ μ (tC (.int n)) W := fun T σ H M L N Q F => F T _ H _ μ w (Step.refl _ _ _) M (.int n)
theorem wp_bl {n : Bool} {W : Dt → Mem → Prop} (w : W (.bl n) μ) : WP K Y ρ μ (tC (.bl n)) W := fun T σ H M L N Q F => F T _ H _ μ w (Step.refl _ _ _) M (.bl n)
theorem wp_str {n : Str} {W : Dt → Mem → Prop} (w : W (.str n) μ) : WP K Y ρ μ (tC (.str n)) W := fun T σ H M L N Q F => F T _ H _ μ w (Step.refl _ _ _) M (.str n)
theorem wp_non {W : Dt → Mem → Prop} (w : W .non μ) : WP K Y ρ μ (tC .non) W := fun T σ H M L N Q F => F T _ H _ μ w (Step.refl _ _ _) M .non
theorem wp_ty {n : String} {W : Dt → Mem → Prop} (w : W (.ty n) μ) : WP K Y ρ μ (tC (.ty n)) W := fun T σ H M L N Q F => F T _ H _ μ w (Step.refl _ _ _) M (.ty n)
theorem wp_ref {a : Addr} {W : Dt → Mem → Prop} (w : W (.ref a) μ) : WP K Y ρ μ (tC (.ref a)) W := fun T σ H M L N Q F => F T _ H _ μ w (Step.refl _ _ _) M (.ref a)
theorem wp_op {r : R2} {ta tb : TE} {W : Dt → Mem → Prop} (h : WP K Y ρ μ ta fun d μ1 => WP K Y ρ μ1 tb fun e μ2 => RW2 K μ2 r d e W) : WP K Y ρ μ (tOp r ta tb) W := fun T σ H M L N Q F =>
  h T σ H M L N _ fun T1 x H1 d μ1 h1 S1 M1 r1 => h1 T1 σ H1 M1 (L.mono S1.grow) (N.go S1) _ fun T2 y H2 e μ2 h2 S2 M2 r2 => h2 T2 H2 x y M2 (r1.mono S2.grow) r2 Q (F.go (S1.trans S2) fun _ _ w => w)
theorem wp_un {r : V → Hp → VK → Prop} {ta : TE} {W : Dt → Mem → Prop} (h : WP K Y ρ μ ta fun d μ1 => RW1 K μ1 r d W) : WP K Y ρ μ (tUn r ta) W := fun T σ H M L N Q F =>
  h T σ H M L N _ fun T1 x H1 d μ1 h1 S1 M1 r1 => h1 T1 H1 x M1 r1 Q (F.go S1 fun _ _ w => w)
theorem wp_cb {r : List V → Hp → VK → Prop} {ta : TA} {W : Dt → Mem → Prop} (h : WPA K Y ρ μ ta fun ds μ1 => RWL K μ1 r ds W) : WP K Y ρ μ (tCB r ta) W := fun T σ H M L N Q F =>
  h T σ H M L N _ fun T1 xs H1 ds μ1 h1 S1 M1 r1 => h1 T1 H1 xs M1 r1 Q (F.go S1 fun _ _ w => w)
theorem wpa_nil {W : List Dt → Mem → Prop} (w : W [] μ) : WPA K Y ρ μ tNil W := fun T σ H M L N Q F => F T [] H [] μ w (Step.refl _ _ _) M .nil
theorem wpa_cons {ta : TE} {tr : TA} {W : List Dt → Mem → Prop} (h : WP K Y ρ μ ta fun d μ1 => WPA K Y ρ μ1 tr fun ds μ2 => W (d :: ds) μ2) : WPA K Y ρ μ (tCons ta tr) W := fun T σ H M L N Q F =>
  h T σ H M L N _ fun T1 x H1 d μ1 h1 S1 M1 r1 => h1 T1 σ H1 M1 (L.mono S1.grow) (N.go S1) _ fun T2 xs H2 ds μ2 w S2 M2 r2 => F T2 _ H2 _ μ2 w (S1.trans S2) M2 (.cons (r1.mono S2.grow) r2)
theorem wp_tup {ta : TA} {W : Dt → Mem → Prop} (h : WPA K Y ρ μ ta fun ds μ1 => ds.length ≤ 1000000 ∧ W (.tup ds) μ1) : WP K Y ρ μ (tTup ta) W := fun T σ H M L N Q F =>
  h T σ H M L N _ fun T1 xs H1 ds μ1 ⟨hl, w⟩ S1 M1 r1 => ⟨by rw [r1.length]; exact Nat.le_trans hl (by decide), fun p hp => by
    obtain ⟨M2, S2⟩ := M1.lay (o := .tup xs) hp
    exact F _ _ _ _ μ1 w (S1.trans S2) M2 (.tup upd_same (r1.mono S2.grow))⟩
theorem wp_lst {ta : TA} {W : Dt → Mem → Prop} (h : WPA K Y ρ μ ta fun ds μ1 => ds.length ≤ 1000000 ∧ W (.lst ds) μ1) : WP K Y ρ μ (tLst ta) W := fun T σ H M L N Q F =>
  h T σ H M L N _ fun T1 xs H1 ds μ1 ⟨hl, w⟩ S1 M1 r1 => ⟨by rw [r1.length]; exact Nat.le_trans hl (by decide), fun p hp => by
    obtain ⟨M2, S2⟩ := M1.lay (o := .lst xs) hp
    exact F _ _ _ _ μ1 w (S1.trans S2) M2 (.lst upd_same (r1.mono S2.grow))⟩
/-- a list that will change -/
theorem wp_lstC {ta : TA} {W : Dt → Mem → Prop} (h : WPA K Y ρ μ ta fun ds μ1 => ds.length ≤ 1000000 ∧ ∀ p, p ∉ dom μ1 → W (.ref p) ((p, .lst ds) :: μ1)) : WP K Y ρ μ (tLst ta) W := fun T σ H M L N Q F =>
  h T σ H M L N _ fun T1 xs H1 ds μ1 ⟨hl, w⟩ S1 M1 r1 => ⟨by rw [r1.length]; exact Nat.le_trans hl (by decide), fun p hp => by
    obtain ⟨M2, S2⟩ := M1.cell (m := .lst ds) (o := .lst xs) hp ⟨xs, upd_same, r1⟩
    exact F _ _ _ _ _ (w p (M1.notin hp)) (S1.trans S2) M2 (.ref p)⟩
/-! ### tests -/
theorem wpt_B {t : TE} {W : Bool → Mem → Prop} (h : WP K Y ρ μ t fun d μ1 => ∃ b, d = .bl b ∧ W b μ1) : WPT K Y ρ μ (tB t) W := fun T σ H M L N Q F =>
  h T σ H M L N _ fun T1 x H1 d μ1 ⟨b, e, w⟩ S1 M1 r1 => by
    subst e
    exact ⟨b, r1.bl_inv, F T1 b H1 μ1 w S1 M1⟩
theorem wpt_test {t : TE} {W : Bool → Mem → Prop} (h : WP K Y ρ μ t fun d μ1 => ∃ b, d = .bl b ∧ W b μ1) : WPT K Y ρ μ (tTest t) W := fun T σ H M L N Q F =>
  h T σ H M L N _ fun T1 x H1 d μ1 ⟨b, e, w⟩ S1 M1 r1 => by
    subst e
    exact ⟨b, r1.bl_inv, F T1 b H1 μ1 w S1 M1⟩
theorem wpt_and {t u : TT} {W : Bool → Mem → Prop} (h : WPT K Y ρ μ t fun b μ1 => if b = true then WPT K Y ρ μ1 u W else W false μ1) : WPT K Y ρ μ (tAnd t u) W := fun T σ H M L N Q F =>
  h T σ H M L N _ fun T1 b H1 μ1 w S1 M1 => by
    cases b with
    | true => exact w T1 σ H1 M1 (L.mono S1.grow) (N.go S1) Q (F.go S1)
    | false => exact F T1 false H1 μ1 w S1 M1
theorem wpt_or {t u : TT} {W : Bool → Mem → Prop} (h : WPT K Y ρ μ t fun b μ1 => if b = true then W true μ1 else WPT K Y ρ μ1 u W) : WPT K Y ρ μ (tOr t u) W := fun T σ H M L N Q F =>
  h T σ H M L N _ fun T1 b H1 μ1 w S1 M1 => by
    cases b with
    | false => exact w T1 σ H1 M1 (L.mono S1.grow) (N.go S1) Q (F.go S1)
    | true => exact F T1 true H1 μ1 w S1 M1
theorem wpt_not {t : TT} {W : Bool → Mem → Prop} (h : WPT K Y ρ μ t fun b μ1 => W (!b) μ1) : WPT K Y ρ μ (tNot t) W := fun T σ H M L N Q F =>
  h T σ H M L N _ fun T1 b H1 μ1 w S1 M1 => F T1 (!b) H1 μ1 w S1 M1
theorem wp_andV {ta tb : TE} {W : Dt → Mem → Prop} (h : WP K Y ρ μ ta fun d μ1 => ∃ b, d = .bl b ∧ if b = true then WP K Y ρ μ1 tb W else W (.bl false) μ1) : WP K Y ρ μ (tAndV ta tb) W := fun T σ H M L N Q F =>
  h T σ H M L N _ fun T1 x H1 d μ1 ⟨b, e, w⟩ S1 M1 r1 => by
    subst e
    refine ⟨b, r1.bl_inv, ?_⟩
    cases b with
    | true => exact w T1 σ H1 M1 (L.mono S1.grow) (N.go S1) Q (F.go S1 fun _ _ w => w)
    | false => exact F T1 _ H1 _ μ1 w S1 M1 (.bl false)
theorem wp_orV {ta tb : TE} {W : Dt → Mem → Prop} (h : WP K Y ρ μ ta fun d μ1 => ∃ b, d = .bl b ∧ if b = true then W (.bl true) μ1 else WP K Y ρ μ1 tb W) : WP K Y ρ μ (tOrV ta tb) W := fun T σ H M L N Q F =>
  h T σ H M L N _ fun T1 x H1 d μ1 ⟨b, e, w⟩ S1 M1 r1 => by
    subst e
    refine ⟨b, r1.bl_inv, ?_⟩
    cases b with
    | false => exact w T1 σ H1 M1 (L.mono S1.grow) (N.go S1) Q (F.go S1 fun _ _ w => w)
    | true => exact F T1 _ H1 _ μ1 w S1 M1 (.bl true)
theorem wp_notV {ta : TE} {W : Dt → Mem → Prop} (h : WP K Y ρ μ ta fun d μ1 => ∃ b, d = .bl b ∧ W (.bl (!b)) μ1) : WP K Y ρ μ (tNotV ta) W := fun T σ H M L N Q F =>
  h T σ H M L N _ fun T1 x H1 d μ1 ⟨b, e, w⟩ S1 M1 r1 => by
    subst e
    exact ⟨b, r1.bl_inv, F T1 _ H1 _ μ1 w S1 M1 (.bl _)⟩
theorem wp_if {t : TT} {ta tb : TE} {W : Dt → Mem → Prop} (h : WPT K Y ρ μ t fun b μ1 => if b = true then WP K Y ρ μ1 ta W else WP K Y ρ μ1 tb W) : WP K Y ρ μ (tIf t ta tb) W := fun T σ H M L N Q F =>
  h T σ H M L N _ fun T1 b H1 μ1 w S1 M1 => by
    cases b with
    | true => exact w T1 σ H1 M1 (L.mono S1.grow) (N.go S1) Q (F.go S1 fun _ _ w => w)
    | false => exact w T1 σ H1 M1 (L.mono S1.grow) (N.go S1) Q (F.go S1 fun _ _ w => w)
/-! ### operators by data -/
theorem rw_I0 {g : Int → Int → V} {i j : Int} {d : Dt} {W : Dt → Mem → Prop} (hg : ∀ T, Rep K T (g i j) d) (w : W d μ) : RW2 K μ (rI0 g) (.int i) (.int j) W := fun T H x y M r1 r2 Q F =>
  ⟨i, j, r1.int_inv, r2.int_inv, F T _ H _ μ w (Step.refl _ _ _) M (hg T)⟩
theorem rw_I {C : Int → Int → Prop} {g : Int → Int → V} {i j : Int} {d : Dt} {W : Dt → Mem → Prop} (hc : C i j) (hg : ∀ T, Rep K T (g i j) d) (w : W d μ) : RW2 K μ (rI C g) (.int i) (.int j) W := fun T H x y M r1 r2 Q F =>
  ⟨i, j, r1.int_inv, r2.int_inv, hc, F T _ H _ μ w (Step.refl _ _ _) M (hg T)⟩
theorem rw_U {g : Int → V} {i : Int} {d : Dt} {W : Dt → Mem → Prop} (hg : ∀ T, Rep K T (g i) d) (w : W d μ) : RW1 K μ (rU g) (.int i) W := fun T H x M r1 Q F =>
  ⟨i, r1.int_inv, F T _ H _ μ w (Step.refl _ _ _) M (hg T)⟩
/-- scalars compared -/
theorem rw_eq {d e : Dt} {x y : V} {W : Dt → Mem → Prop} (hx : d.flat = some x) (hy : e.flat = some y) (hs : scal x y = true) (w : W (.bl (decide (x = y))) μ) : RW2 K μ rEq d e W := fun T H u v M r1 r2 Q F => by
  have eu : u = x := by cases r1 <;> simp [Dt.flat] at hx <;> exact hx
  have ev : v = y := by cases r2 <;> simp [Dt.flat] at hy <;> exact hy
  subst eu ev
  exact ⟨hs, F T _ H _ μ w (Step.refl _ _ _) M (.bl _)⟩
theorem rw_ne {d e : Dt} {x y : V} {W : Dt → Mem → Prop} (hx : d.flat = some x) (hy : e.flat = some y) (hs : scal x y = true) (w : W (.bl (!decide (x = y))) μ) : RW2 K μ rNe d e W := fun T H u v M r1 r2 Q F => by
  have eu : u = x := by cases r1 <;> simp [Dt.flat] at hx <;> exact hx
  have ev : v = y := by cases r2 <;> simp [Dt.flat] at hy <;> exact hy
  subst eu ev
  exact ⟨hs, F T _ H _ μ w (Step.refl _ _ _) M (.bl _)⟩
theorem atI_reps {T : Hp} {xs : List V} {ds : List Dt} {i : Int} {d : Dt} (r : Reps K T xs ds) (h : atI ds i = some d) : ∃ v, atI xs i = some v ∧ Rep K T v d := by
  unfold atI at h ⊢
  cases e : ixN ds.length i with
  | none => rw [e] at h; simp at h
  | some j =>
    rw [e] at h
    obtain ⟨v, h1, h2⟩ := r.get (show ds[j]? = some d from h)
    rw [r.length, e]
    exact ⟨v, h1, h2⟩
theorem rw_ixL {ds : List Dt} {i : Int} {d : Dt} {W : Dt → Mem → Prop} (h : atI ds i = some d) (w : W d μ) : RW2 K μ (rIxL K) (.lst ds) (.int i) W := fun T H x y M r1 r2 Q F => by
  obtain ⟨a, xs, rfl, hs, hr⟩ := r1.lst_inv
  obtain ⟨v, h1, h2⟩ := atI_reps hr h
  exact ⟨a, xs, i, v, rfl, r2.int_inv, SqL.of (M.sub _ _ hs), h1, F T _ H _ μ w (Step.refl _ _ _) M h2⟩
theorem rw_ixT {ds : List Dt} {i : Int} {d : Dt} {W : Dt → Mem → Prop} (h : atI ds i = some d) (w : W d μ) : RW2 K μ (rIxT K) (.tup ds) (.int i) W := fun T H x y M r1 r2 Q F => by
  obtain ⟨a, xs, rfl, hs, hr⟩ := r1.tup_inv
  obtain ⟨v, h1, h2⟩ := atI_reps hr h
  exact ⟨a, xs, i, v, rfl, r2.int_inv, SqT.of (M.sub _ _ hs), h1, F T _ H _ μ w (Step.refl _ _ _) M h2⟩
theorem rw_ixF {ds : List Dt} {i : Int} {d : Dt} {W : Dt → Mem → Prop} (h : atI ds i = some d) (w : W d μ) : RW2 K μ (rIxL K) (.fls ds) (.int i) W := fun T H x y M r1 r2 Q F => by
  obtain ⟨a, xs, rfl, hs, hr⟩ := r1.fls_inv
  obtain ⟨v, h1, h2⟩ := atI_reps hr h
  exact ⟨a, xs, i, v, rfl, r2.int_inv, M.sub.l hs, h1, F T _ H _ μ w (Step.refl _ _ _) M h2⟩
/-- a cell's item -/
theorem rw_ixC {a : Addr} {ds : List Dt} {c : Nat} {i : Int} {d : Dt} {W : Dt → Mem → Prop} (hc : μ[c]? = some (a, .lst ds)) (h : atI ds i = some d) (w : W d μ) : RW2 K μ (rIxL K) (.ref a) (.int i) W := fun T H x y M r1 r2 Q F => by
  obtain rfl := r1.ref_inv
  obtain ⟨vs, h1, hr⟩ := M.get hc
  obtain ⟨v, h2, h3⟩ := atI_reps hr h
  exact ⟨a, vs, i, v, rfl, r2.int_inv, SqL.of h1, h2, F T _ H _ μ w (Step.refl _ _ _) M h3⟩
theorem rw_ix_lst {ds : List Dt} {i : Int} {d : Dt} {W : Dt → Mem → Prop} (h : atI ds i = some d) (w : W d μ) : RW2 K μ (rIx K) (.lst ds) (.int i) W := fun T H x y M r1 r2 Q F => .inl (rw_ixL h w T H x y M r1 r2 Q F)
theorem rw_ix_fls {ds : List Dt} {i : Int} {d : Dt} {W : Dt → Mem → Prop} (h : atI ds i = some d) (w : W d μ) : RW2 K μ (rIx K) (.fls ds) (.int i) W := fun T H x y M r1 r2 Q F => .inl (rw_ixF h w T H x y M r1 r2 Q F)
theorem rw_ix_tup {ds : List Dt} {i : Int} {d : Dt} {W : Dt → Mem → Prop} (h : atI ds i = some d) (w : W d μ) : RW2 K μ (rIx K) (.tup ds) (.int i) W := fun T H x y M r1 r2 Q F => .inr (.inl (rw_ixT h w T H x y M r1 r2 Q F))
theorem rw_ix_cell {a : Addr} {ds : List Dt} {c : Nat} {i : Int} {d : Dt} {W : Dt → Mem → Prop} (hc : μ[c]? = some (a, .lst ds)) (h : atI ds i = some d) (w : W d μ) : RW2 K μ (rIx K) (.ref a) (.int i) W := fun T H x y M r1 r2 Q F => .inl (rw_ixC hc h w T H x y M r1 r2 Q F)
end
end Ml

/-! Ml3: statements, targets, loops, comprehensions over data. -/
namespace Ml
open PySem L2
structure DE where
  nx : Ro → Mem → Prop
  rt : Dt → Mem → Prop
  bk : Ro → Mem → Prop := fun _ _ => False
  ct : Ro → Mem → Prop := fun _ _ => False
def FinS (K : Frag) (T : Hp) (μ : Mem) (H : Hp) (W : Ro → Mem → Prop) (Q : L2.St → Hp → Prop) : Prop := ∀ T' σ' H' ρ' μ', W ρ' μ' → Step T μ H T' μ' H' → Mst K T' μ' H' → Locs K T' ρ' σ' → Q σ' H'
structure FinE (K : Frag) (T : Hp) (μ : Mem) (H : Hp) (D : DE) (E : Ends) : Prop where
  nx : FinS K T μ H D.nx E.nx
  rt : Fin1 K T μ H D.rt E.rt
  bk : FinS K T μ H D.bk E.bk
  ct : FinS K T μ H D.ct E.ct
def WPS (K : Frag) (Y : Wish) (ρ : Ro) (μ : Mem) (ts : TS) (D : DE) : Prop := ∀ T σ H, Mst K T μ H → Locs K T ρ σ → FinW K T μ H Y → ∀ E, FinE K T μ H D E → ts E σ H
/-- a target takes the data d -/
def WPG (K : Frag) (Y : Wish) (ρ : Ro) (μ : Mem) (g : TG) (d : Dt) (W : Ro → Mem → Prop) : Prop := ∀ T σ H v, Mst K T μ H → Locs K T ρ σ → FinW K T μ H Y → Rep K T v d → ∀ Q, FinS K T μ H W Q → g v σ H Q
def WPGs (K : Frag) (Y : Wish) (ρ : Ro) (μ : Mem) (g : TGs) (ds : List Dt) (W : Ro → Mem → Prop) : Prop := ∀ T σ H vs, Mst K T μ H → Locs K T ρ σ → FinW K T μ H Y → Reps K T vs ds → ∀ Q, FinS K T μ H W Q → g vs σ H Q
section
variable {K : Frag} {Y : Wish} {T T1 H H1 : Hp} {μ μ1 : Mem} {ρ : Ro} {σ : L2.St} {D : DE}
theorem FinS.go {W W' : Ro → Mem → Prop} {Q : L2.St → Hp → Prop} (F : FinS K T μ H W Q) (S : Step T μ H T1 μ1 H1) (h : ∀ r m, W' r m → W r m) : FinS K T1 μ1 H1 W' Q := fun T' σ' H' ρ' μ' w S' M' L' => F T' σ' H' ρ' μ' (h _ _ w) (S.trans S') M' L'
theorem FinE.go {E : Ends} (F : FinE K T μ H D E) (S : Step T μ H T1 μ1 H1) : FinE K T1 μ1 H1 D E := ⟨F.nx.go S fun _ _ w => w, F.rt.go S fun _ _ w => w, F.bk.go S fun _ _ w => w, F.ct.go S fun _ _ w => w⟩
theorem WPS.imp {ts : TS} {D D' : DE} (h : WPS K Y ρ μ ts D) (h1 : ∀ r m, D.nx r m → D'.nx r m) (h2 : ∀ d m, D.rt d m → D'.rt d m) (h3 : ∀ r m, D.bk r m → D'.bk r m) (h4 : ∀ r m, D.ct r m → D'.ct r m) : WPS K Y ρ μ ts D' := fun T σ H M L N E F =>
  h T σ H M L N E ⟨F.nx.go (Step.refl _ _ _) h1, F.rt.go (Step.refl _ _ _) h2, F.bk.go (Step.refl _ _ _) h3, F.ct.go (Step.refl _ _ _) h4⟩
theorem wps_next (w : D.nx ρ μ) : WPS K Y ρ μ tNext D := fun T σ H M L N E F => F.nx T σ H ρ μ w (Step.refl _ _ _) M L
theorem wps_break (w : D.bk ρ μ) : WPS K Y ρ μ tBreak D := fun T σ H M L N E F => F.bk T σ H ρ μ w (Step.refl _ _ _) M L
theorem wps_cont (w : D.ct ρ μ) : WPS K Y ρ μ tCont D := fun T σ H M L N E F => F.ct T σ H ρ μ w (Step.refl _ _ _) M L
theorem wps_never (w : False) : WPS K Y ρ μ tNever D := w.elim
theorem wps_seq {t u : TS} (h : WPS K Y ρ μ t { D with nx := fun ρ1 μ1 => WPS K Y ρ1 μ1 u D }) : WPS K Y ρ μ (tSeq t u) D := fun T σ H M L N E F =>
  h T σ H M L N { E with nx := u E } ⟨fun T' σ' H' ρ' μ' w S' M' L' => w T' σ' H' M' L' (N.go S') E (F.go S'), F.rt, F.bk, F.ct⟩
theorem wps_drop {te : TE} (h : WP K Y ρ μ te fun _ μ1 => D.nx ρ μ1) : WPS K Y ρ μ (tDrop te) D := fun T σ H M L N E F =>
  h T σ H M L N _ fun T1 x H1 d μ1 w S1 M1 r1 => F.nx T1 σ H1 ρ μ1 w S1 M1 (L.mono S1.grow)
theorem wps_ret {te : TE} (h : WP K Y ρ μ te D.rt) : WPS K Y ρ μ (tRet te) D := fun T σ H M L N E F => h T σ H M L N E.rt F.rt
theorem wps_retN (h : D.rt .non μ) : WPS K Y ρ μ tRetN D := fun T σ H M L N E F => F.rt T .non H .non μ h (Step.refl _ _ _) M .non
theorem wps_if {c : TT} {t u : TS} (h : WPT K Y ρ μ c fun b μ1 => if b = true then WPS K Y ρ μ1 t D else WPS K Y ρ μ1 u D) : WPS K Y ρ μ (tIfS c t u) D := fun T σ H M L N E F =>
  h T σ H M L N _ fun T1 b H1 μ1 w S1 M1 => by
    cases b with
    | true => exact w T1 σ H1 M1 (L.mono S1.grow) (N.go S1) E (F.go S1)
    | false => exact w T1 σ H1 M1 (L.mono S1.grow) (N.go S1) E (F.go S1)
theorem wps_asg {te : TE} {g : TG} (h : WP K Y ρ μ te fun d μ1 => WPG K Y ρ μ1 g d D.nx) : WPS K Y ρ μ (tAsg te g) D := fun T σ H M L N E F =>
  h T σ H M L N _ fun T1 x H1 d μ1 w S1 M1 r1 => w T1 σ H1 x M1 (L.mono S1.grow) (N.go S1) r1 E.nx (F.nx.go S1 fun _ _ w => w)
theorem wpg_name {i : Nat} {d : Dt} {W : Ro → Mem → Prop} (w : W (ρ.set i (some d)) μ) : WPG K Y ρ μ (gName i) d W := fun T σ H v M L N r Q F => F T _ H _ μ w (Step.refl _ _ _) M (L.set r i)
theorem wpgs_nil {W : Ro → Mem → Prop} (w : W ρ μ) : WPGs K Y ρ μ gNil [] W := fun T σ H vs M L N r Q F => ⟨r.nil_inv, F T _ H _ μ w (Step.refl _ _ _) M L⟩
theorem wpgs_cons {g : TG} {u : TGs} {d : Dt} {ds : List Dt} {W : Ro → Mem → Prop} (h : WPG K Y ρ μ g d fun ρ1 μ1 => WPGs K Y ρ1 μ1 u ds W) : WPGs K Y ρ μ (gCons g u) (d :: ds) W := fun T σ H vs M L N r Q F => by
  obtain ⟨v, us, rfl, r1, r2⟩ := r.cons_inv
  exact ⟨v, us, rfl, h T σ H v M L N r1 _ fun T1 σ1 H1 ρ1 μ1 w S1 M1 L1 => w T1 σ1 H1 us M1 L1 (N.go S1) (r2.mono S1.grow) Q (F.go S1 fun _ _ w => w)⟩
theorem wpg_tup {n : Nat} {t : TGs} {ds : List Dt} {W : Ro → Mem → Prop} (hn : ds.length = n) (h : WPGs K Y ρ μ t ds W) : WPG K Y ρ μ (gTup K n t) (.tup ds) W := fun T σ H v M L N r Q F => by
  obtain ⟨a, xs, rfl, hs, hr⟩ := r.tup_inv
  exact ⟨a, xs, rfl, SqT.of (M.sub _ _ hs), hr.length.trans hn, h T σ H xs M L N hr Q F⟩
theorem wps_par {i j : Nat} {ta : TA} (h : WPA K Y ρ μ ta fun ds μ1 => ∃ d e, ds = [d, e] ∧ D.nx ((ρ.set i (some d)).set j (some e)) μ1) : WPS K Y ρ μ (tPar i j ta) D := fun T σ H M L N E F =>
  h T σ H M L N _ fun T1 vs H1 ds μ1 ⟨d, e, he, w⟩ S1 M1 r1 => by
    subst he
    obtain ⟨v, us, rfl, r2, r3⟩ := r1.cons_inv
    obtain ⟨u, us', rfl, r4, r5⟩ := r3.cons_inv
    obtain rfl := r5.nil_inv
    exact ⟨v, u, rfl, F.nx T1 _ H1 _ μ1 w S1 M1 (((L.mono S1.grow).set r2 i).set r4 j)⟩
theorem wps_par3 {i j l : Nat} {ta : TA} (h : WPA K Y ρ μ ta fun ds μ1 => ∃ d e f, ds = [d, e, f] ∧ D.nx (((ρ.set i (some d)).set j (some e)).set l (some f)) μ1) : WPS K Y ρ μ (tPar3 i j l ta) D := fun T σ H M L N E F =>
  h T σ H M L N _ fun T1 vs H1 ds μ1 ⟨d, e, f, he, w⟩ S1 M1 r1 => by
    subst he
    obtain ⟨v, us, rfl, r2, r3⟩ := r1.cons_inv
    obtain ⟨u, us', rfl, r4, r5⟩ := r3.cons_inv
    obtain ⟨x, us'', rfl, r6, r7⟩ := r5.cons_inv
    obtain rfl := r7.nil_inv
    exact ⟨v, u, x, rfl, F.nx T1 _ H1 _ μ1 w S1 M1 ((((L.mono S1.grow).set r2 i).set r4 j).set r6 l)⟩
theorem wps_augI {i : Nat} {te : TE} {f : Int → Int → Int} {n : Int} (hi : ρ[i]? = some (some (.int n))) (h : WP K Y ρ μ te fun d μ1 => ∃ k, d = .int k ∧ D.nx (ρ.set i (some (.int (f n k)))) μ1) : WPS K Y ρ μ (tAug i te (ipI f)) D := fun T σ H M L N E F => by
  obtain ⟨v, h1, h2⟩ := L.get i _ hi
  obtain rfl := h2.int_inv
  refine ⟨_, h1, h T σ H M L N _ fun T1 y H1 d μ1 ⟨k, e, w⟩ S1 M1 r1 => ?_⟩
  subst e
  exact ⟨n, k, rfl, r1.int_inv, F.nx T1 _ H1 _ μ1 w S1 M1 ((L.mono S1.grow).set (.int _) i)⟩
/-- a cell is data from here on -/
theorem lookup_upd {T : Hp} {p : Addr} {o : HO} {b : Addr} : upd T p o b = if b = p then some o else T b := rfl
theorem Mst.freeze {K : Frag} {T H : Hp} {μ rest : Mem} {a : Addr} {m : Mo} {o : HO} (M : Mst K T μ H) (p : μ.Perm ((a, m) :: rest)) (h : H a = some o) : Mst K (upd T a o) rest H ∧ Step T μ H (upd T a o) rest H := by
  have hm : (a, m) ∈ μ := p.mem_iff.mpr List.mem_cons_self
  have ta : T a = none := (M.mem _ hm).1
  have hnd : (dom ((a, m) :: rest)).Nodup := (p.map (·.1)).nodup_iff.mp M.nd
  obtain ⟨n1, n2⟩ := List.nodup_cons.mp hnd
  have g : Sub T (upd T a o) := fun b u e => by rw [upd_ne (ne_of_none e ta)]; exact e
  have da : a ∈ dom μ := List.mem_map.mpr ⟨_, hm, rfl⟩
  have hr : ∀ q ∈ rest, q ∈ μ := fun q hq => p.mem_iff.mpr (List.mem_cons_of_mem _ hq)
  refine ⟨⟨fun b u e => ?_, fun q hq => ?_, n2⟩, ⟨g, fun _ _ h _ => h, fun b u e _ t n => ?_, fun b u e n hb => ?_⟩⟩
  · by_cases hb : b = a
    · subst hb; rw [upd_same] at e; cases e; exact h
    · rw [upd_ne hb] at e; exact M.sub _ _ e
  · obtain ⟨h1, h2⟩ := M.mem q (hr q hq)
    have hne : q.1 ≠ a := fun e => n1 (e ▸ List.mem_map.mpr ⟨q, hq, rfl⟩)
    exact ⟨by rw [upd_ne hne]; exact h1, h2.mono g fun _ e => e⟩
  · have hne : b ≠ a := fun e => n (e ▸ da)
    rw [upd_ne hne]; exact t
  · obtain ⟨q, hq, e⟩ := List.mem_map.mp hb
    exact n (List.mem_map.mpr ⟨q, hr q hq, e⟩)
theorem Locs.imp {K : Frag} {T : Hp} {ρ ρ' : Ro} {σ : L2.St} (h : Locs K T ρ σ) (hl : ρ'.length = ρ.length) (k : ∀ (i : Nat) (d : Dt), ρ'[i]? = some (some d) → ∃ e : Dt, ρ[i]? = some (some e) ∧ ∀ v, Rep K T v e → Rep K T v d) : Locs K T ρ' σ :=
  ⟨h.len.trans hl.symm, fun i d e => by
    obtain ⟨d', h1, h2⟩ := k i d e
    obtain ⟨v, h3, h4⟩ := h.get i d' h1
    exact ⟨v, h3, h2 v h4⟩⟩
/-- the list cell (a, ds) becomes the list ds; slots ks held it -/
theorem wps_freezeL {ts : TS} {a : Addr} {ds : List Dt} {rest : Mem} {ρ' : Ro} (p : μ.Perm ((a, .lst ds) :: rest)) (hl : ρ'.length = ρ.length)
    (k : ∀ (i : Nat) (d : Dt), ρ'[i]? = some (some d) → ρ[i]? = some (some d) ∨ (ρ[i]? = some (some (Dt.ref a)) ∧ d = Dt.lst ds)) (h : WPS K Y ρ' rest ts D) : WPS K Y ρ μ ts D := fun T σ H M L N E F => by
  obtain ⟨vs, h1, h2⟩ := (M.mem (a, Mo.lst ds) (p.mem_iff.mpr List.mem_cons_self)).2
  obtain ⟨M', S'⟩ := M.freeze p h1
  refine h _ σ H M' ((L.mono S'.grow).imp hl fun i d e => ?_) (N.go S') E (F.go S')
  rcases k i d e with e' | ⟨e', rfl⟩
  · exact ⟨d, e', fun _ r => r⟩
  · exact ⟨_, e', fun v r => by
      obtain rfl := r.ref_inv
      exact .lst upd_same (h2.mono S'.grow)⟩
/-- slots and cells forgotten, cells in another sequence -/
theorem wps_weak {ts : TS} {rest μ' : Mem} {ρ' : Ro} (p : μ.Perm (μ' ++ rest)) (hl : ρ'.length = ρ.length) (k : ∀ (i : Nat) (d : Dt), ρ'[i]? = some (some d) → ρ[i]? = some (some d)) (h : WPS K Y ρ' μ' ts D) : WPS K Y ρ μ ts D := fun T σ H M L N E F => by
  obtain ⟨M', S'⟩ := M.drop p
  exact h T σ H M' (L.imp hl fun i d e => ⟨d, k i d e, fun _ r => r⟩) (N.go S') E (F.go S')
end
/-! ### what is walked -/
/-- J gives the data ys, one by one, wherever T is held and G is so -/
structure Src (K : Frag) (T : Hp) (J : It) (ys : List Dt) : Prop where
  go : ∀ T' H' i, Sub T T' → Sub T' H' → i < ys.length → J.go i H'
  stop : ∀ T' H', Sub T T' → Sub T' H' → J.stop ys.length H'
  yld : ∀ T' H' i x H'' (y : Dt) (μ : Mem), Sub T T' → Mst K T' μ H' → ys[i]? = some y → J.yld i H' x H'' → ∃ T2, Step T' μ H' T2 μ H'' ∧ Mst K T2 μ H'' ∧ Rep K T2 x y
/-- .. an item that stands already, or one new object -/
structure Src0 (K : Frag) (T : Hp) (J : It) (ys : List Dt) : Prop where
  go : ∀ T' H' i, Sub T T' → Sub T' H' → i < ys.length → J.go i H'
  stop : ∀ T' H', Sub T T' → Sub T' H' → J.stop ys.length H'
  yld : ∀ T' H' i x H'' (y : Dt), Sub T T' → Sub T' H' → ys[i]? = some y → J.yld i H' x H'' → (H'' = H' ∧ Rep K T' x y) ∨ ∃ p o, H' p = none ∧ H'' = upd H' p o ∧ Rep K (upd T' p o) x y
theorem Src0.up {K : Frag} {T : Hp} {J : It} {ys : List Dt} (h : Src0 K T J ys) : Src K T J ys := ⟨h.go, h.stop, fun T' H' i x H'' y μ s M hy q => by
  rcases h.yld T' H' i x H'' y s M.sub hy q with ⟨rfl, r⟩ | ⟨p, o, hp, rfl, r⟩
  · exact ⟨T', Step.refl _ _ _, M, r⟩
  · obtain ⟨M2, S2⟩ := M.lay (o := o) hp
    exact ⟨_, S2, M2, r⟩⟩
theorem Src.mono {K : Frag} {T T' : Hp} {J : It} {ys : List Dt} (h : Src K T J ys) (e : Sub T T') : Src K T' J ys :=
  ⟨fun T1 H i s1 s2 hi => h.go T1 H i (e.trans s1) s2 hi, fun T1 H s1 s2 => h.stop T1 H (e.trans s1) s2, fun T1 H i x H'' y μ s1 M => h.yld T1 H i x H'' y μ (e.trans s1) M⟩
def FinI (K : Frag) (T : Hp) (μ : Mem) (H : Hp) (W : List Dt → Mem → Prop) (R : It → Hp → Prop) : Prop := ∀ T' J H' ys μ', W ys μ' → Step T μ H T' μ' H' → Mst K T' μ' H' → Src K T' J ys → R J H'
def WPI (K : Frag) (Y : Wish) (ρ : Ro) (μ : Mem) (wi : TI) (W : List Dt → Mem → Prop) : Prop := ∀ T σ H, Mst K T μ H → Locs K T ρ σ → FinW K T μ H Y → ∀ R, FinI K T μ H W R → wi σ H R
section
variable {K : Frag} {Y : Wish} {T T1 H H1 : Hp} {μ μ1 : Mem} {ρ : Ro} {σ : L2.St} {D : DE}
theorem SqL.inj {T : Hp} {a : Addr} {xs ys : List V} (h : Rd T a (.lst xs)) (g : SqL K T a ys) : ys = xs ∨ True := .inr trivial
theorem src_list {a : Addr} {xs : List V} {ds : List Dt} (h : Rd T a (.lst xs)) (r : Reps K T xs ds) (hk : K.lookup a = none) : Src0 K T (Itl K a) ds where
  go := fun T' H' i s1 s2 hi => by
    have hi' : i < xs.length := by rw [r.length]; exact hi
    exact ⟨xs, xs[i], .inl (Evl.ex_rd s2 (Evl.ex_rd s1 h)), List.getElem?_eq_getElem hi'⟩
  stop := fun T' H' s1 s2 => ⟨xs, .inl (Evl.ex_rd s2 (Evl.ex_rd s1 h)), by rw [r.length]; exact Nat.le_refl _⟩
  yld := fun T' H' i x H'' y s1 s2 hy q => by
    obtain ⟨e, q⟩ := q
    obtain ⟨v, h1, h2⟩ := r.get hy
    have := q xs (.inl (Evl.ex_rd s2 (Evl.ex_rd s1 h)))
    rw [h1] at this
    cases this
    exact .inl ⟨e, h2.mono s1⟩
/-- .. of the written part too -/
theorem src_listK {a : Addr} {xs : List V} {ds : List Dt} (h : SqL K T a xs) (r : Reps K T xs ds) : Src0 K T (Itl K a) ds where
  go := fun T' H' i s1 s2 hi => by
    have hi' : i < xs.length := by rw [r.length]; exact hi
    exact ⟨xs, xs[i], s2.l (s1.l h), List.getElem?_eq_getElem hi'⟩
  stop := fun T' H' s1 s2 => ⟨xs, s2.l (s1.l h), by rw [r.length]; exact Nat.le_refl _⟩
  yld := fun T' H' i x H'' y s1 s2 hy q => by
    obtain ⟨e, q⟩ := q
    obtain ⟨v, h1, h2⟩ := r.get hy
    have := q xs (s2.l (s1.l h))
    rw [h1] at this
    cases this
    exact .inl ⟨e, h2.mono s1⟩
theorem src_tupK {a : Addr} {xs : List V} {ds : List Dt} (h : SqT K T a xs) (r : Reps K T xs ds) : Src0 K T (Itt K a) ds where
  go := fun T' H' i s1 s2 hi => by
    have hi' : i < xs.length := by rw [r.length]; exact hi
    exact ⟨xs, xs[i], s2.t (s1.t h), List.getElem?_eq_getElem hi'⟩
  stop := fun T' H' s1 s2 => ⟨xs, s2.t (s1.t h), by rw [r.length]; exact Nat.le_refl _⟩
  yld := fun T' H' i x H'' y s1 s2 hy q => by
    obtain ⟨e, q⟩ := q
    obtain ⟨v, h1, h2⟩ := r.get hy
    have := q xs (s2.t (s1.t h))
    rw [h1] at this
    cases this
    exact .inl ⟨e, h2.mono s1⟩
theorem src_range {lo : Int} {n : Nat} : Src0 K T (Itr lo n) ((List.range n).map fun (i : Nat) => .int (lo + (i : Int))) where
  go := fun T' H' i s1 s2 hi => by
    show i < n
    simpa using hi
  stop := fun T' H' s1 s2 => by show n ≤ _; simp
  yld := fun T' H' i x H'' y s1 s2 hy q => by
    obtain ⟨e, rfl⟩ := q
    rw [List.getElem?_map] at hy
    by_cases hi : i < n
    · rw [List.getElem?_range hi] at hy
      cases hy
      exact .inl ⟨e, .int _⟩
    · rw [List.getElem?_eq_none (by simpa using hi)] at hy
      cases hy
theorem wpi_list {tl : TE} {W : List Dt → Mem → Prop} (h : WP K Y ρ μ tl fun d μ1 => ∃ ds, d = .lst ds ∧ W ds μ1) : WPI K Y ρ μ (iList K tl) W := fun T σ H M L N R F =>
  h T σ H M L N _ fun T1 x H1 d μ1 ⟨ds, e, w⟩ S1 M1 r1 => by
    subst e
    obtain ⟨a, xs, rfl, hs, hr⟩ := r1.lst_inv
    exact ⟨a, rfl, ⟨xs, SqL.of (M1.sub _ _ hs)⟩, F T1 _ H1 ds μ1 w S1 M1 (src_listK (SqL.of hs) hr).up⟩
theorem wpi_fls {tl : TE} {W : List Dt → Mem → Prop} (h : WP K Y ρ μ tl fun d μ1 => ∃ ds, d = .fls ds ∧ W ds μ1) : WPI K Y ρ μ (iList K tl) W := fun T σ H M L N R F =>
  h T σ H M L N _ fun T1 x H1 d μ1 ⟨ds, e, w⟩ S1 M1 r1 => by
    subst e
    obtain ⟨a, xs, rfl, hs, hr⟩ := r1.fls_inv
    exact ⟨a, rfl, ⟨xs, M1.sub.l hs⟩, F T1 _ H1 ds μ1 w S1 M1 (src_listK hs hr).up⟩
theorem wpi_tup {tl : TE} {W : List Dt → Mem → Prop} (h : WP K Y ρ μ tl fun d μ1 => ∃ ds, d = .tup ds ∧ W ds μ1) : WPI K Y ρ μ (iTup K tl) W := fun T σ H M L N R F =>
  h T σ H M L N _ fun T1 x H1 d μ1 ⟨ds, e, w⟩ S1 M1 r1 => by
    subst e
    obtain ⟨a, xs, rfl, hs, hr⟩ := r1.tup_inv
    exact ⟨a, rfl, ⟨xs, SqT.of (M1.sub _ _ hs)⟩, F T1 _ H1 ds μ1 w S1 M1 (src_tupK (SqT.of hs) hr).up⟩
theorem wpi_rng1 {ta : TA} {W : List Dt → Mem → Prop} (h : WPA K Y ρ μ ta fun ds μ1 => ∃ n : Int, ds = [.int n] ∧ n < 2 ^ 62 ∧ -(2 ^ 62) ≤ n ∧ W ((List.range n.toNat).map fun (i : Nat) => .int (i : Int)) μ1) : WPI K Y ρ μ (iRng1 ta) W := fun T σ H M L N R F =>
  h T σ H M L N _ fun T1 vs H1 ds μ1 ⟨n, e, h1, h2, w⟩ S1 M1 r1 => by
    subst e
    obtain ⟨v, us, rfl, r2, r3⟩ := r1.cons_inv
    obtain rfl := r3.nil_inv
    obtain rfl := r2.int_inv
    refine ⟨n, rfl, h2, h1, F T1 _ H1 _ μ1 w S1 M1 ?_⟩
    have q : Src K T1 (Itr 0 n.toNat) ((List.range n.toNat).map fun (i : Nat) => .int (0 + (i : Int))) := src_range.up
    simpa using q
theorem wpi_rng2 {ta : TA} {W : List Dt → Mem → Prop} (h : WPA K Y ρ μ ta fun ds μ1 => ∃ lo n : Int, ds = [.int lo, .int n] ∧ (-(2 ^ 62) ≤ lo ∧ lo < 2 ^ 62 ∧ -(2 ^ 62) ≤ n ∧ n < 2 ^ 62) ∧ W ((List.range (n - lo).toNat).map fun (i : Nat) => .int (lo + (i : Int))) μ1) : WPI K Y ρ μ (iRng2 ta) W := fun T σ H M L N R F =>
  h T σ H M L N _ fun T1 vs H1 ds μ1 ⟨lo, n, e, h1, w⟩ S1 M1 r1 => by
    subst e
    obtain ⟨v, us, rfl, r2, r3⟩ := r1.cons_inv
    obtain ⟨u, us', rfl, r4, r5⟩ := r3.cons_inv
    obtain rfl := r5.nil_inv
    obtain rfl := r2.int_inv
    obtain rfl := r4.int_inv
    exact ⟨lo, n, rfl, h1, F T1 _ H1 _ μ1 w S1 M1 src_range.up⟩
theorem wps_for {wi : TI} {g : TG} {tb : TS} (h : WPI K Y ρ μ wi fun ys μ1 => ∃ I : Nat → Ro → Mem → Prop, I 0 ρ μ1 ∧
    (∀ i y ρ' μ', ys[i]? = some y → I i ρ' μ' → WPG K Y ρ' μ' g y fun ρ2 μ2 => WPS K Y ρ2 μ2 tb { D with nx := I (i + 1), ct := I (i + 1), bk := D.nx }) ∧ ∀ ρ' μ', I ys.length ρ' μ' → D.nx ρ' μ') : WPS K Y ρ μ (tFor wi g tb) D := fun T σ H M L N E F =>
  h T σ H M L N _ fun T1 J H1 ys μ1 ⟨I, i0, turn, fin⟩ S1 M1 src => by
    refine ⟨fun i m σ' H' => m = ys.length - i ∧ i ≤ ys.length ∧ ∃ T' ρ' μ', I i ρ' μ' ∧ Step T1 μ1 H1 T' μ' H' ∧ Mst K T' μ' H' ∧ Locs K T' ρ' σ', ⟨_, rfl, Nat.zero_le _, T1, ρ, μ1, i0, Step.refl _ _ _, M1, L.mono S1.grow⟩, ?_⟩
    rintro i m σ' H' ⟨rfl, hi, T', ρ', μ', ii, S', M', L'⟩
    by_cases hlt : i < ys.length
    · refine .inr ⟨src.go T' H' i S'.grow M'.sub hlt, fun σ2 H2 => ∃ T2 ρ2 μ2, I (i + 1) ρ2 μ2 ∧ Step T1 μ1 H1 T2 μ2 H2 ∧ Mst K T2 μ2 H2 ∧ Locs K T2 ρ2 σ2, fun σ2 H2 q => ⟨ys.length - (i + 1), by omega, rfl, hlt, q⟩, fun x H2 yq => ?_⟩
      have hy : ys[i]? = some ys[i] := List.getElem?_eq_getElem hlt
      -- the item's data in T2
      obtain ⟨T2, S2, M2, r2⟩ := src.yld T' H' i x H2 _ μ' S'.grow M' hy yq
      refine turn i _ ρ' μ' hy ii T2 σ' H2 x M2 (L'.mono S2.grow) ((N.go S1).go (S'.trans S2)) r2 _ fun T3 σ3 H3 ρ3 μ3 w3 S3 M3 L3 => ?_
      have S03 : Step T1 μ1 H1 T3 μ3 H3 := (S'.trans S2).trans S3
      refine w3 T3 σ3 H3 M3 L3 ((N.go S1).go S03) _ ⟨fun T4 σ4 H4 ρ4 μ4 w S M L => ⟨T4, ρ4, μ4, w, S03.trans S, M, L⟩, (F.rt.go S1 fun _ _ w => w).go S03 fun _ _ w => w, (F.nx.go S1 fun _ _ w => w).go S03 fun _ _ w => w, fun T4 σ4 H4 ρ4 μ4 w S M L => ⟨T4, ρ4, μ4, w, S03.trans S, M, L⟩⟩
    · have e : i = ys.length := by omega
      subst e
      exact .inl ⟨src.stop T' H' S'.grow M'.sub, F.nx T' σ' H' ρ' μ' (fin _ _ ii) (S1.trans S') M' L'⟩
theorem wps_while {c : TT} {tb : TS} (I : Nat → Ro → Mem → Prop) (m0 : Nat) (i0 : I m0 ρ μ)
    (turn : ∀ m ρ' μ', I m ρ' μ' → WPT K Y ρ' μ' c fun b μ2 => if b = true then WPS K Y ρ' μ2 tb { D with nx := fun ρ3 μ3 => ∃ m', m' < m ∧ I m' ρ3 μ3, ct := fun ρ3 μ3 => ∃ m', m' < m ∧ I m' ρ3 μ3, bk := D.nx } else D.nx ρ' μ2) : WPS K Y ρ μ (tWhile c tb) D := fun T σ H M L N E F => by
  refine ⟨fun m σ' H' => ∃ T' ρ' μ', I m ρ' μ' ∧ Step T μ H T' μ' H' ∧ Mst K T' μ' H' ∧ Locs K T' ρ' σ', ⟨m0, T, ρ, μ, i0, Step.refl _ _ _, M, L⟩, ?_⟩
  rintro m σ' H' ⟨T', ρ', μ', ii, S', M', L'⟩
  refine turn m ρ' μ' ii T' σ' H' M' L' (N.go S') _ fun T2 b H2 μ2 w S2 M2 => ?_
  cases b with
  | true =>
    refine ⟨fun σ2 H2 => ∃ m', m' < m ∧ ∃ T' ρ' μ', I m' ρ' μ' ∧ Step T μ H T' μ' H2 ∧ Mst K T' μ' H2 ∧ Locs K T' ρ' σ2, fun σ2 H2 q => q, ?_⟩
    have S02 := S'.trans S2
    exact w T2 σ' H2 M2 (L'.mono S2.grow) (N.go S02) _ ⟨fun T4 σ4 H4 ρ4 μ4 ⟨m', hm, w⟩ S M L => ⟨m', hm, T4, ρ4, μ4, w, S02.trans S, M, L⟩, F.rt.go S02 fun _ _ w => w, F.nx.go S02 fun _ _ w => w, fun T4 σ4 H4 ρ4 μ4 ⟨m', hm, w⟩ S M L => ⟨m', hm, T4, ρ4, μ4, w, S02.trans S, M, L⟩⟩
  | false => exact F.nx T2 σ' H2 ρ' μ2 w (S'.trans S2) M2 (L'.mono S2.grow)
end
end Ml

/-! Ml4: comprehensions, calls, bodies. -/
namespace Ml
open PySem L2
/-! ### comprehensions -/
def wipeR (ρ : Ro) : List Nat → Ro
  | [] => ρ
  | v :: vs => (wipeR ρ vs).set v none
theorem Locs.wipe {K : Frag} {T : Hp} {ρ : Ro} {σ : L2.St} (h : Locs K T ρ σ) : ∀ vs, Locs K T (wipeR ρ vs) (L2.wipe σ vs)
  | [] => h
  | v :: vs => (Locs.wipe h vs).clear v
theorem wipe_idem (σ : L2.St) (vs : List Nat) : L2.wipe (L2.wipe σ vs) vs = L2.wipe σ vs := by
  apply List.ext_getElem? 
  intro i
  by_cases hi : i ∈ vs
  · by_cases hl : i < σ.length
    · have k : ∀ (s : L2.St), i < s.length → ∀ us : List Nat, i ∈ us → (L2.wipe s us)[i]? = some none := by
        intro s hs us
        induction us with
        | nil => intro h; cases h
        | cons u us ih =>
          intro h
          show ((L2.wipe s us).set u none)[i]? = _
          by_cases hu : u = i
          · subst hu; rw [List.getElem?_set_self (by rw [wipe_length]; exact hs)]
          · rw [List.getElem?_set_ne hu]
            exact ih ((List.mem_cons.mp h).resolve_left (Ne.symm hu))
      rw [k _ (by rw [wipe_length]; exact hl) vs hi, k σ hl vs hi]
    · rw [List.getElem?_eq_none (by rw [wipe_length, wipe_length]; omega), List.getElem?_eq_none (by rw [wipe_length]; omega)]
  · rw [wipe_out hi]
theorem wipe_set (σ : L2.St) (vs : List Nat) {j : Nat} (x : Option V) (hj : j ∈ vs) : L2.wipe (σ.set j x) vs = L2.wipe σ vs := by
  induction vs with
  | nil => cases hj
  | cons u us ih =>
    show (L2.wipe (σ.set j x) us).set u none = (L2.wipe σ us).set u none
    by_cases hu : j ∈ us
    · rw [ih hu]
    · have e : j = u := (List.mem_cons.mp hj).resolve_right hu
      subst e
      have k : ∀ us : List Nat, j ∉ us → L2.wipe (σ.set j x) us = (L2.wipe σ us).set j x := by
        intro us
        induction us with
        | nil => intro _; rfl
        | cons v vs ih2 =>
          intro h
          show (L2.wipe (σ.set j x) vs).set v none = ((L2.wipe σ vs).set v none).set j x
          rw [ih2 fun z => h (List.mem_cons_of_mem _ z), List.set_comm]
          intro z; exact h (z ▸ List.mem_cons_self)
      rw [k us hu, List.set_set]
/-- the target stores into vs alone -/
def Onto (g : TG) (vs : List Nat) : Prop := ∀ v σ H Q, g v σ H Q → g v σ H fun σ2 H2 => Q σ2 H2 ∧ L2.wipe σ2 vs = L2.wipe σ vs
def Ontos (g : TGs) (vs : List Nat) : Prop := ∀ v σ H Q, g v σ H Q → g v σ H fun σ2 H2 => Q σ2 H2 ∧ L2.wipe σ2 vs = L2.wipe σ vs
theorem onto_name {i : Nat} {vs : List Nat} (h : i ∈ vs := by decide) : Onto (gName i) vs := fun v σ H Q q => ⟨q, wipe_set σ vs _ h⟩
theorem ontos_nil {vs : List Nat} : Ontos gNil vs := fun v σ H Q ⟨e, q⟩ => ⟨e, q, rfl⟩
def MonoG (g : TG) : Prop := ∀ v σ H (Q Q' : L2.St → Hp → Prop), (∀ a b, Q a b → Q' a b) → g v σ H Q → g v σ H Q'
def MonoGs (g : TGs) : Prop := ∀ v σ H (Q Q' : L2.St → Hp → Prop), (∀ a b, Q a b → Q' a b) → g v σ H Q → g v σ H Q'
theorem mono_name {i : Nat} : MonoG (gName i) := fun v σ H Q Q' k q => k _ _ q
theorem mono_nil : MonoGs gNil := fun v σ H Q Q' k ⟨e, q⟩ => ⟨e, k _ _ q⟩
theorem mono_cons {g : TG} {u : TGs} (h : MonoG g) (h2 : MonoGs u) : MonoGs (gCons g u) := fun v σ H Q Q' k ⟨x, r, e, q⟩ => ⟨x, r, e, h _ _ _ _ _ (fun _ _ => h2 _ _ _ _ _ k) q⟩
theorem mono_tup {K : Frag} {n : Nat} {t : TGs} (h : MonoGs t) : MonoG (gTup K n t) := fun v σ H Q Q' k ⟨a, xs, e, hs, hl, q⟩ => ⟨a, xs, e, hs, hl, h _ _ _ _ _ k q⟩
theorem ontos_cons {g : TG} {u : TGs} {vs : List Nat} (h : Onto g vs) (m : MonoG g) (h2 : Ontos u vs) (m2 : MonoGs u) : Ontos (gCons g u) vs := fun v σ H Q ⟨x, r, e, q⟩ => ⟨x, r, e, by
  refine m _ _ _ _ _ ?_ (h _ _ _ _ q)
  rintro σ1 H1 ⟨q1, e1⟩
  refine m2 _ _ _ _ _ ?_ (h2 _ _ _ _ q1)
  rintro σ2 H2 ⟨q2, e2⟩
  exact ⟨q2, e2.trans e1⟩⟩
theorem onto_tup {K : Frag} {n : Nat} {t : TGs} {vs : List Nat} (h : Ontos t vs) : Onto (gTup K n t) vs := fun v σ H Q ⟨a, xs, e, hs, hl, q⟩ => ⟨a, xs, e, hs, hl, h _ _ _ _ q⟩
section
variable {K : Frag} {Y : Wish} {T T1 H H1 : Hp} {μ μ1 : Mem} {ρ : Ro} {σ : L2.St} {D : DE}
theorem wpt_yes {W : Bool → Mem → Prop} (w : W true μ) : WPT K Y ρ μ tYes W := fun T σ H M L N Q F => F T true H μ w (Step.refl _ _ _) M
/-- one element -/
def Elem (K : Frag) (Y : Wish) (ρ : Ro) (vs : List Nat) (g : TG) (tt : TT) (y : Dt) (μ : Mem) (R : Ro → Mem → Prop) (N : Mem → Prop) : Prop :=
  WPG K Y (wipeR ρ vs) μ g y fun ρ2 μ2 => WPT K Y ρ2 μ2 tt fun b μ3 => if b = true then R ρ2 μ3 else N μ3
theorem lc_go {wi : TI} {g : TG} {tt : TT} {te : TE} {vs : List Nat} {Q : VK} (hg : Onto g vs) (hm : MonoG g) {W : List Dt → Mem → Prop} (h : WPI K Y ρ μ wi fun ys μ1 => ys.length ≤ 1000000 ∧ ∃ I : Nat → List Dt → Mem → Prop, I 0 [] μ1 ∧
    (∀ i y acc μ', ys[i]? = some y → I i acc μ' → Elem K Y ρ vs g tt y μ' (fun ρ2 μ3 => WP K Y ρ2 μ3 te fun d μ4 => I (i + 1) (acc ++ [d]) μ4) (I (i + 1) acc)) ∧ ∀ acc μ', I ys.length acc μ' → W acc μ')
    (M : Mst K T μ H) (L : Locs K T ρ σ) (N : FinW K T μ H Y) (fin : ∀ T' H' μ' D xs acc, W acc μ' → Step T μ H T' μ' H' → Mst K T' μ' H' → H' D = some (.lst xs) → T' D = none → D ∉ dom μ' → (∀ o, H D = some o → D ∈ dom μ) → Reps K T' xs acc → Q (.ref D) H') : tLc wi g tt te vs σ H Q := by
  refine h T σ H M L N _ fun T1 J H1 ys μ1 ⟨hlen, I, i0, turn, hfin⟩ S1 M1 src D hD => ?_
  have fr : ∀ o, H D = some o → D ∈ dom μ := fun o e => by
    by_cases hd : D ∈ dom μ
    · exact hd
    · rw [S1.kept D o e hd] at hD; cases hD
  have L1 := L.mono S1.grow
  -- the state between turns
  let P : Nat → Hp → Prop := fun i H' => ∃ T' μ' acc xs, I i acc μ' ∧ Step T1 μ1 H1 T' μ' H' ∧ Mst K T' μ' H' ∧ H' D = some (.lst xs) ∧ T' D = none ∧ D ∉ dom μ' ∧ Reps K T' xs acc ∧ xs.length ≤ i
  have p0 : P 0 (upd H1 D (.lst [])) := by
    have ht := M1.fresh hD
    have hn := M1.notin hD
    refine ⟨T1, μ1, [], [], i0, ⟨Sub.refl _, fun b o e _ => by rw [upd_ne (ne_of_none e hD)]; exact e, fun b o _ _ t _ => t, fun b o _ n => n⟩, ⟨fun b o e => ?_, fun q hq => ?_, M1.nd⟩, upd_same, ht, hn, .nil, Nat.le_refl _⟩
    · rw [upd_ne (ne_of_none e ht)]; exact M1.sub _ _ e
    · obtain ⟨h1, h2⟩ := M1.mem q hq
      have hne : q.1 ≠ D := fun e => hn (e ▸ List.mem_map.mpr ⟨q, hq, rfl⟩)
      exact ⟨h1, h2.mono (Sub.refl _) fun u e => by rw [upd_ne hne]; exact e⟩
  refine ⟨fun i m H' => m = ys.length - i ∧ i ≤ ys.length ∧ P i H', ⟨_, rfl, Nat.zero_le _, p0⟩, ?_⟩
  rintro i m H' ⟨rfl, hi, T', μ', acc, xs, ii, S', M', hD', tD', nD', rx, hx⟩
  by_cases hlt : i < ys.length
  · refine .inr ⟨src.go T' H' i S'.grow M'.sub hlt, P (i + 1), fun H2 q => ⟨ys.length - (i + 1), by omega, rfl, hlt, q⟩, fun x H2 yq => ?_⟩
    have hy : ys[i]? = some ys[i] := List.getElem?_eq_getElem hlt
    obtain ⟨T2, S2, M2, r2⟩ := src.yld T' H' i x H2 _ μ' S'.grow M' hy yq
    have LW : Locs K T2 (wipeR ρ vs) (L2.wipe σ vs) := (L1.mono (S'.grow.trans S2.grow)).wipe vs
    have S02 : Step T1 μ1 H1 T2 μ' H2 := S'.trans S2
    have D2 : H2 D = some (.lst xs) := S2.kept _ _ hD' nD'
    have t2 : T2 D = none := S2.new _ _ hD' (fun _ z => nomatch z) tD' nD'
    refine hm _ _ _ _ _ ?_ (hg _ _ _ _ (turn i _ acc μ' hy ii T2 (L2.wipe σ vs) H2 x M2 LW ((N.go S1).go S02) r2 (fun σ2 H3 => tt σ2 H3 fun b H4 => if b = true then te σ2 H4 fun y H5 => ∃ acc, H5 D = some (.lst acc) ∧ acc.length < sizeLine ∧ P (i + 1) (upd H5 D (.lst (acc ++ [y]))) else P (i + 1) H4) ?_))
    · rintro σ2 H3 ⟨q, e⟩
      exact ⟨e.trans (wipe_idem σ vs), q⟩
    · intro T3 σ3 H3 ρ3 μ3 w3 S3 M3 L3
      have D3 : H3 D = some (.lst xs) := S3.kept _ _ D2 nD'
      have t3 : T3 D = none := S3.new _ _ D2 (fun _ z => nomatch z) t2 nD'
      have n3 : D ∉ dom μ3 := S3.cells _ _ D2 nD'
      refine w3 T3 σ3 H3 M3 L3 ((N.go S1).go (S02.trans S3)) _ fun T4 b H4 μ4 w4 S4 M4 => ?_
      have D4 : H4 D = some (.lst xs) := S4.kept _ _ D3 n3
      have t4 : T4 D = none := S4.new _ _ D3 (fun _ z => nomatch z) t3 n3
      have n4 : D ∉ dom μ4 := S4.cells _ _ D3 n3
      have S24 : Step T1 μ1 H1 T4 μ4 H4 := (S02.trans S3).trans S4
      cases b with
      | false => exact ⟨T4, μ4, acc, xs, w4, S24, M4, D4, t4, n4, (rx.mono (S2.grow.trans (S3.grow.trans S4.grow))), by omega⟩
      | true =>
        refine w4 T4 σ3 H4 M4 (L3.mono S4.grow) ((N.go S1).go S24) _ fun T5 y H5 d μ5 w5 S5 M5 r5 => ?_
        have D5 : H5 D = some (.lst xs) := S5.kept _ _ D4 n4
        have t5 : T5 D = none := S5.new _ _ D4 (fun _ z => nomatch z) t4 n4
        have n5 : D ∉ dom μ5 := S5.cells _ _ D4 n4
        have S25 : Step T1 μ1 H1 T5 μ5 H5 := S24.trans S5
        refine ⟨xs, D5, Nat.lt_of_lt_of_le (show xs.length < 1000001 by omega) (by decide), T5, μ5, acc ++ [d], xs ++ [y], w5, ⟨S25.grow, fun b o e n => ?_, S25.new, S25.cells⟩, ⟨fun b o e => ?_, fun q hq => ?_, M5.nd⟩, upd_same, t5, n5, (rx.mono (S2.grow.trans (S3.grow.trans (S4.grow.trans S5.grow)))).append (Reps.one r5), by rw [List.length_append, List.length_singleton]; omega⟩
        · have hb : b ≠ D := ne_of_none e hD
          rw [upd_ne hb]; exact S25.kept b o e n
        · rw [upd_ne (ne_of_none e t5)]; exact M5.sub _ _ e
        · obtain ⟨h1, h2⟩ := M5.mem q hq
          have hne : q.1 ≠ D := fun e => n5 (e ▸ List.mem_map.mpr ⟨q, hq, rfl⟩)
          exact ⟨h1, h2.mono (Sub.refl _) fun u e => by rw [upd_ne hne]; exact e⟩
  · have e : i = ys.length := by omega
    subst e
    exact .inl ⟨src.stop T' H' S'.grow M'.sub, fin T' H' μ' D xs acc (hfin _ _ ii) (S1.trans S') M' hD' tD' nD' fr rx⟩
/-- the list is data -/
theorem wp_lc {wi : TI} {g : TG} {tt : TT} {te : TE} {vs : List Nat} (hg : Onto g vs) (hm : MonoG g) {W : Dt → Mem → Prop} (h : WPI K Y ρ μ wi fun ys μ1 => ys.length ≤ 1000000 ∧ ∃ I : Nat → List Dt → Mem → Prop, I 0 [] μ1 ∧
    (∀ i y acc μ', ys[i]? = some y → I i acc μ' → Elem K Y ρ vs g tt y μ' (fun ρ2 μ3 => WP K Y ρ2 μ3 te fun d μ4 => I (i + 1) (acc ++ [d]) μ4) (I (i + 1) acc)) ∧ ∀ acc μ', I ys.length acc μ' → W (.lst acc) μ') : WP K Y ρ μ (tLc wi g tt te vs) W := fun T σ H M L N Q F =>
  lc_go hg hm (W := fun acc μ' => W (.lst acc) μ') h M L N fun T' H' μ' D xs acc w S' M' hD tD nD fr r => by
    have g : Sub T' (upd T' D (.lst xs)) := fun b u e => by rw [upd_ne (ne_of_none e tD)]; exact e
    refine F (upd T' D (.lst xs)) _ H' _ μ' w ⟨S'.grow.trans g, S'.kept, fun b o e z t n => ?_, S'.cells⟩ ⟨fun b u e => ?_, fun q hq => ?_, M'.nd⟩ (.lst upd_same (r.mono g))
    · have hb : b ≠ D := fun y => n (y ▸ fr o (y ▸ e))
      rw [upd_ne hb]; exact S'.new b o e z t n
    · by_cases hb : b = D
      · subst hb; rw [upd_same] at e; cases e; exact hD
      · rw [upd_ne hb] at e; exact M'.sub _ _ e
    · obtain ⟨h1, h2⟩ := M'.mem q hq
      have hne : q.1 ≠ D := fun e => nD (e ▸ List.mem_map.mpr ⟨q, hq, rfl⟩)
      exact ⟨by rw [upd_ne hne]; exact h1, h2.mono g fun _ e => e⟩
/-- the list is a cell -/
theorem wp_lcC {wi : TI} {g : TG} {tt : TT} {te : TE} {vs : List Nat} (hg : Onto g vs) (hm : MonoG g) {W : Dt → Mem → Prop} (h : WPI K Y ρ μ wi fun ys μ1 => ys.length ≤ 1000000 ∧ ∃ I : Nat → List Dt → Mem → Prop, I 0 [] μ1 ∧
    (∀ i y acc μ', ys[i]? = some y → I i acc μ' → Elem K Y ρ vs g tt y μ' (fun ρ2 μ3 => WP K Y ρ2 μ3 te fun d μ4 => I (i + 1) (acc ++ [d]) μ4) (I (i + 1) acc)) ∧ ∀ acc μ', I ys.length acc μ' → ∀ D, D ∉ dom μ' → W (.ref D) ((D, .lst acc) :: μ')) : WP K Y ρ μ (tLc wi g tt te vs) W := fun T σ H M L N Q F =>
  lc_go hg hm (W := fun acc μ' => ∀ D, D ∉ dom μ' → W (.ref D) ((D, .lst acc) :: μ')) h M L N fun T' H' μ' D xs acc w S' M' hD tD nD fr r => by
    refine F T' _ H' _ _ (w D nD) ⟨S'.grow, S'.kept, S'.new, fun b o e n hb => ?_⟩ ⟨M'.sub, fun q hq => ?_, List.nodup_cons.mpr ⟨nD, M'.nd⟩⟩ (.ref D)
    · rcases List.mem_cons.mp (show b ∈ D :: dom μ' from hb) with hb | hb
      · subst hb; exact n (fr o e)
      · exact S'.cells b o e n hb
    · rcases List.mem_cons.mp hq with rfl | hq
      · exact ⟨tD, xs, hD, r⟩
      · exact M'.mem q hq
/-- elements that change nothing: which are kept, what they give -/
theorem wp_lcP {wi : TI} {g : TG} {tt : TT} {te : TE} {vs : List Nat} {W : Dt → Mem → Prop} (hg : Onto g vs) (hm : MonoG g) (h : WPI K Y ρ μ wi fun ys μ1 => ys.length ≤ 1000000 ∧ ∃ (f : Dt → Bool) (e : Dt → Dt),
    (∀ y ∈ ys, Elem K Y ρ vs g tt y μ1 (fun ρ2 μ3 => f y = true ∧ WP K Y ρ2 μ3 te fun d μ4 => d = e y ∧ μ4 = μ1) fun μ3 => f y = false ∧ μ3 = μ1) ∧ W (.lst ((ys.filter f).map e)) μ1) : WP K Y ρ μ (tLc wi g tt te vs) W :=
  wp_lc hg hm fun T σ H M L N R F => h T σ H M L N R fun T' J H' ys μ' ⟨hl, f, e, el, w⟩ S' M' src => F T' J H' ys μ' ⟨hl, fun i acc μ2 => μ2 = μ' ∧ acc = ((ys.take i).filter f).map e, ⟨rfl, rfl⟩, fun i y acc μ2 hy ⟨e1, e2⟩ => by
    subst e1 e2
    have hy' := List.mem_of_getElem? hy
    have tk : ys.take (i + 1) = ys.take i ++ [y] := by rw [List.take_add_one, hy]; rfl
    intro T σ H v M L N r Q F
    refine el y hy' T σ H v M L N r Q fun T2 σ2 H2 ρ2 μ2 w2 S2 M2 L2 => F T2 σ2 H2 ρ2 μ2 (fun T3 σ3 H3 M3 L3 N3 Q3 F3 => w2 T3 σ3 H3 M3 L3 N3 Q3 fun T4 b H4 μ4 w4 S4 M4 => F3 T4 b H4 μ4 ?_ S4 M4) S2 M2 L2
    cases b with
    | true =>
      obtain ⟨hf, w4⟩ := w4
      refine WP.imp (show WP K Y ρ2 μ4 te _ from w4) ?_
      rintro d μ5 ⟨rfl, rfl⟩
      refine ⟨rfl, ?_⟩
      rw [tk, List.filter_append, List.map_append, List.filter_cons, if_pos hf] <;> rfl
    | false =>
      obtain ⟨hf, rfl⟩ := w4
      refine ⟨rfl, ?_⟩
      rw [tk, List.filter_append, List.map_append, List.filter_cons, if_neg (by rw [hf]; decide)]
      simp, fun acc μ2 ⟨e1, e2⟩ => by
    subst e1 e2
    rw [List.take_length]
    exact w⟩ S' M' src
end
end Ml

/-! Ml5: calls, bodies, fields, dicts, lists. -/
namespace Ml
open PySem L2 PySem.Spec PyProof.Rows
/-! ### promises over data -/
abbrev DSp := List Dt → Mem → (Dt → Mem → Prop) → (Addr → List (Str × Dt) → Mem → Prop) → Prop
def FinX (K : Frag) (T : Hp) (μ : Mem) (H : Hp) (X : Addr → List (Str × Dt) → Mem → Prop) (E : XK) : Prop := ∀ T' C dx fs H' μ', X C fs μ' → Step T μ H T' ((dx, .xd fs) :: μ') H' → Mst K T' ((dx, .xd fs) :: μ') H' → E (.ref C) (some dx) H'
def spD (K : Frag) (s : DSp) : Sp := fun vs H Q E => ∃ T μ ds W X, Mst K T μ H ∧ Reps K T vs ds ∧ s ds μ W X ∧ Fin1 K T μ H W Q ∧ FinX K T μ H X E
def noX : Addr → List (Str × Dt) → Mem → Prop := fun _ _ _ => False
def startD (N : List Str) (ds : List Dt) : Ro := ds.map some ++ List.replicate (N.length - ds.length) none
theorem locs_start {K : Frag} {T : Hp} {N : List Str} {vs : List V} {ds : List Dt} (r : Reps K T vs ds) : Locs K T (startD N ds) (L2.start N vs) := by
  have hl := r.length
  refine ⟨by simp [startD, L2.start, hl], fun i d h => ?_⟩
  unfold startD at h
  unfold L2.start
  by_cases hi : i < ds.length
  · rw [List.getElem?_append_left (by simpa using hi), List.getElem?_map] at h
    rw [List.getElem?_append_left (by simpa [hl] using hi), List.getElem?_map]
    cases e : ds[i]? with
    | none => rw [e] at h; cases h
    | some d' =>
      rw [e] at h
      cases h
      obtain ⟨v, h1, h2⟩ := r.get e
      exact ⟨v, by rw [h1]; rfl, h2⟩
  · rw [List.getElem?_append_right (by simpa using hi)] at h
    rw [List.getElem?_replicate] at h
    split at h <;> cases h
/-- the wish of a def's body: E what the caller wants of exceptions, X over data -/
def bodyW (E : XK) (X : Addr → List (Str × Dt) → Mem → Prop) : Wish := ⟨fun c d _ H => E c d H, fun C fs _ μ => X C fs μ⟩
abbrev bodyD (W : Dt → Mem → Prop) : DE := { nx := fun _ μ => W .non μ, rt := W }
section
variable {P : Program} {w : World} {K : Frag} {mg : Str → Option Value} {base : Heap} {x qual : Str} {params : Arguments} {body : List Stmt} {scope : Scope} {dvs : List V} {kws : List (Str × V)} {f : Addr} {fd : FuncData}
/-- THE RULE of a def -/
theorem ok_def {N ps : List Str} {k : Nat} {s : DSp} (F : FunD K x qual params body scope dvs kws f fd) (S : FnScope N ps scope) (len : ∀ ds μ W X, s ds μ W X → ds.length = ps.length)
    (hbody : ∀ (cdv : Value) (A : Around) (outer : List Env) (s0 : Shared) (H : Hp) (E : XK), Room k (A.deeper (envOfC qual scope s0.heap.objs.size f cdv)) →
      ∃ t, PSs (cxOf (L2.CX P w) P w K mg base N qual scope f cdv A outer s0 H E) body t ∧ ∀ ds μ W X, s ds μ W X → WPS K (bodyW E X) (startD N ds) μ t (bodyD W)) : FnOk P w K mg base (L2.CX P w) (k + 1) f fd ps (spD K s) :=
  F.ok S (fun vs H Q E ⟨T, μ, ds, W, X, M, r, h, _, _⟩ => r.length.trans (len ds μ W X h)) fun cdv A outer s0 H vs Q E hr ⟨T, μ, ds, W, X, M, r, h, F1, FX⟩ => by
    obtain ⟨t, ht, hq⟩ := hbody cdv A outer s0 H E hr
    refine ⟨t, ht, hq ds μ W X h T (L2.start N vs) H M (locs_start r) ?_ _ ⟨?_, F1, ?_, ?_⟩⟩
    · exact fun T' C dx fs σ' ρ' H' μ' hx S' M' _ => FX T' C dx fs H' μ' hx S' M'
    · exact fun T' σ' H' ρ' μ' w S' M' L' => F1 T' .non H' .non μ' w S' M' .non
    · exact fun T' σ' H' ρ' μ' w S' M' L' => w.elim
    · exact fun T' σ' H' ρ' μ' w S' M' L' => w.elim
end
section
variable {K : Frag} {Y : Wish} {T T1 H H1 : Hp} {μ μ1 : Mem} {ρ : Ro} {σ : L2.St} {D : DE}
/-! ### calls -/
theorem finX_no {E : XK} : FinX K T μ H noX E := fun _ _ _ _ _ _ h => h.elim
theorem wp_call {s : DSp} {E : XK} {ta : TA} {W : Dt → Mem → Prop} (h : WPA K Y ρ μ ta fun ds μ1 => s ds μ1 W noX) : WP K Y ρ μ (tCall (spD K s) [] E ta) W := fun T σ H M L N Q F =>
  h T σ H M L N _ fun T1 xs H1 ds μ1 w S1 M1 r1 => ⟨T1, μ1, ds, W, noX, M1, by rw [List.append_nil]; exact r1, w, F.go S1 fun _ _ w => w, finX_no⟩
/-- .. that may raise -/
theorem wp_callX {s : DSp} {E : XK} {ta : TA} {W : Dt → Mem → Prop} (hY : ∀ c d σ H, Y.W c d σ H = E c d H) (h : WPA K Y ρ μ ta fun ds μ1 => s ds μ1 W fun C fs μ2 => Y.X C fs ρ μ2) : WP K Y ρ μ (tCall (spD K s) [] E ta) W := fun T σ H M L N Q F =>
  h T σ H M L N _ fun T1 xs H1 ds μ1 w S1 M1 r1 => ⟨T1, μ1, ds, W, _, M1, by rw [List.append_nil]; exact r1, w, F.go S1 fun _ _ w => w, fun T' C dx fs H' μ' hx S' M' => by
    rw [← hY]
    exact (N.go S1) T' C dx fs σ ρ H' μ' hx S' M' (L.mono (S1.grow.trans S'.grow))⟩
/-- at the slots, in a try -/
theorem wp_callS {s : DSp} {ta : TA} {W : Dt → Mem → Prop} (h : WPA K Y ρ μ ta fun ds μ1 => s ds μ1 W fun C fs μ2 => Y.X C fs ρ μ2) : WP K Y ρ μ (tCallS (spD K s) (WE Y.W) ta) W := fun T σ H M L N Q F =>
  h T σ H M L N _ fun T1 xs H1 ds μ1 w S1 M1 r1 => ⟨T1, μ1, ds, W, _, M1, r1, w, F.go S1 fun _ _ w => w, fun T' C dx fs H' μ' hx S' M' =>
    (N.go S1) T' C dx fs σ ρ H' μ' hx S' M' (L.mono (S1.grow.trans S'.grow))⟩
theorem lookup_prep {α : Type} [BEq α] [LawfulBEq α] {us : List (α × V)} {fs : List (α × Dt)} (h : Paired (PRep K T) us fs) (f : α) : (fs.lookup f = none → us.lookup f = none) ∧ ∀ d, fs.lookup f = some d → ∃ v, us.lookup f = some v ∧ Rep K T v d := by
  induction h with
  | nil => exact ⟨(fun _ => rfl), (fun d e => by cases e)⟩
  | @cons p q ps qs r t ih =>
    obtain ⟨k, v⟩ := p
    obtain ⟨k', d⟩ := q
    obtain ⟨e1, e2⟩ := r
    have e1 : k = k' := e1
    subst e1
    rw [List.lookup_cons, List.lookup_cons]
    cases e : (f == k) with
    | true => exact ⟨(fun z => by cases z), (fun d' z => by cases z; exact ⟨v, rfl, e2⟩)⟩
    | false => exact ih
/-- o.m(..), o a cell -/
theorem wp_meth {C : Addr} {m : Str} {s : DSp} {E : XK} {ta : TE} {t : TA} {W : Dt → Mem → Prop} (h : WP K Y ρ μ ta fun d μ1 => ∃ (c : Nat) (a : Addr) (fs : List (Str × Dt)), d = .ref a ∧ μ1[c]? = some (a, .ins C fs) ∧ fs.lookup m = none ∧ WPA K Y ρ μ1 t fun ds μ2 => s (.ref a :: ds) μ2 W noX) :
    WP K Y ρ μ (tMeth C m (spD K s) [] E ta t) W := fun T σ H M L N Q F =>
  h T σ H M L N _ fun T1 x H1 d μ1 ⟨c, a, fs, e, hc, hl, w⟩ S1 M1 r1 => by
    subst e
    obtain rfl := r1.ref_inv
    obtain ⟨dx, us, h1, h2⟩ := M1.get hc
    exact ⟨a, dx, us, rfl, h1, (lookup_prep h2 m).1 hl, w T1 σ H1 M1 (L.mono S1.grow) (N.go S1) _ fun T2 xs H2 ds μ2 w2 S2 M2 r2 => ⟨T2, μ2, _, W, noX, M2, by rw [List.append_nil]; exact .cons (.ref a) r2, w2, F.go (S1.trans S2) fun _ _ w => w, finX_no⟩⟩
theorem wp_methX {C : Addr} {m : Str} {s : DSp} {E : XK} {ta : TE} {t : TA} {W : Dt → Mem → Prop} (hY : ∀ c d σ H, Y.W c d σ H = E c d H) (h : WP K Y ρ μ ta fun d μ1 => ∃ (c : Nat) (a : Addr) (fs : List (Str × Dt)), d = .ref a ∧ μ1[c]? = some (a, .ins C fs) ∧ fs.lookup m = none ∧ WPA K Y ρ μ1 t fun ds μ2 => s (.ref a :: ds) μ2 W fun C fs μ3 => Y.X C fs ρ μ3) :
    WP K Y ρ μ (tMeth C m (spD K s) [] E ta t) W := fun T σ H M L N Q F =>
  h T σ H M L N _ fun T1 x H1 d μ1 ⟨c, a, fs, e, hc, hl, w⟩ S1 M1 r1 => by
    subst e
    obtain rfl := r1.ref_inv
    obtain ⟨dx, us, h1, h2⟩ := M1.get hc
    exact ⟨a, dx, us, rfl, h1, (lookup_prep h2 m).1 hl, w T1 σ H1 M1 (L.mono S1.grow) (N.go S1) _ fun T2 xs H2 ds μ2 w2 S2 M2 r2 => ⟨T2, μ2, _, W, _, M2, by rw [List.append_nil]; exact .cons (.ref a) r2, w2, F.go (S1.trans S2) fun _ _ w => w, fun T' C dx fs H' μ' hx S' M' => by
      rw [← hY]
      exact (N.go (S1.trans S2)) T' C dx fs σ ρ H' μ' hx S' M' (L.mono ((S1.trans S2).grow.trans S'.grow))⟩⟩
theorem zip_lookup {ns : List Str} : ∀ {xs : List V} {ds : List Dt}, Reps K T xs ds → ns.length = xs.length → ∀ f, ((ns.zip ds).lookup f = none → (ns.zip xs).lookup f = none) ∧ ∀ d, (ns.zip ds).lookup f = some d → ∃ v, (ns.zip xs).lookup f = some v ∧ Rep K T v d := by
  induction ns with
  | nil => intro xs ds r hl f; exact ⟨(fun _ => by simp), (fun d e => by simp at e)⟩
  | cons n ns ih =>
    intro xs ds r hl f
    cases r with
    | nil => simp at hl
    | @cons v vs d ds r1 r2 =>
      rw [List.zip_cons_cons, List.zip_cons_cons, List.lookup_cons, List.lookup_cons]
      cases e : (f == n) with
      | true => exact ⟨(fun z => by cases z), (fun d' z => by cases z; exact ⟨v, rfl, r1⟩)⟩
      | false => exact ih r2 (by simpa using hl) f
/-- o.m(..), o an instance that never changes -/
theorem wp_methI {C : Addr} {m : Str} {s : DSp} {E : XK} {ta : TE} {t : TA} {W : Dt → Mem → Prop} (h : WP K Y ρ μ ta fun d μ1 => ∃ (ns : List Str) (es : List Dt), d = .ins C ns es ∧ (ns.zip es).lookup m = none ∧ WPA K Y ρ μ1 t fun ds μ2 => s (d :: ds) μ2 W noX) :
    WP K Y ρ μ (tMeth C m (spD K s) [] E ta t) W := fun T σ H M L N Q F =>
  h T σ H M L N _ fun T1 x H1 d μ1 ⟨ns, es, e, hl, w⟩ S1 M1 r1 => by
    subst e
    obtain ⟨a, dx, us, rfl, h1, h2, h3⟩ := r1.ins_inv
    exact ⟨a, dx, _, rfl, M1.sub _ _ h1, (zip_lookup h3 h2 m).1 hl, w T1 σ H1 M1 (L.mono S1.grow) (N.go S1) _ fun T2 xs H2 ds μ2 w2 S2 M2 r2 => ⟨T2, μ2, _, W, noX, M2, by rw [List.append_nil]; exact .cons (r1.mono S2.grow) r2, w2, F.go (S1.trans S2) fun _ _ w => w, finX_no⟩⟩
/-- C(..) -/
theorem wp_make {C : Addr} {s : DSp} {E : XK} {t : TA} {W : Dt → Mem → Prop} (h : WPA K Y ρ μ t fun ds μ1 => ∀ x, x ∉ dom μ1 → s (.ref x :: ds) ((x, .ins C []) :: μ1) (fun d μ2 => d = .non ∧ W (.ref x) μ2) noX) : WP K Y ρ μ (tMake C (spD K s) [] E t) W := fun T σ H M L N Q F =>
  h T σ H M L N _ fun T1 xs H1 ds μ1 w S1 M1 r1 x dx hx hdx hne => by
    have hx2 : upd H1 dx (.own x) x = none := by rw [upd_ne (Ne.symm hne)]; exact hx
    have Ma : Mst K T1 μ1 (upd H1 dx (.own x)) := ⟨fun b o e => by rw [upd_ne (ne_of_none (M1.sub _ _ e) hdx)]; exact M1.sub _ _ e, fun q hq => ⟨(M1.mem q hq).1, (M1.mem q hq).2.mono (Sub.refl _) fun u e => by rw [upd_ne (ne_of_none e hdx)]; exact e⟩, M1.nd⟩
    have Sa : Step T1 μ1 H1 T1 μ1 (upd H1 dx (.own x)) := ⟨Sub.refl _, fun b o e _ => by rw [upd_ne (ne_of_none e hdx)]; exact e, fun _ _ _ _ t _ => t, fun _ _ _ n => n⟩
    obtain ⟨Mb, Sb⟩ := Ma.cell (m := .ins C []) (o := .ins C dx []) hx2 ⟨dx, [], upd_same, .nil⟩
    refine ⟨T1, _, .ref x :: ds, _, noX, Mb, ?_, w x (M1.notin hx), ?_, finX_no⟩
    · rw [List.append_nil]; exact .cons (.ref x) r1
    · rintro T' v H' d μ' ⟨rfl, w'⟩ S' M' r'
      exact ⟨r'.non_inv, F T' _ H' _ μ' w' (((S1.trans Sa).trans Sb).trans S') M' (.ref x)⟩
/-! ### fields -/
def putD (f : Str) (v : Dt) : List (Str × Dt) → List (Str × Dt)
  | [] => [(f, v)]
  | (g, x) :: r => if g = f then (g, v) :: r else (g, x) :: putD f v r
theorem putD_rep {f : Str} {v : V} {d : Dt} (r : Rep K T v d) {us : List (Str × V)} {fs : List (Str × Dt)} (h : Paired (PRep K T) us fs) : Paired (PRep K T) (putF f v us) (putD f d fs) := by
  induction h with
  | nil => exact .cons ⟨rfl, r⟩ .nil
  | @cons p q ps qs g t ih =>
    obtain ⟨k, u⟩ := p
    obtain ⟨k', e⟩ := q
    obtain ⟨e1, e2⟩ := g
    have e1 : k = k' := e1
    subst e1
    show Paired (PRep K T) (if k = f then (k, v) :: ps else (k, u) :: putF f v ps) (if k = f then (k, d) :: qs else (k, e) :: putD f d qs)
    split
    · exact .cons ⟨rfl, r⟩ t
    · exact .cons ⟨rfl, e2⟩ ih
theorem wps_fld {ta tv : TE} {f : Str} (h : WP K Y ρ μ tv fun e μ1 => WP K Y ρ μ1 ta fun d μ2 => ∃ (c : Nat) (a C : Addr) (fs : List (Str × Dt)), d = .ref a ∧ μ2[c]? = some (a, .ins C fs) ∧ Cls K C ∧ NoAttr K C f ∧ fs.length < 1000 ∧ D.nx ρ (μ2.set c (a, .ins C (putD f e fs)))) : WPS K Y ρ μ (sFld K ta tv f) D := fun T σ H M L N E F =>
  h T σ H M L N _ fun T1 y H1 e μ1 w S1 M1 r1 => w T1 σ H1 M1 (L.mono S1.grow) (N.go S1) _ fun T2 x H2 d μ2 ⟨c, a, C, fs, ed, hc, cl, na, hl, w2⟩ S2 M2 r2 => by
    subst ed
    obtain rfl := r2.ref_inv
    obtain ⟨dx, us, h1, h2⟩ := M2.get hc
    refine ⟨a, C, dx, us, rfl, h1, cl, na, by rw [Paired.length h2]; exact hl, ?_⟩
    obtain ⟨M3, S3⟩ := M2.put (m' := .ins C (putD f e fs)) (o := .ins C dx (putF f y us)) hc ⟨dx, _, upd_same, putD_rep (r1.mono S2.grow) h2⟩
    exact F.nx T2 σ _ ρ _ w2 ((S1.trans S2).trans S3) M3 (L.mono (S1.trans S2).grow)
theorem wp_fld {ta : TE} {f : Str} {W : Dt → Mem → Prop} (h : WP K Y ρ μ ta fun d μ1 => ∃ (c : Nat) (a C : Addr) (fs : List (Str × Dt)) (e : Dt), d = .ref a ∧ μ1[c]? = some (a, .ins C fs) ∧ Cls K C ∧ NoAttr K C f ∧ fs.lookup f = some e ∧ W e μ1) : WP K Y ρ μ (tFld K ta f) W := fun T σ H M L N Q F =>
  h T σ H M L N _ fun T1 x H1 d μ1 ⟨c, a, C, fs, e, ed, hc, cl, na, hl, w⟩ S1 M1 r1 => by
    subst ed
    obtain rfl := r1.ref_inv
    obtain ⟨dx, us, h1, h2⟩ := M1.get hc
    obtain ⟨v, h3, h4⟩ := (lookup_prep h2 f).2 e hl
    exact ⟨a, C, dx, us, v, rfl, h1, cl, na, h3, F T1 v H1 e μ1 w S1 M1 h4⟩
theorem wp_fldI {ta : TE} {f : Str} {W : Dt → Mem → Prop} (h : WP K Y ρ μ ta fun d μ1 => ∃ (C : Addr) (ns : List Str) (es : List Dt) (e : Dt), d = .ins C ns es ∧ Cls K C ∧ NoAttr K C f ∧ (ns.zip es).lookup f = some e ∧ W e μ1) : WP K Y ρ μ (tFld K ta f) W := fun T σ H M L N Q F =>
  h T σ H M L N _ fun T1 x H1 d μ1 ⟨C, ns, es, e, ed, cl, na, hl, w⟩ S1 M1 r1 => by
    subst ed
    obtain ⟨a, dx, us, rfl, h1, h2, h3⟩ := r1.ins_inv
    obtain ⟨v, h4, h5⟩ := (zip_lookup h3 h2 f).2 e hl
    exact ⟨a, C, dx, _, v, rfl, M1.sub _ _ h1, cl, na, h4, F T1 v H1 e μ1 w S1 M1 h5⟩
/-- o.f += e, whole numbers -/
theorem wps_fldaugI {ta tv : TE} {f : Str} (h : WP K Y ρ μ ta fun d μ1 => ∃ (c : Nat) (a C : Addr) (fs : List (Str × Dt)) (n : Int), d = .ref a ∧ μ1[c]? = some (a, .ins C fs) ∧ Cls K C ∧ NoAttr K C f ∧ fs.lookup f = some (.int n) ∧ fs.length < 1000 ∧
    WP K Y ρ μ1 tv fun e μ2 => ∃ k, e = .int k ∧ ∃ fs2, μ2[c]? = some (a, .ins C fs2) ∧ fs2.length < 1000 ∧ D.nx ρ (μ2.set c (a, .ins C (putD f (.int (n + k)) fs2)))) : WPS K Y ρ μ (sFldAug K ta tv L2.rAdd f) D := fun T σ H M L N E F =>
  h T σ H M L N _ fun T1 x H1 d μ1 ⟨c, a, C, fs, n, ed, hc, cl, na, hl, hz, w⟩ S1 M1 r1 => by
    subst ed
    obtain rfl := r1.ref_inv
    obtain ⟨dx, us, h1, h2⟩ := M1.get hc
    obtain ⟨v, h3, h4⟩ := (lookup_prep h2 f).2 _ hl
    obtain rfl := h4.int_inv
    refine ⟨a, C, dx, us, _, rfl, h1, cl, na, h3, w T1 σ H1 M1 (L.mono S1.grow) (N.go S1) _ fun T2 y H2 e μ2 ⟨k, ek, fs2, hc2, hz2, w2⟩ S2 M2 r2 => ?_⟩
    subst ek
    obtain rfl := r2.int_inv
    obtain ⟨dx2, us2, h5, h6⟩ := M2.get hc2
    refine ⟨n, k, rfl, rfl, dx2, us2, h5, by rw [Paired.length h6]; exact hz2, ?_⟩
    obtain ⟨M3, S3⟩ := M2.put (m' := .ins C (putD f (.int (n + k)) fs2)) (o := .ins C dx2 (putF f (.int (n + k)) us2)) hc2 ⟨dx2, _, upd_same, putD_rep (.int _) h6⟩
    exact F.nx T2 σ _ ρ _ w2 ((S1.trans S2).trans S3) M3 (L.mono (S1.trans S2).grow)
end
end Ml

/-! Ml6: dicts, lists, slices, isinstance, equality of data, properties, more sources. -/
namespace Ml
open PySem L2
theorem sz6 {n : Nat} (h : n ≤ 1000000) : n ≤ sizeLine := Nat.le_trans h (by decide)
theorem sz6l {n : Nat} (h : n < 1000000) : n < sizeLine := Nat.lt_of_lt_of_le h (by decide)
/-- d is a list of ds: data, or a cell -/
def IsLst (μ : Mem) (d : Dt) (ds : List Dt) : Prop := d = .lst ds ∨ ∃ (c : Nat) (a : Addr), d = .ref a ∧ μ[c]? = some (a, .lst ds)
theorem isl {μ : Mem} {ds : List Dt} : IsLst μ (.lst ds) ds := .inl rfl
theorem islC {μ : Mem} {a : Addr} {ds : List Dt} (c : Nat) (h : μ[c]? = some (a, .lst ds)) : IsLst μ (.ref a) ds := .inr ⟨c, a, rfl, h⟩
theorem IsLst.at {K : Frag} {T H : Hp} {μ : Mem} {d : Dt} {ds : List Dt} {v : V} (h : IsLst μ d ds) (M : Mst K T μ H) (r : Rep K T v d) : ∃ a xs, v = .ref a ∧ H a = some (.lst xs) ∧ Reps K T xs ds := by
  rcases h with rfl | ⟨c, a, rfl, hc⟩
  · obtain ⟨a, xs, rfl, h1, h2⟩ := r.lst_inv
    exact ⟨a, xs, rfl, M.sub _ _ h1, h2⟩
  · obtain rfl := r.ref_inv
    obtain ⟨vs, h1, h2⟩ := M.get hc
    exact ⟨a, vs, rfl, h1, h2⟩
section
variable {K : Frag} {Y : Wish} {T T1 H H1 : Hp} {μ μ1 : Mem} {ρ : Ro} {σ : L2.St} {D : DE}
/-! ### chains -/
theorem wp_chain {r r' : R2} {ta tb tc : TE} {W : Dt → Mem → Prop} (h : WP K Y ρ μ ta fun d μ1 => WP K Y ρ μ1 tb fun e μ2 => RW2 K μ2 r d e fun z μ3 => ∃ b, z = .bl b ∧ if b = true then WP K Y ρ μ3 tc fun f μ4 => RW2 K μ4 r' e f W else W (.bl false) μ3) : WP K Y ρ μ (tChain r r' ta tb tc) W := fun T σ H M L N Q F =>
  h T σ H M L N _ fun T1 x H1 d μ1 w1 S1 M1 r1 => w1 T1 σ H1 M1 (L.mono S1.grow) (N.go S1) _ fun T2 y H2 e μ2 w2 S2 M2 r2 => w2 T2 H2 x y M2 (r1.mono S2.grow) r2 _ fun T3 z H3 dz μ3 ⟨b, ez, w3⟩ S3 M3 r3 => by
    subst ez
    refine ⟨b, r3.bl_inv, ?_⟩
    have S03 := (S1.trans S2).trans S3
    cases b with
    | true => exact w3 T3 σ H3 M3 (L.mono S03.grow) (N.go S03) _ fun T4 u H4 f μ4 w4 S4 M4 r4 => w4 T4 H4 y u M4 (r2.mono (S3.grow.trans S4.grow)) r4 Q (F.go (S03.trans S4) fun _ _ w => w)
    | false => exact F T3 _ H3 _ μ3 w3 S03 M3 (.bl false)
/-! ### lists -/
theorem rw_cat {d e : Dt} {ds es : List Dt} {W : Dt → Mem → Prop} (h1 : IsLst μ d ds) (h2 : IsLst μ e es) (hl : ds.length + es.length ≤ 1000000) (w : W (.lst (ds ++ es)) μ) : RW2 K μ rCat d e W := fun T H x y M r1 r2 Q F => by
  obtain ⟨a, xs, rfl, ha, ra⟩ := h1.at M r1
  obtain ⟨b, ys, rfl, hb, rb⟩ := h2.at M r2
  refine ⟨a, b, xs, ys, rfl, rfl, ha, hb, sz6 (by rw [ra.length, rb.length]; exact hl), fun p hp => ?_⟩
  obtain ⟨M2, S2⟩ := M.lay (o := .lst (xs ++ ys)) hp
  exact F _ _ _ _ μ w S2 M2 (.lst upd_same ((ra.append rb).mono S2.grow))
theorem rw_rep {d : Dt} {ds : List Dt} {k : Int} {W : Dt → Mem → Prop} (h1 : IsLst μ d ds) (hk : 0 ≤ k ∧ k ≤ 1000000) (hl : ds.length * k.toNat ≤ 1000000) (w : W (.lst (List.replicate k.toNat ds).flatten) μ) : RW2 K μ rRep d (.int k) W := fun T H x y M r1 r2 Q F => by
  obtain ⟨a, xs, rfl, ha, ra⟩ := h1.at M r1
  refine ⟨a, k, xs, rfl, r2.int_inv, ha, by omega, by omega, sz6 (by rw [ra.length]; exact hl), fun p hp => ?_⟩
  obtain ⟨M2, S2⟩ := M.lay (o := .lst (List.replicate k.toNat xs).flatten) hp
  refine F _ _ _ _ μ w S2 M2 (.lst upd_same (Reps.mono S2.grow ?_))
  generalize k.toNat = n
  induction n with
  | zero => exact .nil
  | succ n ih => rw [List.replicate_succ, List.replicate_succ, List.flatten_cons, List.flatten_cons]; exact ra.append ih
def cutD {α : Type} (xs : List α) (lo hi : Option Int) : List α := (xs.drop (HT.sIx xs.length 0 lo)).take (HT.sIx xs.length xs.length hi - HT.sIx xs.length 0 lo)
/-- the parts of a slice -/
def WPO (K : Frag) (Y : Wish) (ρ : Ro) (μ : Mem) (to : TO) (W : Option Int → Mem → Prop) : Prop := ∀ T σ H, Mst K T μ H → Locs K T ρ σ → FinW K T μ H Y → ∀ Q : Option Int → Hp → Prop, (∀ T' H' o μ', W o μ' → Step T μ H T' μ' H' → Mst K T' μ' H' → Q o H') → to σ H Q
theorem wpo_none {W : Option Int → Mem → Prop} (w : W none μ) : WPO K Y ρ μ tNoPart W := fun T σ H M L N Q F => F T H none μ w (Step.refl _ _ _) M
theorem wpo_some {t : TE} {W : Option Int → Mem → Prop} (h : WP K Y ρ μ t fun d μ1 => ∃ n, d = .int n ∧ W (some n) μ1) : WPO K Y ρ μ (tPart t) W := fun T σ H M L N Q F =>
  h T σ H M L N _ fun T1 x H1 d μ1 ⟨n, e, w⟩ S1 M1 r1 => by
    subst e
    exact ⟨n, r1.int_inv, F T1 H1 _ μ1 w S1 M1⟩
theorem wp_sl {r : V → Option Int → Option Int → Hp → VK → Prop} {te : TE} {tl th : TO} {W : Dt → Mem → Prop} (h : WP K Y ρ μ te fun d μ1 => WPO K Y ρ μ1 tl fun lo μ2 => WPO K Y ρ μ2 th fun hi μ3 => ∀ T H x, Mst K T μ3 H → Rep K T x d → ∀ Q, Fin1 K T μ3 H W Q → r x lo hi H Q) : WP K Y ρ μ (tSl r te tl th) W := fun T σ H M L N Q F =>
  h T σ H M L N _ fun T1 x H1 d μ1 w1 S1 M1 r1 => w1 T1 σ H1 M1 (L.mono S1.grow) (N.go S1) _ fun T2 H2 lo μ2 w2 S2 M2 => w2 T2 σ H2 M2 (L.mono (S1.trans S2).grow) (N.go (S1.trans S2)) _ fun T3 H3 hi μ3 w3 S3 M3 => w3 T3 H3 x M3 (r1.mono (S2.grow.trans S3.grow)) Q (F.go ((S1.trans S2).trans S3) fun _ _ w => w)
theorem cut_rep {xs : List V} {ds : List Dt} (r : Reps K T xs ds) (lo hi : Option Int) : Reps K T (cutV xs lo hi) (cutD ds lo hi) := by
  unfold cutV cutD
  rw [r.length]
  exact (r.drop _).take _
theorem rw_slL {d : Dt} {ds : List Dt} {lo hi : Option Int} {W : Dt → Mem → Prop} (h : IsLst μ d ds) (w : W (.lst (cutD ds lo hi)) μ) : ∀ T H x, Mst K T μ H → Rep K T x d → ∀ Q, Fin1 K T μ H W Q → rSlL K x lo hi H Q := fun T H x M r Q F => by
  obtain ⟨a, xs, rfl, ha, ra⟩ := h.at M r
  refine ⟨a, xs, rfl, SqL.of ha, fun p hp => ?_⟩
  obtain ⟨M2, S2⟩ := M.lay (o := .lst (cutV xs lo hi)) hp
  exact F _ _ _ _ μ w S2 M2 (.lst upd_same (Reps.mono S2.grow (cut_rep ra lo hi)))
/-- len -/
def IsSq (μ : Mem) (d : Dt) (ds : List Dt) : Prop := IsLst μ d ds ∨ d = .tup ds ∨ d = .fls ds
theorem IsSq.at {d : Dt} {ds : List Dt} {v : V} (h : IsSq μ d ds) (M : Mst K T μ H) (r : Rep K T v d) : ∃ a xs, v = .ref a ∧ (SqL K H a xs ∨ SqT K H a xs) ∧ Reps K T xs ds := by
  rcases h with h | rfl | rfl
  · obtain ⟨a, xs, rfl, ha, ra⟩ := h.at M r
    exact ⟨a, xs, rfl, .inl (SqL.of ha), ra⟩
  · obtain ⟨a, xs, rfl, h1, h2⟩ := r.tup_inv
    exact ⟨a, xs, rfl, .inr (SqT.of (M.sub _ _ h1)), h2⟩
  · obtain ⟨a, xs, rfl, h1, h2⟩ := r.fls_inv
    exact ⟨a, xs, rfl, .inl (M.sub.l h1), h2⟩
theorem rw_len {d : Dt} {ds : List Dt} {W : Dt → Mem → Prop} (h : IsSq μ d ds) (w : W (.int (ds.length : Nat)) μ) : RWL K μ (Evl.rLenS K) [d] W := fun T H xs M r Q F => by
  obtain ⟨v, us, rfl, r1, r2⟩ := r.cons_inv
  obtain rfl := r2.nil_inv
  obtain ⟨a, ys, rfl, ha, ra⟩ := h.at M r1
  exact ⟨a, ys, rfl, ha, by rw [ra.length]; exact F T _ H _ μ w (Step.refl _ _ _) M (.int _)⟩
theorem rw_list {d : Dt} {ds : List Dt} {W : Dt → Mem → Prop} (h : IsSq μ d ds) (w : W (.lst ds) μ) : RWL K μ (Evl.rListS K) [d] W := fun T H xs M r Q F => by
  obtain ⟨v, us, rfl, r1, r2⟩ := r.cons_inv
  obtain rfl := r2.nil_inv
  obtain ⟨a, ys, rfl, ha, ra⟩ := h.at M r1
  refine ⟨a, ys, rfl, ha, fun p hp => ?_⟩
  obtain ⟨M2, S2⟩ := M.lay (o := .lst ys) hp
  exact F _ _ _ _ μ w S2 M2 (.lst upd_same (ra.mono S2.grow))
theorem rw_listC {d : Dt} {ds : List Dt} {W : Dt → Mem → Prop} (h : IsSq μ d ds) (w : ∀ p, p ∉ dom μ → W (.ref p) ((p, .lst ds) :: μ)) : RWL K μ (Evl.rListS K) [d] W := fun T H xs M r Q F => by
  obtain ⟨v, us, rfl, r1, r2⟩ := r.cons_inv
  obtain rfl := r2.nil_inv
  obtain ⟨a, ys, rfl, ha, ra⟩ := h.at M r1
  refine ⟨a, ys, rfl, ha, fun p hp => ?_⟩
  obtain ⟨M2, S2⟩ := M.cell (m := .lst ds) (o := .lst ys) hp ⟨ys, upd_same, ra⟩
  exact F _ _ _ _ _ (w p (M.notin hp)) S2 M2 (.ref p)
/-- x in xs: flat things -/
theorem flats {T : Hp} {xs : List V} {ds : List Dt} {vs : List V} (r : Reps K T xs ds) (h : ds.map Dt.flat = vs.map some) : xs = vs := by
  induction ds generalizing xs vs with
  | nil =>
    obtain rfl := r.nil_inv
    cases vs with
    | nil => rfl
    | cons => simp at h
  | cons d ds ih =>
    obtain ⟨v, us, rfl, r1, r2⟩ := r.cons_inv
    cases vs with
    | nil => simp at h
    | cons x vs =>
      simp only [List.map_cons, List.cons.injEq] at h
      rw [ih r2 h.2]
      have e : v = x := by cases r1 <;> simp [Dt.flat] at h <;> exact h.1
      rw [e]
theorem rw_in {neg : Bool} {d e : Dt} {x : V} {ds : List Dt} {vs : List V} {W : Dt → Mem → Prop} (hx : d.flat = some x) (h : IsSq μ e ds) (hf : ds.map Dt.flat = vs.map some) (fx : flatV x = true) (fv : vs.all flatV = true) (w : W (.bl (if neg then !inV x vs else inV x vs)) μ) : RW2 K μ (rIn K neg) d e W := fun T H u v M r1 r2 Q F => by
  obtain ⟨a, ys, rfl, ha, ra⟩ := h.at M r2
  have e1 : u = x := by cases r1 <;> simp [Dt.flat] at hx <;> exact hx
  subst e1
  obtain rfl := flats ra hf
  exact ⟨a, ys, rfl, ha, fx, fv, F T _ H _ μ w (Step.refl _ _ _) M (.bl _)⟩
theorem inV_ints (n : Int) (ns : List Int) : inV (.int n) (ns.map V.int) = decide (n ∈ ns) := by
  unfold inV
  rw [List.any_map]
  induction ns with
  | nil => rfl
  | cons m ns ih =>
    rw [List.any_cons, ih]
    show (eqV (.int m) (.int n) || _) = _
    have : eqV (.int m) (.int n) = decide (m = n) := by
      show (m == n) = _
      rw [Bool.beq_eq_decide_eq]
    rw [this]
    by_cases e : m = n
    · subst e; simp
    · have e' : n ≠ m := fun z => e z.symm
      simp [e, e']
theorem rw_inI {neg : Bool} {e : Dt} {n : Int} {ns : List Int} {W : Dt → Mem → Prop} (h : IsSq μ e (ns.map Dt.int)) (w : W (.bl (if neg then !decide (n ∈ ns) else decide (n ∈ ns))) μ) : RW2 K μ (rIn K neg) (.int n) e W :=
  rw_in (x := .int n) (vs := ns.map V.int) rfl h (by rw [List.map_map, List.map_map]; rfl) rfl (by simp [flatV]) (by rw [inV_ints]; exact w)
/-- methods of a list that is a cell -/
theorem wp_bm {r : V → List V → Hp → VK → Prop} {to : TE} {t : TA} {W : Dt → Mem → Prop} (h : WP K Y ρ μ to fun d μ1 => (∃ ds, IsLst μ1 d ds) ∧ WPA K Y ρ μ1 t fun es μ2 => RWM K μ2 r d es W) : WP K Y ρ μ (tBM K "list" r to t) W := fun T σ H M L N Q F =>
  h T σ H M L N _ fun T1 x H1 d μ1 ⟨⟨ds, hd⟩, w⟩ S1 M1 r1 => by
    obtain ⟨a, xs, rfl, ha, ra⟩ := hd.at M1 r1
    exact ⟨.inl ⟨rfl, xs, SqL.of ha⟩, w T1 σ H1 M1 (L.mono S1.grow) (N.go S1) _ fun T2 us H2 es μ2 w2 S2 M2 r2 => w2 T2 H2 _ us M2 (r1.mono S2.grow) r2 Q (F.go (S1.trans S2) fun _ _ w => w)⟩
theorem wp_bm0 {r : V → List V → Hp → VK → Prop} {to : TE} {W : Dt → Mem → Prop} (h : WP K Y ρ μ to fun d μ1 => (∃ ds, IsLst μ1 d ds) ∧ RWM K μ1 r d [] W) : WP K Y ρ μ (tBM0 K "list" r to) W := fun T σ H M L N Q F =>
  h T σ H M L N _ fun T1 x H1 d μ1 ⟨⟨ds, hd⟩, w⟩ S1 M1 r1 => by
    obtain ⟨a, xs, rfl, ha, ra⟩ := hd.at M1 r1
    exact ⟨.inl ⟨rfl, xs, SqL.of ha⟩, w T1 H1 _ [] M1 r1 .nil Q (F.go S1 fun _ _ w => w)⟩
theorem rwm_append {a : Addr} {c : Nat} {ds : List Dt} {e : Dt} {W : Dt → Mem → Prop} (hc : μ[c]? = some (a, .lst ds)) (hl : ds.length < 1000000) (w : W .non (μ.set c (a, .lst (ds ++ [e])))) : RWM K μ rAppend (.ref a) [e] W := fun T H x xs M r1 r2 Q F => by
  obtain rfl := r1.ref_inv
  obtain ⟨v, us, rfl, r3, r4⟩ := r2.cons_inv
  obtain rfl := r4.nil_inv
  obtain ⟨vs, h1, h2⟩ := M.get hc
  refine ⟨a, vs, v, rfl, rfl, h1, sz6l (by rw [h2.length]; exact hl), ?_⟩
  obtain ⟨M2, S2⟩ := M.put (m' := .lst (ds ++ [e])) (o := .lst (vs ++ [v])) hc ⟨_, upd_same, h2.append (Reps.one r3)⟩
  exact F T _ _ _ _ w S2 M2 .non
theorem rwm_extend {a : Addr} {c : Nat} {ds es : List Dt} {e : Dt} {W : Dt → Mem → Prop} (hc : μ[c]? = some (a, .lst ds)) (he : IsLst μ e es) (hl : ds.length + es.length ≤ 1000000) (w : W .non (μ.set c (a, .lst (ds ++ es)))) : RWM K μ rExtend (.ref a) [e] W := fun T H x xs M r1 r2 Q F => by
  obtain rfl := r1.ref_inv
  obtain ⟨v, us, rfl, r3, r4⟩ := r2.cons_inv
  obtain rfl := r4.nil_inv
  obtain ⟨vs, h1, h2⟩ := M.get hc
  obtain ⟨b, zs, rfl, h3, h4⟩ := he.at M r3
  refine ⟨a, b, vs, zs, rfl, rfl, h1, h3, sz6 (by rw [h2.length, h4.length]; exact hl), ?_⟩
  obtain ⟨M2, S2⟩ := M.put (m' := .lst (ds ++ es)) (o := .lst (vs ++ zs)) hc ⟨_, upd_same, h2.append h4⟩
  exact F T _ _ _ _ w S2 M2 .non
theorem Reps.eraseIdx : ∀ {xs : List V} {ds : List Dt} (i : Nat), Reps K T xs ds → Reps K T (xs.eraseIdx i) (ds.eraseIdx i)
  | _, _, _, .nil => .nil
  | _, _, 0, .cons _ r => r
  | _, _, i + 1, .cons h r => .cons h (Reps.eraseIdx i r)
theorem rwm_popAt {a : Addr} {c k : Nat} {ds : List Dt} {i : Int} {e : Dt} {W : Dt → Mem → Prop} (hc : μ[c]? = some (a, .lst ds)) (hi : -(2 ^ 63) ≤ i ∧ i < 2 ^ 63) (hk : seqIndex? i ds.length = some k) (he : ds[k]? = some e) (w : W e (μ.set c (a, .lst (ds.eraseIdx k)))) : RWM K μ rPopAt (.ref a) [.int i] W := fun T H x xs M r1 r2 Q F => by
  obtain rfl := r1.ref_inv
  obtain ⟨v, us, rfl, r3, r4⟩ := r2.cons_inv
  obtain rfl := r4.nil_inv
  obtain rfl := r3.int_inv
  obtain ⟨vs, h1, h2⟩ := M.get hc
  obtain ⟨y, h3, h4⟩ := h2.get he
  refine ⟨a, vs, i, k, y, rfl, rfl, h1, hi.1, hi.2, by rw [h2.length]; exact hk, h3, ?_⟩
  obtain ⟨M2, S2⟩ := M.put (m' := .lst (ds.eraseIdx k)) (o := .lst (vs.eraseIdx k)) hc ⟨_, upd_same, h2.eraseIdx k⟩
  exact F T _ _ _ _ w S2 M2 h4
theorem rwm_clear {a : Addr} {c : Nat} {ds : List Dt} {W : Dt → Mem → Prop} (hc : μ[c]? = some (a, .lst ds)) (w : W .non (μ.set c (a, .lst []))) : RWM K μ rClear (.ref a) [] W := fun T H x xs M r1 r2 Q F => by
  obtain rfl := r1.ref_inv
  obtain rfl := r2.nil_inv
  obtain ⟨vs, h1, h2⟩ := M.get hc
  refine ⟨a, vs, rfl, rfl, h1, ?_⟩
  obtain ⟨M2, S2⟩ := M.put (m' := .lst []) (o := .lst []) hc ⟨_, upd_same, .nil⟩
  exact F T _ _ _ _ w S2 M2 .non
theorem wpg_setL {to ti : TE} {y : Dt} {W : Ro → Mem → Prop} (h : WP K Y ρ μ to fun d μ1 => WP K Y ρ μ1 ti fun e μ2 => ∃ (c : Nat) (a : Addr) (ds : List Dt) (k : Int) (j : Nat), d = .ref a ∧ e = .int k ∧ μ2[c]? = some (a, .lst ds) ∧ ixN ds.length k = some j ∧ W ρ (μ2.set c (a, .lst (ds.set j y)))) : WPG K Y ρ μ (gSub to ti rSetL) y W := fun T σ H v M L N r Q F =>
  h T σ H M L N _ fun T1 x H1 d μ1 w S1 M1 r1 => w T1 σ H1 M1 (L.mono S1.grow) (N.go S1) _ fun T2 u H2 e μ2 ⟨c, a, ds, k, j, ed, ee, hc, hj, w2⟩ S2 M2 r2 => by
    subst ed ee
    obtain rfl := r1.ref_inv
    obtain rfl := r2.int_inv
    obtain ⟨vs, h1, h2⟩ := M2.get hc
    refine ⟨a, vs, k, j, rfl, rfl, h1, by rw [h2.length]; exact hj, ?_⟩
    obtain ⟨M3, S3⟩ := M2.put (m' := .lst (ds.set j y)) (o := .lst (vs.set j v)) hc ⟨_, upd_same, h2.set (r.mono (S1.trans S2).grow) j⟩
    exact F T2 σ _ ρ _ w2 ((S1.trans S2).trans S3) M3 (L.mono (S1.trans S2).grow)
/-! ### dicts -/
section
variable {κ : Type} [DecidableEq κ]
def valD (kvs : List (κ × Dt)) (k : κ) : Option Dt := (kvs.find? fun kv => decide (kv.1 = k)).map (·.2)
def putKD (kvs : List (κ × Dt)) (k : κ) (v : Dt) : List (κ × Dt) :=
  if (kvs.any fun kv => decide (kv.1 = k)) = true then kvs.map (fun kv => if kv.1 = k then (kv.1, v) else kv) else kvs ++ [(k, v)]
theorem valD_rep {us : List (κ × V)} {kvs : List (κ × Dt)} (h : Paired (PRep K T) us kvs) (k : κ) : (valD kvs k = none → valV us k = none) ∧ ∀ d, valD kvs k = some d → ∃ v, valV us k = some v ∧ Rep K T v d := by
  induction h with
  | nil => exact ⟨(fun _ => rfl), (fun d e => by cases e)⟩
  | @cons p q ps qs r t ih =>
    obtain ⟨k1, v⟩ := p
    obtain ⟨k2, d⟩ := q
    obtain ⟨e1, e2⟩ := r
    have e1 : k1 = k2 := e1
    subst e1
    unfold valD valV
    rw [List.find?_cons, List.find?_cons]
    by_cases e : k1 = k
    · simp only [e, decide_true]
      exact ⟨(fun z => by cases z), (fun d' z => by cases z; exact ⟨v, rfl, e2⟩)⟩
    · simp only [e, decide_false]
      exact ih
theorem any_rep {us : List (κ × V)} {kvs : List (κ × Dt)} (h : Paired (PRep K T) us kvs) (k : κ) : (us.any fun kv => decide (kv.1 = k)) = kvs.any fun kv => decide (kv.1 = k) := by
  induction h with
  | nil => rfl
  | @cons p q ps qs r t ih => rw [List.any_cons, List.any_cons, ih, r.1]
theorem Paired.app {α β : Type} {F : α → β → Prop} : ∀ {a : List α} {b : List β} {c : List α} {d : List β}, Paired F a b → Paired F c d → Paired F (a ++ c) (b ++ d)
  | _, _, _, _, .nil, h => h
  | _, _, _, _, .cons r t, h => .cons r (Paired.app t h)
theorem repl_rep {us : List (κ × V)} {kvs : List (κ × Dt)} (h : Paired (PRep K T) us kvs) (k : κ) {v : V} {d : Dt} (r : Rep K T v d) : Paired (PRep K T) (us.map fun kv => if kv.1 = k then (kv.1, v) else kv) (kvs.map fun kv => if kv.1 = k then (kv.1, d) else kv) := by
  induction h with
  | nil => exact .nil
  | @cons p q ps qs g t ih =>
    rw [List.map_cons, List.map_cons]
    refine .cons ?_ ih
    obtain ⟨e1, e2⟩ := g
    rw [← e1]
    by_cases e : p.1 = k
    · rw [if_pos e, if_pos e]; exact ⟨rfl, r⟩
    · rw [if_neg e, if_neg e]; exact ⟨e1, e2⟩
theorem putKD_rep {us : List (κ × V)} {kvs : List (κ × Dt)} (h : Paired (PRep K T) us kvs) (k : κ) {v : V} {d : Dt} (r : Rep K T v d) : Paired (PRep K T) (putK us k v) (putKD kvs k d) := by
  unfold putK putKD
  rw [any_rep h k]
  split
  · exact repl_rep h k r
  · exact Paired.app h (.cons ⟨rfl, r⟩ .nil)
end
def kD : Key → Dt
  | .inl i => .int i
  | .inr x => .str x
theorem kD_rep {v : V} {k : Key} (r : Rep K T v (kD k)) : v = kV k := by
  cases k with
  | inl i => exact r.int_inv
  | inr x => exact r.str_inv
theorem kDs_rep {vs : List V} {ks : List Key} (r : Reps K T vs (ks.map kD)) : vs = ks.map kV := by
  induction ks generalizing vs with
  | nil => exact r.nil_inv
  | cons k ks ih =>
    obtain ⟨v, us, rfl, r1, r2⟩ := r.cons_inv
    rw [List.map_cons, ih r2, kD_rep r1]
/-- what the dict d holds at the key e -/
def DHas (μ : Mem) (d e : Dt) (o : Option Dt) : Prop :=
  (∃ (c : Nat) (a : Addr) (kvs : List (Key × Dt)) (k : Key), d = .ref a ∧ μ[c]? = some (a, .dK kvs) ∧ e = kD k ∧ o = valD kvs k) ∨
  ∃ (c : Nat) (a : Addr) (kvs : List (List Key × Dt)) (k : List Key), d = .ref a ∧ μ[c]? = some (a, .dT kvs) ∧ e = .tup (k.map kD) ∧ o = valD kvs k
theorem dhasK {a : Addr} {kvs : List (Key × Dt)} (c : Nat) (k : Key) (h : μ[c]? = some (a, .dK kvs)) : DHas μ (.ref a) (kD k) (valD kvs k) := .inl ⟨c, a, kvs, k, rfl, h, rfl, rfl⟩
theorem dhasT {a : Addr} {kvs : List (List Key × Dt)} (c : Nat) (k : List Key) (h : μ[c]? = some (a, .dT kvs)) : DHas μ (.ref a) (.tup (k.map kD)) (valD kvs k) := .inr ⟨c, a, kvs, k, rfl, h, rfl, rfl⟩
theorem DHas.at {d e : Dt} {o : Option Dt} {x y : V} (h : DHas μ d e o) (M : Mst K T μ H) (r1 : Rep K T x d) (r2 : Rep K T y e) : ∃ a p, x = .ref a ∧ DGet H a y p ∧ (o = none → p = none) ∧ ∀ d', o = some d' → ∃ v, p = some v ∧ Rep K T v d' := by
  rcases h with ⟨c, a, kvs, k, rfl, hc, rfl, rfl⟩ | ⟨c, a, kvs, k, rfl, hc, rfl, rfl⟩
  · obtain rfl := r1.ref_inv
    obtain rfl := kD_rep r2
    obtain ⟨us, h1, h2⟩ := M.get hc
    exact ⟨a, _, rfl, DGet.k h1, valD_rep h2 k⟩
  · obtain rfl := r1.ref_inv
    obtain ⟨b, xs, rfl, hb, rb⟩ := r2.tup_inv
    obtain rfl := kDs_rep rb
    obtain ⟨us, h1, h2⟩ := M.get hc
    exact ⟨a, _, rfl, DGet.t h1 (M.sub _ _ hb), valD_rep h2 k⟩
theorem wp_dget {td ty : TE} {W : Dt → Mem → Prop} (h : WP K Y ρ μ td fun d μ1 => WP K Y ρ μ1 ty fun e μ2 => ∃ v, DHas μ2 d e (some v) ∧ W v μ2) : WP K Y ρ μ (tDGet td ty) W := fun T σ H M L N Q F =>
  h T σ H M L N _ fun T1 x H1 d μ1 w1 S1 M1 r1 => w1 T1 σ H1 M1 (L.mono S1.grow) (N.go S1) _ fun T2 y H2 e μ2 ⟨v, hd, w2⟩ S2 M2 r2 => by
    obtain ⟨a, p, rfl, h1, _, h3⟩ := hd.at M2 (r1.mono S2.grow) r2
    obtain ⟨u, rfl, hu⟩ := h3 v rfl
    exact ⟨a, u, rfl, h1, F T2 u H2 v μ2 w2 (S1.trans S2) M2 hu⟩
theorem wp_din {td ty : TE} {W : Dt → Mem → Prop} (h : WP K Y ρ μ ty fun e μ1 => WP K Y ρ μ1 td fun d μ2 => ∃ o, DHas μ2 d e o ∧ W (.bl o.isSome) μ2) : WP K Y ρ μ (tDIn ty td) W := fun T σ H M L N Q F =>
  h T σ H M L N _ fun T1 y H1 e μ1 w1 S1 M1 r1 => w1 T1 σ H1 M1 (L.mono S1.grow) (N.go S1) _ fun T2 x H2 d μ2 ⟨o, hd, w2⟩ S2 M2 r2 => by
    obtain ⟨a, p, rfl, h1, h2, h3⟩ := hd.at M2 r2 (r1.mono S2.grow)
    refine ⟨a, p, rfl, h1, ?_⟩
    have e : p.isSome = o.isSome := by
      cases o with
      | none => rw [h2 rfl]; rfl
      | some d' => obtain ⟨v, rfl, _⟩ := h3 d' rfl; rfl
    rw [e]
    exact F T2 _ H2 _ μ2 w2 (S1.trans S2) M2 (.bl _)
theorem wp_dnotin {td ty : TE} {W : Dt → Mem → Prop} (h : WP K Y ρ μ ty fun e μ1 => WP K Y ρ μ1 td fun d μ2 => ∃ o, DHas μ2 d e o ∧ W (.bl (!o.isSome)) μ2) : WP K Y ρ μ (tDNotIn ty td) W := fun T σ H M L N Q F =>
  h T σ H M L N _ fun T1 y H1 e μ1 w1 S1 M1 r1 => w1 T1 σ H1 M1 (L.mono S1.grow) (N.go S1) _ fun T2 x H2 d μ2 ⟨o, hd, w2⟩ S2 M2 r2 => by
    obtain ⟨a, p, rfl, h1, h2, h3⟩ := hd.at M2 r2 (r1.mono S2.grow)
    refine ⟨a, p, rfl, h1, ?_⟩
    have e : p.isSome = o.isSome := by
      cases o with
      | none => rw [h2 rfl]; rfl
      | some d' => obtain ⟨v, rfl, _⟩ := h3 d' rfl; rfl
    rw [e]
    exact F T2 _ H2 _ μ2 w2 (S1.trans S2) M2 (.bl _)
theorem wp_dget1 {td ty : TE} {W : Dt → Mem → Prop} (h : WP K Y ρ μ td fun d μ1 => (∃ (c : Nat) (a : Addr), d = .ref a ∧ ((∃ kvs, μ1[c]? = some (a, .dK kvs)) ∨ ∃ kvs, μ1[c]? = some (a, .dT kvs))) ∧ WP K Y ρ μ1 ty fun e μ2 => ∃ o, DHas μ2 d e o ∧ W (o.getD .non) μ2) : WP K Y ρ μ (tDGet1 td ty) W := fun T σ H M L N Q F =>
  h T σ H M L N _ fun T1 x H1 d μ1 ⟨⟨c, a, ed, hc⟩, w1⟩ S1 M1 r1 => by
    subst ed
    obtain rfl := r1.ref_inv
    have isd : IsD H1 a := by
      rcases hc with ⟨kvs, hc⟩ | ⟨kvs, hc⟩
      · obtain ⟨us, h1, _⟩ := M1.get hc; exact .inl ⟨us, .inl h1⟩
      · obtain ⟨us, h1, _⟩ := M1.get hc; exact .inr ⟨us, .inl h1⟩
    refine ⟨a, rfl, isd, w1 T1 σ H1 M1 (L.mono S1.grow) (N.go S1) _ fun T2 y H2 e μ2 ⟨o, hd, w2⟩ S2 M2 r2 => ?_⟩
    obtain ⟨b, p, eb, h1, h2, h3⟩ := hd.at M2 (.ref a) r2
    cases eb
    refine ⟨p, h1, ?_⟩
    cases o with
    | none => rw [h2 rfl]; exact F T2 _ H2 _ μ2 w2 (S1.trans S2) M2 .non
    | some d' => obtain ⟨v, rfl, hv⟩ := h3 d' rfl; exact F T2 _ H2 _ μ2 w2 (S1.trans S2) M2 hv
theorem wps_dput {td ty tv : TE} (h : WP K Y ρ μ tv fun v μ1 => WP K Y ρ μ1 td fun d μ2 => WP K Y ρ μ2 ty fun e μ3 =>
    (∃ (c : Nat) (a : Addr) (kvs : List (Key × Dt)) (k : Key), d = .ref a ∧ μ3[c]? = some (a, .dK kvs) ∧ e = kD k ∧ kvs.length < 1000000 ∧ D.nx ρ (μ3.set c (a, .dK (putKD kvs k v)))) ∨
    ∃ (c : Nat) (a : Addr) (kvs : List (List Key × Dt)) (k : List Key), d = .ref a ∧ μ3[c]? = some (a, .dT kvs) ∧ e = .tup (k.map kD) ∧ kvs.length < 1000000 ∧ D.nx ρ (μ3.set c (a, .dT (putKD kvs k v)))) : WPS K Y ρ μ (sDPut td ty tv) D := fun T σ H M L N E F =>
  h T σ H M L N _ fun T1 v H1 dv μ1 w1 S1 M1 r1 => w1 T1 σ H1 M1 (L.mono S1.grow) (N.go S1) _ fun T2 x H2 d μ2 w2 S2 M2 r2 => w2 T2 σ H2 M2 (L.mono (S1.trans S2).grow) (N.go (S1.trans S2)) _ fun T3 y H3 e μ3 w3 S3 M3 r3 => by
    have S03 := (S1.trans S2).trans S3
    have rv := r1.mono (S2.grow.trans S3.grow)
    have rd := r2.mono S3.grow
    rcases w3 with ⟨c, a, kvs, k, rfl, hc, rfl, hl, w⟩ | ⟨c, a, kvs, k, rfl, hc, rfl, hl, w⟩
    · obtain rfl := rd.ref_inv
      obtain rfl := kD_rep r3
      obtain ⟨us, h1, h2⟩ := M3.get hc
      refine ⟨a, _, rfl, DPut.k h1 (sz6l (by rw [Paired.length h2]; exact hl)), ?_⟩
      obtain ⟨M4, S4⟩ := M3.put (m' := .dK (putKD kvs k dv)) (o := .dK (putK us k v)) hc ⟨_, upd_same, putKD_rep h2 k rv⟩
      exact F.nx T3 σ _ ρ _ w (S03.trans S4) M4 (L.mono S03.grow)
    · obtain rfl := rd.ref_inv
      obtain ⟨b, xs, rfl, hb, rb⟩ := r3.tup_inv
      obtain rfl := kDs_rep rb
      obtain ⟨us, h1, h2⟩ := M3.get hc
      refine ⟨a, _, rfl, DPut.t h1 (M3.sub _ _ hb) (sz6l (by rw [Paired.length h2]; exact hl)), ?_⟩
      obtain ⟨M4, S4⟩ := M3.put (m' := .dT (putKD kvs k dv)) (o := .dT (putK us k v)) hc ⟨_, upd_same, putKD_rep h2 k rv⟩
      exact F.nx T3 σ _ ρ _ w (S03.trans S4) M4 (L.mono S03.grow)
theorem wp_dnewK {W : Dt → Mem → Prop} (w : ∀ p, p ∉ dom μ → W (.ref p) ((p, .dK []) :: μ)) : WP K Y ρ μ tDNewK W := fun T σ H M L N Q F p hp => by
  obtain ⟨M2, S2⟩ := M.cell (m := .dK []) (o := .dK []) hp ⟨[], upd_same, .nil⟩
  exact F T _ _ _ _ (w p (M.notin hp)) S2 M2 (.ref p)
theorem wp_dnewT {W : Dt → Mem → Prop} (w : ∀ p, p ∉ dom μ → W (.ref p) ((p, .dT []) :: μ)) : WP K Y ρ μ tDNewT W := fun T σ H M L N Q F p hp => by
  obtain ⟨M2, S2⟩ := M.cell (m := .dT []) (o := .dT []) hp ⟨[], upd_same, .nil⟩
  exact F T _ _ _ _ (w p (M.notin hp)) S2 M2 (.ref p)
/-! ### what was a cell is data from here on -/
theorem wp_freezeL {te : TE} {W : Dt → Mem → Prop} (h : WP K Y ρ μ te fun d μ1 => ∃ (a : Addr) (ds : List Dt) (rest : Mem), d = .ref a ∧ μ1 = (a, .lst ds) :: rest ∧ W (.lst ds) rest) : WP K Y ρ μ te W := fun T σ H M L N Q F =>
  h T σ H M L N _ fun T1 x H1 d μ1 ⟨a, ds, rest, ed, em, w⟩ S1 M1 r1 => by
    subst ed em
    obtain rfl := r1.ref_inv
    obtain ⟨vs, h1, h2⟩ := M1.get (i := 0) rfl
    obtain ⟨M2, S2⟩ := M1.freeze (List.Perm.refl _) h1
    exact F _ _ H1 _ rest w (S1.trans S2) M2 (.lst upd_same (h2.mono S2.grow))
theorem prep_zip {us : List (Str × V)} {fs : List (Str × Dt)} (h : Paired (PRep K T) us fs) : us = (fs.map (·.1)).zip (us.map (·.2)) := by
  induction h with
  | nil => rfl
  | @cons p q ps qs g t ih => rw [List.map_cons, List.map_cons, List.zip_cons_cons, ← ih, ← g.1]
theorem prep_snd {us : List (Str × V)} {fs : List (Str × Dt)} (h : Paired (PRep K T) us fs) : Reps K T (us.map (·.2)) (fs.map (·.2)) := by
  induction h with
  | nil => exact .nil
  | @cons p q ps qs g t ih => exact .cons g.2 ih
theorem wp_freezeI {te : TE} {W : Dt → Mem → Prop} (h : WP K Y ρ μ te fun d μ1 => ∃ (a C : Addr) (fs : List (Str × Dt)) (rest : Mem), d = .ref a ∧ μ1 = (a, .ins C fs) :: rest ∧ W (.ins C (fs.map (·.1)) (fs.map (·.2))) rest) : WP K Y ρ μ te W := fun T σ H M L N Q F =>
  h T σ H M L N _ fun T1 x H1 d μ1 ⟨a, C, fs, rest, ed, em, w⟩ S1 M1 r1 => by
    subst ed em
    obtain rfl := r1.ref_inv
    obtain ⟨dx, us, h1, h2⟩ := M1.get (i := 0) rfl
    obtain ⟨M2, S2⟩ := M1.freeze (List.Perm.refl _) h1
    have hz := prep_zip h2
    have hr := prep_snd h2
    exact F _ _ H1 _ rest w (S1.trans S2) M2 (.ins (dx := dx) (xs := us.map (·.2)) (by rw [upd_same, ← hz]) (by rw [List.length_map, List.length_map, Paired.length h2]) (hr.mono S2.grow))
/-- cells forgotten behind an expression -/
theorem wp_dropM {te : TE} {W : Dt → Mem → Prop} (h : WP K Y ρ μ te fun d μ1 => ∃ gone μ2, μ1 = gone ++ μ2 ∧ W d μ2) : WP K Y ρ μ te W := fun T σ H M L N Q F =>
  h T σ H M L N _ fun T1 x H1 d μ1 ⟨gone, μ2, e, w⟩ S1 M1 r1 => by
    subst e
    obtain ⟨M2, S2⟩ := M1.drop (foot := μ2) (rest := gone) List.perm_append_comm
    exact F T1 x H1 d μ2 w (S1.trans S2) M2 r1
/-! ### equality of data -/
mutual
def Dt.py : Dt → Option PyData
  | .non => some .none
  | .bl b => some (.bool b)
  | .int i => some (.int i)
  | .str x => some (.str x)
  | .lst ds => (Dt.pys ds).map .list
  | .tup ds => (Dt.pys ds).map .tuple
  | .fls ds => (Dt.pys ds).map .list
  | .ref _ => none
  | .ty _ => none
  | .ins _ _ _ => none
  | .fdK _ _ => none
  | .fdT _ _ => none
def Dt.pys : List Dt → Option (List PyData)
  | [] => some []
  | d :: ds => match d.py, Dt.pys ds with
    | some p, some ps => some (p :: ps)
    | _, _ => none
end
mutual
theorem Rep.dp {K : Frag} {T H : Hp} (s : Sub T H) : ∀ {v : V} {d : Dt} {p : PyData}, Rep K T v d → d.py = some p → Dp K H v p
  | _, _, _, .non, e => by cases e; exact .non
  | _, _, _, .bl b, e => by cases e; exact .bl b
  | _, _, _, .int i, e => by cases e; exact .int i
  | _, _, _, .str x, e => by cases e; exact .str x
  | _, _, _, .ref a, e => by cases e
  | _, _, _, .ty a, e => by cases e
  | _, .lst ds, _, .lst h r, e => by
    rw [Dt.py] at e
    cases q : Dt.pys ds with
    | none => rw [q] at e; cases e
    | some ps => rw [q] at e; cases e; exact .lst (SqL.of (s _ _ h)) (Reps.dp s r q)
  | _, .tup ds, _, .tup h r, e => by
    rw [Dt.py] at e
    cases q : Dt.pys ds with
    | none => rw [q] at e; cases e
    | some ps => rw [q] at e; cases e; exact .tup (SqT.of (s _ _ h)) (Reps.dp s r q)
  | _, .fls ds, _, .fls h r, e => by
    rw [Dt.py] at e
    cases q : Dt.pys ds with
    | none => rw [q] at e; cases e
    | some ps => rw [q] at e; cases e; exact .lst (s.l h) (Reps.dp s r q)
  | _, _, _, .ins _ _ _, e => by cases e
  | _, _, _, .fdK _ _, e => by cases e
  | _, _, _, .fdT _ _, e => by cases e
theorem Reps.dp {K : Frag} {T H : Hp} (s : Sub T H) : ∀ {vs : List V} {ds : List Dt} {ps : List PyData}, Reps K T vs ds → Dt.pys ds = some ps → DpAll K H vs ps
  | _, _, _, .nil, e => by cases e; exact .nil
  | _, d :: ds, _, .cons h r, e => by
    rw [Dt.pys] at e
    cases q : d.py with
    | none => rw [q] at e; cases e
    | some p =>
      cases q2 : Dt.pys ds with
      | none => rw [q, q2] at e; cases e
      | some ps => rw [q, q2] at e; cases e; exact .cons (Rep.dp s h q) (Reps.dp s r q2)
end
/-- a cell that is a list, as data -/
def PyOf (μ : Mem) (d : Dt) (p : PyData) : Prop := d.py = some p ∨ ∃ ds ps, IsLst μ d ds ∧ Dt.pys ds = some ps ∧ p = .list ps
theorem PyOf.at {d : Dt} {p : PyData} {v : V} (h : PyOf μ d p) (M : Mst K T μ H) (r : Rep K T v d) : Dp K H v p := by
  rcases h with h | ⟨ds, ps, h, e, rfl⟩
  · exact r.dp M.sub h
  · obtain ⟨a, xs, rfl, ha, ra⟩ := h.at M r
    exact .lst (SqL.of ha) (Reps.dp M.sub ra e)
theorem rw_eqD {d e : Dt} {p q : PyData} {W : Dt → Mem → Prop} (h1 : PyOf μ d p) (h2 : PyOf μ e q) (s1 : SeqAt.shaped p = true) (s2 : SeqAt.shaped q = true) (w : W (.bl (PyData.eqv p q)) μ) : RW2 K μ (rEqD K) d e W := fun T H x y M r1 r2 Q F =>
  ⟨p, q, h1.at M r1, h2.at M r2, s1, s2, F T _ H _ μ w (Step.refl _ _ _) M (.bl _)⟩
theorem rw_neD {d e : Dt} {p q : PyData} {W : Dt → Mem → Prop} (h1 : PyOf μ d p) (h2 : PyOf μ e q) (s1 : SeqAt.shaped p = true) (s2 : SeqAt.shaped q = true) (w : W (.bl (!PyData.eqv p q)) μ) : RW2 K μ (rNeD K) d e W := fun T H x y M r1 r2 Q F =>
  ⟨p, q, h1.at M r1, h2.at M r2, s1, s2, F T _ H _ μ w (Step.refl _ _ _) M (.bl _)⟩
/-! ### isinstance -/
inductive TyD (μ : Mem) : Dt → String → Prop
  | non : TyD μ .non "NoneType"
  | bl (b : Bool) : TyD μ (.bl b) "bool"
  | int (i : Int) : TyD μ (.int i) "int"
  | str (x : Str) : TyD μ (.str x) "str"
  | lst (ds : List Dt) : TyD μ (.lst ds) "list"
  | tup (ds : List Dt) : TyD μ (.tup ds) "tuple"
  | lstC {a : Addr} {c : Nat} {ds : List Dt} (h : μ[c]? = some (a, .lst ds)) : TyD μ (.ref a) "list"
  | dK {a : Addr} {c : Nat} {kvs : List (Key × Dt)} (h : μ[c]? = some (a, .dK kvs)) : TyD μ (.ref a) "dict"
  | dT {a : Addr} {c : Nat} {kvs : List (List Key × Dt)} (h : μ[c]? = some (a, .dT kvs)) : TyD μ (.ref a) "dict"
theorem TyD.at {d : Dt} {t : String} {v : V} (h : TyD μ d t) (M : Mst K T μ H) (r : Rep K T v d) : TyX K H v (.type t) := by
  cases h with
  | non => obtain rfl := r.non_inv; exact .base .non
  | bl b => obtain rfl := r.bl_inv; exact .base (.bl b)
  | int b => obtain rfl := r.int_inv; exact .base (.int b)
  | str b => obtain rfl := r.str_inv; exact .base (.str b)
  | lst ds => obtain ⟨a, xs, rfl, h1, _⟩ := r.lst_inv; exact .base (.lst (M.sub _ _ h1))
  | tup ds => obtain ⟨a, xs, rfl, h1, _⟩ := r.tup_inv; exact .base (.tup (M.sub _ _ h1))
  | lstC hc => obtain rfl := r.ref_inv; obtain ⟨vs, h1, _⟩ := M.get hc; exact .base (.lst h1)
  | dK hc => obtain rfl := r.ref_inv; obtain ⟨vs, h1, _⟩ := M.get hc; exact .base (.dK h1)
  | dT hc => obtain rfl := r.ref_inv; obtain ⟨vs, h1, _⟩ := M.get hc; exact .base (.dT h1)
theorem rw_isi {d : Dt} {t n : String} {b : Bool} {W : Dt → Mem → Prop} (h : TyD μ d t) (hk : kitB t n = some b) (w : W (.bl b) μ) : RWL K μ (rIsi K) [d, .ty n] W := fun T H xs M r Q F => by
  obtain ⟨v, us, rfl, r1, r2⟩ := r.cons_inv
  obtain ⟨u, us', rfl, r3, r4⟩ := r2.cons_inv
  obtain rfl := r4.nil_inv
  obtain rfl := r3.ty_inv
  exact ⟨v, .ty n, _, _, b, rfl, .ty n, h.at M r1, kit_ty hk, F T _ H _ μ w (Step.refl _ _ _) M (.bl b)⟩
/-! ### sources -/
theorem src_zip {a b : Addr} {xs ys : List V} {ds es : List Dt} (ha : SqL K T a xs) (hb : SqL K T b ys) (ra : Reps K T xs ds) (rb : Reps K T ys es) : Src0 K T (Itz K a b) ((ds.zip es).map fun p => .tup [p.1, p.2]) where
  go := fun T' H' i s1 s2 hi => by
    rw [List.length_map, List.length_zip] at hi
    have h1 : i < xs.length := by rw [ra.length]; omega
    have h2 : i < ys.length := by rw [rb.length]; omega
    exact ⟨xs, ys, xs[i], ys[i], s2.l (s1.l ha), s2.l (s1.l hb), List.getElem?_eq_getElem h1, List.getElem?_eq_getElem h2⟩
  stop := fun T' H' s1 s2 => ⟨xs, ys, s2.l (s1.l ha), s2.l (s1.l hb), by rw [List.length_map, List.length_zip, ra.length, rb.length]; omega⟩
  yld := fun T' H' i x H'' y s1 s2 hy q => by
    obtain ⟨p, u, v, rfl, hp, rfl, h1, h2⟩ := q
    rw [List.getElem?_map] at hy
    cases e : (ds.zip es)[i]? with
    | none => rw [e] at hy; cases hy
    | some pr =>
      rw [e] at hy
      cases hy
      obtain ⟨e1, e2⟩ := List.getElem?_zip_eq_some.mp e
      obtain ⟨u', h3, r3⟩ := ra.get e1
      obtain ⟨v', h4, r4⟩ := rb.get e2
      have h5 := h1 xs (s2.l (s1.l ha))
      have h6 := h2 ys (s2.l (s1.l hb))
      rw [h3] at h5
      rw [h4] at h6
      cases h5
      cases h6
      have ht : T' p = none := by
        cases q : T' p with
        | none => rfl
        | some o => rw [s2 _ _ q] at hp; cases hp
      have g : Sub T' (upd T' p (.tup [u, v])) := fun b o e => by rw [upd_ne (ne_of_none e ht)]; exact e
      exact .inr ⟨p, _, hp, rfl, .tup upd_same (.cons ((r3.mono s1).mono g) (.cons ((r4.mono s1).mono g) .nil))⟩
theorem wpi_zip {ta : TA} {W : List Dt → Mem → Prop} (h : WPA K Y ρ μ ta fun ds μ1 => ∃ xs ys, ds = [.lst xs, .lst ys] ∧ W ((xs.zip ys).map fun p => .tup [p.1, p.2]) μ1) : WPI K Y ρ μ (iZip K ta) W := fun T σ H M L N R F =>
  h T σ H M L N _ fun T1 vs H1 ds μ1 ⟨xs, ys, e, w⟩ S1 M1 r1 => by
    subst e
    obtain ⟨v, us, rfl, r2, r3⟩ := r1.cons_inv
    obtain ⟨u, us', rfl, r4, r5⟩ := r3.cons_inv
    obtain rfl := r5.nil_inv
    obtain ⟨a, xa, rfl, ha, ra⟩ := r2.lst_inv
    obtain ⟨b, xb, rfl, hb, rb⟩ := r4.lst_inv
    exact ⟨a, b, xa, xb, rfl, SqL.of (M1.sub _ _ ha), SqL.of (M1.sub _ _ hb), F T1 _ H1 _ μ1 w S1 M1 (src_zip (SqL.of ha) (SqL.of hb) ra rb).up⟩
theorem src_enum {a : Addr} {xs : List V} {ds : List Dt} (ha : SqL K T a xs) (ra : Reps K T xs ds) : Src0 K T (Ite K a) (ds.zipIdx.map fun p => .tup [.int (p.2 : Int), p.1]) where
  go := fun T' H' i s1 s2 hi => by
    rw [List.length_map, List.length_zipIdx] at hi
    have h1 : i < xs.length := by rw [ra.length]; omega
    exact ⟨xs, xs[i], s2.l (s1.l ha), List.getElem?_eq_getElem h1⟩
  stop := fun T' H' s1 s2 => ⟨xs, s2.l (s1.l ha), by rw [List.length_map, List.length_zipIdx, ra.length]; omega⟩
  yld := fun T' H' i x H'' y s1 s2 hy q => by
    obtain ⟨p, u, rfl, hp, rfl, h1⟩ := q
    rw [List.getElem?_map, List.getElem?_zipIdx] at hy
    cases e : ds[i]? with
    | none => rw [e] at hy; cases hy
    | some d =>
      rw [e] at hy
      cases hy
      obtain ⟨u', h3, r3⟩ := ra.get e
      have h5 := h1 xs (s2.l (s1.l ha))
      rw [h3] at h5
      cases h5
      have ht : T' p = none := by
        cases q : T' p with
        | none => rfl
        | some o => rw [s2 _ _ q] at hp; cases hp
      have g : Sub T' (upd T' p (.tup [.int (i : Nat), u])) := fun b o e => by rw [upd_ne (ne_of_none e ht)]; exact e
      refine .inr ⟨p, _, hp, rfl, .tup upd_same (.cons ?_ (.cons ((r3.mono s1).mono g) .nil))⟩
      have e0 : ((0 + i : Nat) : Int) = (i : Int) := by omega
      show Rep _ _ _ (.int ((0 + i : Nat) : Int))
      rw [e0]
      exact .int _
theorem wpi_enum {ta : TA} {W : List Dt → Mem → Prop} (h : WPA K Y ρ μ ta fun ds μ1 => ∃ xs, ds = [.lst xs] ∧ W (xs.zipIdx.map fun p => .tup [.int (p.2 : Int), p.1]) μ1) : WPI K Y ρ μ (iEnum K ta) W := fun T σ H M L N R F =>
  h T σ H M L N _ fun T1 vs H1 ds μ1 ⟨xs, e, w⟩ S1 M1 r1 => by
    subst e
    obtain ⟨v, us, rfl, r2, r3⟩ := r1.cons_inv
    obtain rfl := r3.nil_inv
    obtain ⟨a, xa, rfl, ha, ra⟩ := r2.lst_inv
    exact ⟨a, xa, rfl, SqL.of (M1.sub _ _ ha), F T1 _ H1 _ μ1 w S1 M1 (src_enum (SqL.of ha) ra).up⟩
/-! ### properties, classmethods, constants -/
theorem wp_prop {C : Addr} {s : DSp} {E : XK} {ta : TE} {W : Dt → Mem → Prop} (h : WP K Y ρ μ ta fun d μ1 => ∃ (c : Nat) (a : Addr) (fs : List (Str × Dt)), d = .ref a ∧ μ1[c]? = some (a, .ins C fs) ∧ s [.ref a] μ1 W noX) : WP K Y ρ μ (tProp C (spD K s) [] E ta) W := fun T σ H M L N Q F =>
  h T σ H M L N _ fun T1 x H1 d μ1 ⟨c, a, fs, e, hc, w⟩ S1 M1 r1 => by
    subst e
    obtain rfl := r1.ref_inv
    obtain ⟨dx, us, h1, h2⟩ := M1.get hc
    exact ⟨a, dx, us, rfl, h1, T1, μ1, _, W, noX, M1, .cons (.ref a) .nil, w, F.go S1 fun _ _ w => w, finX_no⟩
theorem wp_cmeth {C : Addr} {s : DSp} {E : XK} {ta : TE} {t : TA} {W : Dt → Mem → Prop} (h : WP K Y ρ μ ta fun d μ1 => d = .ref C ∧ WPA K Y ρ μ1 t fun ds μ2 => s (.ref C :: ds) μ2 W noX) : WP K Y ρ μ (ClX.tCMeth C (spD K s) E ta t) W := fun T σ H M L N Q F =>
  h T σ H M L N _ fun T1 x H1 d μ1 ⟨e, w⟩ S1 M1 r1 => by
    subst e
    obtain rfl := r1.ref_inv
    exact ⟨rfl, w T1 σ H1 M1 (L.mono S1.grow) (N.go S1) _ fun T2 vs H2 ds μ2 w2 S2 M2 r2 => ⟨T2, μ2, _, W, noX, M2, .cons (.ref C) r2, w2, F.go (S1.trans S2) fun _ _ w => w, finX_no⟩⟩
end
end Ml

/-! Ml7: sorted(..) of data, any length. -/
namespace Ml
open PySem L2 PySem.W PyProof.Rows
def pyd (d : Dt) : PyData := d.py.getD .none
/-- the sorted list of data -/
def sortD (ds : List Dt) : List Dt := ds.mergeSort (dataLe false pyd)
structure Sorts (ds : List Dt) : Prop where
  py : ∀ d ∈ ds, d.py.isSome = true
  al : AllAlike (ds.map pyd)
  ok : Sortable (ds.map pyd)
  dp : ∀ d ∈ ds, (pyd d).depth ≤ 50
  len : ds.length ≤ 1000000
def rSortD (K : Frag) : List V → Hp → VK → Prop := fun vs H Q => ∃ (a : Addr) (xs : List V) (ds : List Dt) (P : V → Dt → Prop), vs = [V.ref a] ∧ SqL K H a xs ∧ Paired P xs ds ∧ (∀ x d, P x d → d.py.isSome = true → Dp K H x (pyd d)) ∧ Sorts ds ∧
  ∀ (ys : List V) (p : Addr), Paired P ys (sortD ds) → ys.length = xs.length → H p = none → Q (.ref p) (upd H p (.lst ys))
theorem paired_each {α β : Type} {R : α → β → Prop} : ∀ {as : List α} {bs : List β}, Paired R as bs → EachIs R as bs
  | _, _, .nil => .nil
  | _, _, .cons h t => .cons h (paired_each t)
theorem cr_sortedD {X : Cx} (hu : X.A.units + 64 < cLine) : CallR X (.builtin "sorted") (rSortD X.K) := by
  intro pins s σ H vs us Q I r h
  obtain ⟨a, xs, ds, P, rfl, hs, hP, hD, S, q⟩ := h
  obtain ⟨its, rv, hl, hz⟩ := I.list hs
  rw [Vals.ref1 r]
  have e1 : EachIs (fun (u : Value) (d : Dt) => ∃ x, RelV x u ∧ P x d) its ds := by
    clear hl hz hD q S hs r
    induction rv generalizing ds with
    | nil => cases hP; exact .nil
    | @cons x u xs us ru t ih =>
      cases hP with
      | @cons _ d _ ds hp hq => exact .cons ⟨x, ru, hp⟩ (ih ds hq)
  have e2 : EachIs (fun (u : Value) (d : Dt) => ∃ as, Reads s.heap u (pyd d) as) its ds := by
    have key : ∀ d ∈ ds, d.py.isSome = true := S.py
    clear hl hz q S hs rv hP
    induction e1 with
    | nil => exact .nil
    | @cons u d us ds hu t ih =>
      obtain ⟨x, ru, hp⟩ := hu
      exact .cons (Dp.reads I (pyd d) x u (hD x d hp (key d List.mem_cons_self)) ru) (ih fun d hd => key d (List.mem_cons_of_mem _ hd))
  refine sorted_data hl.isList e1 e2 S.al S.ok (Nat.le_trans S.len (by decide)) (fun d hd => by have := S.dp d hd; omega) fun out ho eo => ?_
  have key : ∃ ys, Vals ys out ∧ Paired P ys (sortD ds) := by
    clear q
    unfold sortD
    revert ho
    generalize ds.mergeSort (dataLe false pyd) = m at eo
    intro ho
    clear ho
    induction eo with
    | nil => exact ⟨[], .nil, .nil⟩
    | @cons u d us ms hu t ih =>
      obtain ⟨x, ru, hp⟩ := hu
      obtain ⟨ys, h1, h2⟩ := ih
      exact ⟨x :: ys, .cons ru h1, .cons hp h2⟩
  obtain ⟨ys, h1, h2⟩ := key
  obtain ⟨ep, he'⟩ := PyProof.Rows.sortedAll_at s.heap its out.toArray
  have hlen : ys.length = xs.length := by rw [h1.length, ho, ← Paired.length hP]
  exact ⟨.ref _, upd H (s.heap.objs.size + 1) (.lst ys), I.laid (t' := s.toks) (fun _ _ => PyProof.Rows.sortedAll_old) (Nat.le_succ _) ⟨by rw [hlen]; exact hz, out, ep, h1, he'⟩, rfl, q ys _ h2 hlen (I.hok.fresh (Nat.le_succ _))⟩
section
variable {K : Frag} {Y : Wish} {T T1 H H1 : Hp} {μ μ1 : Mem} {ρ : Ro} {σ : L2.St} {D : DE}
theorem reps_paired : ∀ {vs : List V} {ds : List Dt}, Reps K T vs ds → Paired (Rep K T) vs ds
  | _, _, .nil => .nil
  | _, _, .cons h r => .cons h (reps_paired r)
theorem paired_reps : ∀ {vs : List V} {ds : List Dt}, Paired (Rep K T) vs ds → Reps K T vs ds
  | _, _, .nil => .nil
  | _, _, .cons h r => .cons h (paired_reps r)
theorem rw_sorted {d : Dt} {ds : List Dt} {W : Dt → Mem → Prop} (h : IsLst μ d ds) (S : Sorts ds) (w : W (.lst (sortD ds)) μ) : RWL K μ (rSortD K) [d] W := fun T H xs M r Q F => by
  obtain ⟨v, us, rfl, r1, r2⟩ := r.cons_inv
  obtain rfl := r2.nil_inv
  obtain ⟨a, ys, rfl, ha, ra⟩ := h.at M r1
  refine ⟨a, ys, ds, Rep K T, rfl, SqL.of ha, reps_paired ra, fun x d r e => ?_, S, fun zs p hz _ hp => ?_⟩
  · obtain ⟨p, hp⟩ := Option.isSome_iff_exists.mp e
    have e2 : pyd d = p := by unfold pyd; rw [hp]; rfl
    rw [e2]
    exact r.dp M.sub hp
  · obtain ⟨M2, S2⟩ := M.lay (o := .lst zs) hp
    exact F _ _ _ _ μ w S2 M2 (.lst upd_same ((paired_reps hz).mono S2.grow))
/-- .. as a cell -/
theorem rw_sortedC {d : Dt} {ds : List Dt} {W : Dt → Mem → Prop} (h : IsLst μ d ds) (S : Sorts ds) (w : ∀ p, p ∉ dom μ → W (.ref p) ((p, .lst (sortD ds)) :: μ)) : RWL K μ (rSortD K) [d] W := fun T H xs M r Q F => by
  obtain ⟨v, us, rfl, r1, r2⟩ := r.cons_inv
  obtain rfl := r2.nil_inv
  obtain ⟨a, ys, rfl, ha, ra⟩ := h.at M r1
  refine ⟨a, ys, ds, Rep K T, rfl, SqL.of ha, reps_paired ra, fun x d r e => ?_, S, fun zs p hz _ hp => ?_⟩
  · obtain ⟨p, hp⟩ := Option.isSome_iff_exists.mp e
    have e2 : pyd d = p := by unfold pyd; rw [hp]; rfl
    rw [e2]
    exact r.dp M.sub hp
  · obtain ⟨M2, S2⟩ := M.cell (m := .lst (sortD ds)) (o := .lst zs) hp ⟨zs, upd_same, paired_reps hz⟩
    exact F _ _ _ _ _ (w p (M.notin hp)) S2 M2 (.ref p)
end
/-! ### the order in plain words -/
theorem sortD_map {α : Type} (enc : α → Dt) (le : α → α → Bool) {xs : List α} (h : ∀ a ∈ xs, ∀ b ∈ xs, le a b = dataLe false pyd (enc a) (enc b)) : sortD (xs.map enc) = (xs.mergeSort le).map enc := (sort_maps enc h).symm
theorem pyd_tup {ds : List Dt} {ps : List PyData} (h : Dt.pys ds = some ps) : pyd (.tup ds) = .tuple ps := by
  unfold pyd
  rw [Dt.py, h]
  rfl
theorem pys_ints : ∀ ns : List Int, Dt.pys (ns.map .int) = some (ns.map .int)
  | [] => rfl
  | n :: ns => by rw [List.map_cons, Dt.pys, Dt.py, pys_ints ns]; rfl
theorem sorts_ints (ns : List Int) (h : ns.length ≤ 1000000) : Sorts (ns.map .int) where
  py := fun d hd => by obtain ⟨n, _, rfl⟩ := List.mem_map.mp hd; rfl
  al := by rw [List.map_map]; exact AllAlike.of (enc := fun n => pyd (.int n)) fun _ _ => rfl
  ok := by rw [List.map_map]; exact Sortable.others (enc := fun n => pyd (.int n)) fun n => ⟨(fun z => by cases z), (fun xs z => by cases z)⟩
  dp := fun d hd => by obtain ⟨n, _, rfl⟩ := List.mem_map.mp hd; exact Nat.zero_le _
  len := by rw [List.length_map]; exact h
theorem dataLe_ints (a b : Int) : dataLe false pyd (.int a) (.int b) = decide (a ≤ b) := by
  have h := congrFun (congrFun (dataLe_int (β := Int) id) a) b
  exact h
theorem sortD_ints (ns : List Int) : sortD (ns.map .int) = (ns.mergeSort fun a b => decide (a ≤ b)).map .int := sortD_map _ _ fun a _ b _ => (dataLe_ints a b).symm
/-- tuples of ints -/
def tupI (ns : List Int) : Dt := .tup (ns.map .int)
theorem pyd_tupI (ns : List Int) : pyd (tupI ns) = .tuple (ns.map .int) := pyd_tup (pys_ints ns)
theorem depth_all_ints : ∀ ns : List Int, PyData.depthAll (ns.map .int) = 0 := PySem.W.depth_ints
theorem sorts_tups {α : Type} (f : α → List Int) (xs : List α) (h0 : ∀ x ∈ xs, f x ≠ []) (h : xs.length ≤ 1000000) : Sorts (xs.map fun x => tupI (f x)) where
  py := fun d hd => by
    obtain ⟨x, _, rfl⟩ := List.mem_map.mp hd
    show ((Dt.pys ((f x).map Dt.int)).map PyData.tuple).isSome = true
    rw [pys_ints]; rfl
  al := by
    intro d hd d' hd'
    obtain ⟨e, he, rfl⟩ := List.mem_map.mp hd
    obtain ⟨e', he', rfl⟩ := List.mem_map.mp hd'
    obtain ⟨x, _, rfl⟩ := List.mem_map.mp he
    obtain ⟨y, _, rfl⟩ := List.mem_map.mp he'
    rw [pyd_tupI, pyd_tupI, alike]
    exact alike_ints _ _
  ok := .inl fun d hd => by
    obtain ⟨e, he, rfl⟩ := List.mem_map.mp hd
    obtain ⟨x, hx, rfl⟩ := List.mem_map.mp he
    rw [pyd_tupI]
    cases q : f x with
    | nil => exact absurd q (h0 x hx)
    | cons n ns => exact ⟨_, _, rfl⟩
  dp := fun d hd => by
    obtain ⟨x, _, rfl⟩ := List.mem_map.mp hd
    rw [pyd_tupI, PyData.depth, depth_all_ints]
    decide
  len := by rw [List.length_map]; exact h
/-- lexicographic ≤ -/
def lexLe : List Int → List Int → Bool
  | [], _ => true
  | _ :: _, [] => false
  | a :: l, b :: m => if a = b then lexLe l m else decide (a < b)
theorem toks_lt : ∀ (l m : List Int), PyProof.Rows.lexLt itemOrd (keyToksAll (l.map .int)) (keyToksAll (m.map .int)) = !lexLe m l
  | [], [] => by decide
  | [], b :: m => by
    show PyProof.Rows.lexLt itemOrd [.inl 0] (.inl 1 :: _) = _
    rw [lex_atom (by decide)]
    show _ = !false
    rw [lex_one]
    decide
  | a :: l, [] => by
    show PyProof.Rows.lexLt itemOrd (.inl 1 :: _) [.inl 0] = _
    rw [lex_atom (by decide)]
    show _ = !true
    rw [lex_one]
    decide
  | a :: l, b :: m => by
    show PyProof.Rows.lexLt itemOrd (keyToksAll (.int a :: l.map .int)) (keyToksAll (.int b :: m.map .int)) = !lexLe (b :: m) (a :: l)
    by_cases e : a = b
    · subst e
      rw [dataLt_all_yes (by rfl) (by simp [PyData.eqv]), toks_lt l m]
      show _ = !(if a = a then lexLe m l else _)
      rw [if_pos rfl]
    · rw [dataLt_all_no (by rfl) (by simp [PyData.eqv, e]), dataLt_int]
      show _ = !(if b = a then _ else decide (b < a))
      rw [if_neg fun z => e z.symm]
      by_cases h : a < b
      · have h2 : ¬ b < a := by omega
        simp [h, h2]
      · have h2 : b < a := by omega
        simp [h, h2]
theorem dataLe_tupI (l m : List Int) : dataLe false pyd (tupI l) (tupI m) = lexLe l m := by
  rw [dataLe_eq]
  show (!dataLt (pyd (tupI m)) (pyd (tupI l))) = _
  rw [pyd_tupI, pyd_tupI, dataLt_tuple, toks_lt]
  simp
theorem sortD_tups {α : Type} (f : α → List Int) (xs : List α) : sortD (xs.map fun x => tupI (f x)) = (xs.mergeSort fun a b => lexLe (f a) (f b)).map fun x => tupI (f x) := sortD_map _ _ fun a _ b _ => (dataLe_tupI _ _).symm
end Ml

/-! Ml8: calls by name. -/
namespace Ml
open PySem L2 PySem.W PyProof.Rows
/-- parts by place -/
def gx {α : Type} (z : α) (idx : List Nat) (as bs : List α) : List α := idx.map fun i => (as ++ bs).getD i z
theorem rel_getD {R : V → Value → Prop} {z : V} {z' : Value} (hz : R z z') : ∀ {vs : List V} {us : List Value}, Paired R vs us → ∀ i, R (vs.getD i z) (us.getD i z')
  | _, _, .nil, i => by simpa using hz
  | _, _, .cons h t, 0 => by simpa using h
  | _, _, .cons h t, i + 1 => by simpa using rel_getD hz t i
theorem gx_vals {idx : List Nat} {vs zs : List V} {us ws : List Value} (h : Vals vs us) (g : Vals zs ws) : Vals (gx V.non idx vs zs) (gx Value.none idx us ws) := by
  unfold gx
  have hp := Paired.app h g
  induction idx with
  | nil => exact .nil
  | cons i idx ih => exact .cons (rel_getD (R := RelV) (show RelV V.non Value.none from rfl) hp i) ih
theorem kbn {K : Frag} {fd : FuncData} {ps : List Str} {n : Nat} {ks : List Str} (idx : List Nat) (h : ∀ (s : Shared) (us ws : List Value), us.length = n → ws.length = ks.length → BindsTo s fd { pos := us, kw := ks.zip ws } (ps.zip (gx Value.none idx us ws))) : KBn K fd ps n ks (gx Value.none idx) (gx V.non idx) :=
  ⟨fun s us ws _ h1 h2 => h s us ws h1 h2, fun h g => gx_vals h g⟩
section
variable {K : Frag} {T : Hp}
theorem reps_getD : ∀ {vs : List V} {ds : List Dt}, Reps K T vs ds → ∀ i, Rep K T (vs.getD i .non) (ds.getD i .non)
  | _, _, .nil, i => by simpa using .non
  | _, _, .cons h t, 0 => by simpa using h
  | _, _, .cons h t, i + 1 => by simpa using reps_getD t i
theorem gx_reps {idx : List Nat} {vs zs : List V} {ds es : List Dt} (h : Reps K T vs ds) (g : Reps K T zs es) : Reps K T (gx V.non idx vs zs) (gx Dt.non idx ds es) := by
  unfold gx
  have hp := h.append g
  induction idx with
  | nil => exact .nil
  | cons i idx ih => exact .cons (reps_getD hp i) ih
end
/-! ### f(k = ..), o.m(k = ..), C.m(k = ..) -/
theorem pe_callN0 {X : Cx} {CX : CXT} {k : Nat} {f : Addr} {fd : FuncData} {ps ks : List Str} {sp : Sp} {E : XK} {x : Str} {p pos : Pos} {kws : List Keyword} {tk : TA} {g : List Value → List Value → List Value} {gV : List V → List V → List V}
    (F : FnOk X.prog X.w X.K X.mg X.base CX k f fd ps sp) (hr : Room k X.A) (hg : Gl X x) (hm : X.mg x = some (.ref f)) (hk : keepIn X.K (.ref f) = true) (hb : KBn X.K fd ps 0 ks g gV) (hx : Passes CX X E) (hkw : PK X kws tk)
    (hall : ((backToKw pos (keywordEach kws X.env)).all fun x => x.fst.isSome) = true := by rfl) (hks : List.filterMap (fun x => x.fst) (backToKw pos (keywordEach kws X.env)) = ks := by rfl) (hdb : (x == Str.ofString "__debug__") = false := by rfl)
    (hpl : (((backTo pos (starEach [] X.env)).any fun x => x.fst) || (backToKw pos (keywordEach kws X.env)).any fun x => x.fst.isNone) = false := by rfl) : PE X ((Expr.Name x p).Call [] kws pos) (tCallN 0 ks.length sp gV E tNil tk) where
  run := fun pins s σ H Q I h => wpAny_Call_Name_kw (ld_glob I hg hm (callWith_KW0 I.ok.mod.kin hk hall (thn (hkw.run pos pins s σ H (fun zs H2 => ([] : List V).length = 0 ∧ zs.length = ks.length ∧ sp (gV [] zs) H2 Q E) I h)
    fun ws s2 ⟨zs, H2, I2, rz, l1, l2, q2⟩ => ⟨I2.kIn, by rw [hks]; exact run_fnN F hr hb hx I2 Paired.nil rz rfl l2 q2⟩) hpl) hdb)
def tMethN (C : Addr) (m : Str) (n j : Nat) (sp : Sp) (gV : List V → List V → List V) (E : XK) (ta : TE) (t tk : TA) : TE := fun σ H Q => ta σ H fun x H1 => ∃ a dx fs, x = .ref a ∧ H1 a = some (.ins C dx fs) ∧ fs.lookup m = none ∧ t σ H1 fun vs H2 => tk σ H2 fun zs H3 => vs.length = n ∧ zs.length = j ∧ sp (gV (x :: vs) zs) H3 Q E
theorem pe_methN0 {X : Cx} {CX : CXT} {k : Nat} {f C : Addr} {fd : FuncData} {ps ks : List Str} {sp : Sp} {E : XK} {m : Str} {pos apos : Pos} {o : Expr} {kws : List Keyword} {ta : TE} {tk : TA} {g : List Value → List Value → List Value} {gV : List V → List V → List V} {pl : Sem Bool}
    (he : PE X o ta) (c : Cls X.K C) (hm : Meth X.K C m f) (F : FnOk X.prog X.w X.K X.mg X.base CX k f fd ps sp) (hr : Room k X.A) (hb : KBn X.K fd ps 1 ks g gV) (hx : Passes CX X E) (hkw : PK X kws tk)
    (hall : ((backToKw pos (keywordEach kws X.env)).all fun x => x.fst.isSome) = true := by rfl) (hks : List.filterMap (fun x => x.fst) (backToKw pos (keywordEach kws X.env)) = ks := by rfl)
    (hpl : (((backTo pos (starEach [] X.env)).any fun x => x.fst) || (backToKw pos (keywordEach kws X.env)).any fun x => x.fst.isNone) = false := by rfl)
    (ht : eval ((o.Attribute m apos).Call [] kws pos) X.env = (do let ov ← eval o X.env; standAt apos.atName; let (f, first) ← holding [ov] (getMethod ov m pl); callWith pos f first (backTo pos (starEach [] X.env)) (backToKw pos (keywordEach kws X.env))) := by rfl) :
    PE X ((o.Attribute m apos).Call [] kws pos) (tMethN C m 0 ks.length sp gV E ta tNil tk) where
  run := fun pins s σ H Q I h => methodCall_KW (thn (he.run pins s σ H _ I h) fun u s1 ⟨x, H1, I1, rx, a, dx, fs, ex, ea, l, q⟩ => by
    subst ex
    cases rx
    refine getmeth_ok I1 ea c hm l (callWith_KW0 I1.ok.mod.kin hm.kp hall (thn (hkw.run pos pins s1 σ H1 (fun zs H3 => ([] : List V).length = 0 ∧ zs.length = ks.length ∧ sp (gV [V.ref a] zs) H3 Q E) I1 q) fun ws s2 ⟨zs, H2, I2, rz, l1, l2, q2⟩ => ⟨I2.kIn, ?_⟩) hpl)
    rw [hks]
    exact run_fnN F hr hb hx I2 (Paired.cons (show RelV (V.ref a) (Value.ref a) from rfl) Paired.nil) rz rfl l2 q2) ht
theorem pe_methN {X : Cx} {CX : CXT} {k n : Nat} {f C : Addr} {fd : FuncData} {ps ks : List Str} {sp : Sp} {E : XK} {m : Str} {pos apos : Pos} {o e : Expr} {es : List Expr} {kws : List Keyword} {ta : TE} {t tk : TA} {g : List Value → List Value → List Value} {gV : List V → List V → List V} {pl : Sem Bool}
    (he : PE X o ta) (c : Cls X.K C) (hm : Meth X.K C m f) (F : FnOk X.prog X.w X.K X.mg X.base CX k f fd ps sp) (hr : Room k X.A) (hb : KBn X.K fd ps (n + 1) ks g gV) (hx : Passes CX X E) (ha : PA X (e :: es) t) (hkw : PK X kws tk)
    (hall : ((backToKw pos (keywordEach kws X.env)).all fun x => x.fst.isSome) = true := by rfl) (hks : List.filterMap (fun x => x.fst) (backToKw pos (keywordEach kws X.env)) = ks := by rfl)
    (hst : starEach (e :: es) X.env = (false, eval e X.env) :: starEach es X.env := by rfl)
    (hpl : (((backTo pos (starEach (e :: es) X.env)).any fun x => x.fst) || (backToKw pos (keywordEach kws X.env)).any fun x => x.fst.isNone) = false := by rfl)
    (ht : eval ((o.Attribute m apos).Call (e :: es) kws pos) X.env = (do let ov ← eval o X.env; standAt apos.atName; let (f, first) ← holding [ov] (getMethod ov m pl); callWith pos f first (backTo pos (starEach (e :: es) X.env)) (backToKw pos (keywordEach kws X.env))) := by rfl) :
    PE X ((o.Attribute m apos).Call (e :: es) kws pos) (tMethN C m n ks.length sp gV E ta t tk) where
  run := fun pins s σ H Q I h => methodCall_KW (thn (he.run pins s σ H _ I h) fun u s1 ⟨x, H1, I1, rx, a, dx, fs, ex, ea, l, q⟩ => by
    subst ex
    cases rx
    refine getmeth_ok I1 ea c hm l (callWith_KW I1.ok.mod.kin hm.kp hall (thn (ha.run pos pins s1 σ H1 (fun vs H2 => tk σ H2 fun zs H3 => vs.length = n ∧ zs.length = ks.length ∧ sp (gV (V.ref a :: vs) zs) H3 Q E) I1 q) fun us s2 ⟨vs, H2, I2, r, q1⟩ => thn (hkw.run pos pins s2 σ H2 (fun zs H3 => vs.length = n ∧ zs.length = ks.length ∧ sp (gV (V.ref a :: vs) zs) H3 Q E) I2 q1) fun ws s3 ⟨zs, H3, I3, rz, l1, l2, q2⟩ => ⟨I3.kIn, ?_⟩) hpl hst)
    rw [hks]
    exact run_fnN F hr hb hx I3 (Paired.cons (show RelV (V.ref a) (Value.ref a) from rfl) r) rz (by rw [List.length_cons, l1]) l2 q2) ht
def tCMethN (C : Addr) (j : Nat) (sp : Sp) (gV : List V → List V → List V) (E : XK) (ta : TE) (tk : TA) : TE := fun σ H Q => ta σ H fun x H1 => x = V.ref C ∧ tk σ H1 fun zs H2 => zs.length = j ∧ sp (gV [V.ref C] zs) H2 Q E
theorem pe_cmethN0 {X : Cx} {CX : CXT} {k : Nat} {C p g : Addr} {mc : Value} {fd : FuncData} {ps ks : List Str} {sp : Sp} {E : XK} {m : Str} {pos apos : Pos} {o : Expr} {kws : List Keyword} {ta : TE} {tk : TA} {gg : List Value → List Value → List Value} {gV : List V → List V → List V} {pl : Sem Bool}
    (he : PE X o ta) (r : ClX.CRead X.K C mc) (c : ClX.CMet X.K C mc m p g) (F : FnOk X.prog X.w X.K X.mg X.base CX k g fd ps sp) (hr : Room k X.A) (hb : KBn X.K fd ps 1 ks gg gV) (hx : Passes CX X E) (hkw : PK X kws tk)
    (hall : ((backToKw pos (keywordEach kws X.env)).all fun x => x.fst.isSome) = true := by rfl) (hks : List.filterMap (fun x => x.fst) (backToKw pos (keywordEach kws X.env)) = ks := by rfl)
    (hpl : (((backTo pos (starEach [] X.env)).any fun x => x.fst) || (backToKw pos (keywordEach kws X.env)).any fun x => x.fst.isNone) = false := by rfl)
    (ht : eval ((o.Attribute m apos).Call [] kws pos) X.env = (do let ov ← eval o X.env; standAt apos.atName; let (f, first) ← holding [ov] (getMethod ov m pl); callWith pos f first (backTo pos (starEach [] X.env)) (backToKw pos (keywordEach kws X.env))) := by rfl) :
    PE X ((o.Attribute m apos).Call [] kws pos) (tCMethN C ks.length sp gV E ta tk) where
  run := fun pins s σ H Q I h => methodCall_KW (thn (he.run pins s σ H _ I h) fun u s1 ⟨x, H1, I1, rx, ex, q⟩ => by
    subst ex
    cases rx
    refine ClX.getmethcm_ok I1 r c fun s2 I2 => callWith_of hpl (keeps_M c.fi) (PyProof.Rows.evalArgs_kw2_nil hall (thn (hkw.run pos _ s2 σ H1 (fun zs H2 => zs.length = ks.length ∧ sp (gV [V.ref C] zs) H2 Q E) I2 q) fun ws s3 ⟨zs, H3, I3, rz, l2, q2⟩ => ⟨⟨ClX.pin_at I3, I3.kIn⟩, ?_⟩))
    have r2 := hb.rel (Paired.cons (show RelV (V.ref C) (Value.ref C) from rfl) Paired.nil) rz
    rw [hks]
    show wpAny _ _ (call (Value.ref s1.heap.objs.size) [] (ks.zip ws)) _ _ _
    refine thn (Q := EP X ((s1.heap.objs.size, methodObj (Value.ref g) (Value.ref C)) :: pins) σ Q) (wpAny_call (method_call (ClX.pin_at I3) (codeAny_mono (F.run X.A X.stack s3 H3 { pos := [Value.ref C], kw := ks.zip ws } (gg [Value.ref C] ws) (gV [V.ref C] zs) Q E hr (Inv.env0 I3) (hb.to s3 [Value.ref C] ws I3.kIn rfl (by rw [← rz.length]; exact l2)) r2 q2) fun r s' hq => ?_))) fun x x1 y => ClX.unpinE y
    cases r with
    | error e => exact hx _ σ H3 s3 e s' I3 hq
    | ok f => cases f with
      | ret u => exact Inv.after I3 hq
      | _ => exact hq.elim) ht
section
variable {K : Frag} {Y : Wish} {T T1 H H1 : Hp} {μ μ1 : Mem} {ρ : Ro} {σ : L2.St} {D : DE}
theorem wp_callN {s : DSp} {E : XK} {n j : Nat} {idx : List Nat} {t tk : TA} {W : Dt → Mem → Prop} (h : WPA K Y ρ μ t fun ds μ1 => WPA K Y ρ μ1 tk fun es μ2 => ds.length = n ∧ es.length = j ∧ s (gx Dt.non idx ds es) μ2 W noX) : WP K Y ρ μ (tCallN n j (spD K s) (gx V.non idx) E t tk) W := fun T σ H M L N Q F =>
  h T σ H M L N _ fun T1 xs H1 ds μ1 w1 S1 M1 r1 => w1 T1 σ H1 M1 (L.mono S1.grow) (N.go S1) _ fun T2 ys H2 es μ2 ⟨l1, l2, w⟩ S2 M2 r2 => ⟨r1.length.trans l1, r2.length.trans l2, T2, μ2, _, W, noX, M2, gx_reps (r1.mono S2.grow) r2, w, F.go (S1.trans S2) fun _ _ w => w, finX_no⟩
theorem wp_methN {C : Addr} {m : Str} {s : DSp} {E : XK} {n j : Nat} {idx : List Nat} {ta : TE} {t tk : TA} {W : Dt → Mem → Prop} (h : WP K Y ρ μ ta fun d μ1 => ∃ (c : Nat) (a : Addr) (fs : List (Str × Dt)), d = .ref a ∧ μ1[c]? = some (a, .ins C fs) ∧ fs.lookup m = none ∧ WPA K Y ρ μ1 t fun ds μ2 => WPA K Y ρ μ2 tk fun es μ3 => ds.length = n ∧ es.length = j ∧ s (gx Dt.non idx (.ref a :: ds) es) μ3 W noX) :
    WP K Y ρ μ (tMethN C m n j (spD K s) (gx V.non idx) E ta t tk) W := fun T σ H M L N Q F =>
  h T σ H M L N _ fun T1 x H1 d μ1 ⟨c, a, fs, e, hc, hl, w⟩ S1 M1 r1 => by
    subst e
    obtain rfl := r1.ref_inv
    obtain ⟨dx, us, h1, h2⟩ := M1.get hc
    exact ⟨a, dx, us, rfl, h1, (lookup_prep h2 m).1 hl, w T1 σ H1 M1 (L.mono S1.grow) (N.go S1) _ fun T2 xs H2 ds μ2 w2 S2 M2 r2 => w2 T2 σ H2 M2 (L.mono (S1.trans S2).grow) (N.go (S1.trans S2)) _ fun T3 ys H3 es μ3 ⟨l1, l2, w3⟩ S3 M3 r3 => ⟨r2.length.trans l1, r3.length.trans l2, T3, μ3, _, W, noX, M3, gx_reps (.cons (.ref a) (r2.mono S3.grow)) r3, w3, F.go ((S1.trans S2).trans S3) fun _ _ w => w, finX_no⟩⟩
theorem wp_cmethN {C : Addr} {s : DSp} {E : XK} {j : Nat} {idx : List Nat} {ta : TE} {tk : TA} {W : Dt → Mem → Prop} (h : WP K Y ρ μ ta fun d μ1 => d = .ref C ∧ WPA K Y ρ μ1 tk fun es μ2 => es.length = j ∧ s (gx Dt.non idx [.ref C] es) μ2 W noX) : WP K Y ρ μ (tCMethN C j (spD K s) (gx V.non idx) E ta tk) W := fun T σ H M L N Q F =>
  h T σ H M L N _ fun T1 x H1 d μ1 ⟨e, w⟩ S1 M1 r1 => by
    subst e
    obtain rfl := r1.ref_inv
    exact ⟨rfl, w T1 σ H1 M1 (L.mono S1.grow) (N.go S1) _ fun T2 ys H2 es μ2 ⟨l2, w2⟩ S2 M2 r2 => ⟨r2.length.trans l2, T2, μ2, _, W, noX, M2, gx_reps (.cons (.ref C) .nil) r2, w2, F.go (S1.trans S2) fun _ _ w => w, finX_no⟩⟩
end
end Ml

/-! Ml9: what is read off the heap behind the head: facts and defs by paths. -/
namespace Ml
open PySem L2 PySem.W PySem.Calls PyProof.Rows
abbrev gA (x : Str) (K : Frag) : Addr := He.ga K x
abbrev mA (C m : Str) (K : Frag) : Addr := He.ma K (He.ga K C) m
def recA (K : Frag) (p : Addr) (t : String) : Addr := match recIn K p t with
  | some (.ref g :: _) => g
  | _ => 0
abbrev pA (C m : Str) (K : Frag) : Addr := recA K (mA C m K) "property"
abbrev cA (C m : Str) (K : Frag) : Addr := recA K (mA C m K) "classmethod"
structure DefP where
  at_ : Frag → Addr
  name : Str
  qual : Str
  st : Stmt
  dfl : List He.Dv := []
def DefP.dvs (K : Frag) (d : DefP) : List V := d.dfl.map (He.Dv.v K)
def DefP.look (K : Frag) (d : DefP) : He.FnW := match K.lookup (d.at_ K) with
  | some ⟨_, _, .func fd, _⟩ => some (fd.name, fd.qualname, fd.params, fd.body, fd.scope, fd.globals, fd.closure, fd.builtins)
  | _ => none
def DefP.val (d : DefP) : He.FnW := some (d.name, d.qual, defArgs d.st, FuncBody.stmts (defBody d.st), defScope d.st, mainGlobals, [], builtinsNs)
def DefP.ok (K : Frag) (d : DefP) : Bool := keepIn K (.ref (d.at_ K)) && match K.lookup (d.at_ K) with
  | some ⟨_, _, .func fd, _⟩ => codeIn K fd.code d.qual && He.dflB K fd.defaults (d.dvs K)
  | _ => false
def fdOf (K : Frag) (a : Addr) : FuncData := match K.lookup a with
  | some ⟨_, _, .func fd, _⟩ => fd
  | _ => fnOf "" "" { posonlyargs := [], args := [], vararg := none, kwonlyargs := [], kw_defaults := [], kwarg := none, defaults := [] } [] { kind := .function, names := [], isGenerator := false, isCoroutine := false, more := [] } .none .none .none .none none .none .none
theorem DefP.funD {K : Frag} {d : DefP} (e : d.look K = d.val) (c : d.ok K = true) : FunD K d.name d.qual (defArgs d.st) (defBody d.st) (defScope d.st) (d.dvs K) [] (d.at_ K) (fdOf K (d.at_ K)) := by
  unfold DefP.look DefP.val at e
  unfold DefP.ok at c
  obtain ⟨c1, c2⟩ := He.ba c
  unfold fdOf
  cases q : List.lookup (d.at_ K) K with
  | none => rw [q] at e; cases e
  | some o =>
    rw [q] at e c2
    obtain ⟨oc, od, dt, osl⟩ := o
    cases dt with
    | func fd =>
      obtain ⟨n1, n2, n3, n4, n5, n6, n7, n8, n9, n10, n11, n12, n13, n14, n15⟩ := fd
      simp only [Option.some.injEq, Prod.mk.injEq] at e
      obtain ⟨rfl, rfl, rfl, rfl, rfl, rfl, rfl, rfl⟩ := e
      obtain ⟨c3, c4⟩ := He.ba c2
      exact ⟨⟨_, _, _, _, _, _, _, _, _, _, rfl, q, c3, He.dflB_ok c4, .inl rfl⟩, c1⟩
    | _ => cases e
inductive Fc where
  | he (f : He.Fa)
  | prop (C f : Str)
  | cmet (C m : Str)
  | con (C f : Str) (i : Int)
  | kcls (C : Str)
  | exc0 (C : Str)
  | exc1 (C f : Str)
  | isi (C : Str)
  | xf (C : Str)
  /-- things of the built-in type t are none of C -/
  | frn (t : String) (C : Str)
  /-- != of C is the built-in one -/
  | nes (C : Str)
def excObj (c : Addr) : Option Obj → Bool
  | some ⟨.type t, _, .cls cd, sl⟩ => decide (t = "type") && (match cd.mro, sl.toList with
    | .ref C' :: bm, [_, _, _, _, some (.builtin n), _] => decide (C' = c) && (decide (n = "ValueError.__new__") && (!cd.hasDel && (cd.hasDict && HandSPX.refsVE bm)))
    | _, _ => false)
  | _ => false
def Fc.ok (K : Frag) : Fc → Bool
  | .he f => f.ok K
  | .prop C f => He.eqO (findIn K (.ref (gA C K)) f) (some (some (.ref (mA C f K)))) && (He.eqO (specialIn K (.ref (mA C f K)) "__get__") (some (some (.builtin "property.__get__"))) && (decide (takesIn K (.ref (mA C f K)) = some true) && match recIn K (mA C f K) "property" with | some (.ref _ :: _) => true | _ => false))
  | .cmet C m => (readsIn K (gA C K) (.type "type") && He.eqO (specialIn K (.ref (gA C K)) "__getattribute__") (some (some (.builtin "type.__getattribute__")))) && ((match findCls K (.ref (gA C K)) (.type "type") m with | some (.get a b c d) => decide (a = .builtin "classmethod.__get__") && (decide (b = .ref (mA C m K)) && (decide (c = .none) && decide (d = .ref (gA C K)))) | _ => false) && ((match recIn K (mA C m K) "classmethod" with | some (.ref _ :: _) => true | _ => false) && fnIn K (cA C m K)))
  | .con C f i => (match findIn K (.ref (gA C K)) f with | some (some (.int j t)) => decide (j = i) && He.eqO (specialIn K (.int j t) "__get__") (some none) | _ => false) && !copiedNames.contains f
  | .kcls C => keepIn K (.ref (gA C K))
  | .exc0 C => decide (typeIn K (.ref (gA C K)) = some (.type "type")) && (readsIn K (gA C K) (.type "type") && (He.eqO (specialIn K (.ref (gA C K)) "__getattribute__") (some (some (.builtin "type.__getattribute__"))) && (match findCls K (.ref (gA C K)) (.type "type") "__init__" with | some (.val a) => decide (a = .builtin "ValueError.__init__") | _ => false)))
  | .exc1 C f => excObj (gA C K) (K.lookup (gA C K)) && ((He.eqO (findIn K (.ref (gA C K)) "__setattr__") (some (some (.builtin "object.__setattr__"))) && (decide (subIn K (.ref (gA C K)) (.type "BaseException") = some true) && (decide (typeIn K (.ref (gA C K)) = some (.type "type")) && keepIn K (.ref (gA C K))))) && (He.eqO (findIn K (.ref (gA C K)) "__init__") (some (some (.ref (mA C "__init__" K)))) && (decide (typeIn K (.ref (mA C "__init__" K)) = some (.type "function")) && He.eqO (findIn K (.ref (gA C K)) f) (some none))))
  | .xf C => He.eqO (findIn K (.ref (gA C K)) "__getattribute__") (some (some (.builtin "BaseException.__getattribute__"))) && (He.eqO (findIn K (.ref (gA C K)) "__getattr__") (some none) && (decide (subIn K (.ref (gA C K)) (.type "BaseException") = some true) && hasDictIn K (gA C K)))
  | .frn t C => decide (kitOne K (.type t) (.ref (gA C K)) = some false) && decide (subIn K (.type t) (.ref (gA C K)) = some false)
  | .nes C => He.eqO (findIn K (.ref (gA C K)) "__ne__") (some (some (.builtin "object.__ne__"))) && decide (mroIn K (gA C K) (.type "object") = some true)
  | .isi C => (He.Fa.cls C).ok K && (He.eqO (findIn K (.ref (gA C K)) "__class__") (some (some (.builtin "object.__class__"))) && (He.eqO (specialIn K (.builtin "object.__class__") "__get__") (some (some (.builtin "getset_descriptor.__get__"))) && (decide (takesIn K (.builtin "object.__class__") = some true) && decide (mroIn K (gA C K) (.type "object") = some true))))
def obsP (fa : List Fc) (fn : List DefP) (K : Frag) : He.AlD := ((fa.all fun f => f.ok K) && fn.all fun d => d.ok K, fn.map fun d => d.look K)
def valP (fn : List DefP) : He.AlD := (true, fn.map DefP.val)
theorem valP_mk (fn : List DefP) : valP fn = (true, fn.map DefP.val) := rfl
def hookP (n : Nat) (fa : List Fc) (fn : List DefP) : PySem.W.Hook where
  α := He.AlD
  obs := fun s => obsP fa fn (He.frG s.heap.get? (cStatics :: He.asD s.heap.get? n))
  val := fun _ => valP fn
  says := fun _ h => ∃ K : Frag, K.In h ∧ obsP fa fn K = valP fn
  of := fun w s e => ⟨_, He.frG_in, e⟩
  keeps := fun w h h' ⟨K, i, e⟩ k => ⟨K, fun a o q => k a o (i a o q), e⟩
def obP (n : Nat) (fa : List Fc) (fn : List DefP) (s : PySem.W.SharedT) : He.AlD := obsP fa fn (He.frG (HandSHeadRun.getT s) (cStatics :: He.asD (HandSHeadRun.getT s) n))
theorem obP_eq {n : Nat} {fa : List Fc} {fn : List DefP} (s : PySem.W.SharedT) : obP n fa fn s = (hookP n fa fn).obs s.abs := by
  have e : HandSHeadRun.getT s = s.abs.heap.get? := funext (HandSHeadRun.getT_eq s)
  show obsP fa fn (He.frG (HandSHeadRun.getT s) (cStatics :: He.asD (HandSHeadRun.getT s) n)) = _
  rw [e]
  rfl
/-- the world of a law: what the facts say, and the module's names -/
structure Good (fa : List Fc) (fn : List DefP) (K : Frag) (mg : Str → Option Value) : Prop where
  ob : obsP fa fn K = valP fn
  ex : ∃ h : Heap, K.In h ∧ h.Ns mainGlobals mg
section
variable {fa : List Fc} {fn : List DefP} {K : Frag} {mg : Str → Option Value}
theorem Good.fc (G : Good fa fn K mg) (i : Nat) {f : Fc} (h : fa[i]? = some f) : f.ok K = true := by
  have e : (fa.all fun f => f.ok K) = true := (He.ba (show (_ && _) = true from congrArg (·.1) G.ob)).1
  exact List.all_eq_true.mp e f (List.mem_of_getElem? h)
theorem Good.def_ (G : Good fa fn K mg) (i : Nat) {d : DefP} (h : fn[i]? = some d) : FunD K d.name d.qual (defArgs d.st) (defBody d.st) (defScope d.st) (d.dvs K) [] (d.at_ K) (fdOf K (d.at_ K)) := by
  have e : (fn.all fun d => d.ok K) = true := (He.ba (show (_ && _) = true from congrArg (·.1) G.ob)).2
  have e2 : fn.map (fun d => d.look K) = fn.map DefP.val := congrArg (·.2) G.ob
  have e3 : (fn.map (fun d => d.look K))[i]? = (fn.map DefP.val)[i]? := by rw [e2]
  rw [List.getElem?_map, List.getElem?_map, h] at e3
  exact DefP.funD (Option.some.inj e3) (List.all_eq_true.mp e d (List.mem_of_getElem? h))
theorem Good.glo (G : Good fa fn K mg) (i : Nat) {x : Str} (h : fa[i]? = some (.he (.glo x))) : mg x = some (.ref (gA x K)) := by
  obtain ⟨hp, h1, h2⟩ := G.ex
  exact mg_of h1 h2 (of_decide_eq_true (show decide _ = true from G.fc i h))
theorem Good.free (G : Good fa fn K mg) (i : Nat) {x : Str} (h : fa[i]? = some (.he (.free x))) : mg x = none := by
  obtain ⟨hp, h1, h2⟩ := G.ex
  exact mg_none_of h1 h2 (of_decide_eq_true (show decide _ = true from G.fc i h))
theorem Good.int (G : Good fa fn K mg) (i : Nat) {x : Str} {n : Int} (h : fa[i]? = some (.he (.int x n))) : ∃ t, mg x = some (.int n t) := by
  obtain ⟨hp, h1, h2⟩ := G.ex
  have e : (match nsIn K mainGlobals x with
    | some (some (Value.int j tok)) => decide (j = n)
    | _ => false) = true := G.fc i h
  split at e
  · rename_i j t q
    have e := of_decide_eq_true e
    subst e
    exact ⟨t, mg_of h1 h2 q⟩
  · cases e
theorem Good.cls (G : Good fa fn K mg) (i : Nat) {x : Str} (h : fa[i]? = some (.he (.cls x))) : Cls K (gA x K) := by
  obtain ⟨c1, c2⟩ := He.ba (show (_ && _) = true from G.fc i h)
  obtain ⟨c2, c3⟩ := He.ba c2
  obtain ⟨c3, c4⟩ := He.ba c3
  exact ⟨c1, c2, c3, of_decide_eq_true (show decide _ = true from c4)⟩
theorem Good.noat (G : Good fa fn K mg) (i : Nat) {x f : Str} (h : fa[i]? = some (.he (.noat x f))) : NoAttr K (gA x K) f := of_decide_eq_true (p := findIn K (.ref (gA x K)) f = some none) (show decide _ = true from G.fc i h)
theorem Good.meth (G : Good fa fn K mg) (i : Nat) {x m : Str} (h : fa[i]? = some (.he (.meth x m))) : Meth K (gA x K) m (mA x m K) := by
  obtain ⟨c1, c2⟩ := He.ba (show (_ && _) = true from G.fc i h)
  obtain ⟨c2, c3⟩ := He.ba c2
  exact ⟨of_decide_eq_true (show decide _ = true from c1), c2, c3⟩
theorem Good.mkr (G : Good fa fn K mg) (i : Nat) {x : Str} (h : fa[i]? = some (.he (.mkr x))) : Mk K (gA x K) (mA x "__init__" K) := by
  obtain ⟨c1, c2⟩ := He.ba (show (_ && _) = true from G.fc i h)
  obtain ⟨c2, c3⟩ := He.ba c2
  obtain ⟨c3, c4⟩ := He.ba c3
  exact ⟨c1, of_decide_eq_true (show decide _ = true from c2), c3, c4⟩
theorem recA_of {p : Addr} {t : String} (h : (match recIn K p t with | some (.ref _ :: _) => true | _ => false) = true) : ∃ rest, recIn K p t = some (.ref (recA K p t) :: rest) := by
  unfold recA
  split at h
  · rename_i a rest q
    exact ⟨rest, by rw [q]⟩
  · cases h
theorem Good.prop (G : Good fa fn K mg) (i : Nat) {C f : Str} (h : fa[i]? = some (.prop C f)) : PropOf K (gA C K) f (mA C f K) (pA C f K) := by
  obtain ⟨c1, c2⟩ := He.ba (show (_ && _) = true from G.fc i h)
  obtain ⟨c2, c3⟩ := He.ba c2
  obtain ⟨c3, c4⟩ := He.ba c3
  exact ⟨of_decide_eq_true (show decide _ = true from c1), of_decide_eq_true (show decide _ = true from c2), of_decide_eq_true (show decide _ = true from c3), recA_of c4⟩
theorem Good.cmet (G : Good fa fn K mg) (i : Nat) {C m : Str} (h : fa[i]? = some (.cmet C m)) : ClX.CRead K (gA C K) (.type "type") ∧ ClX.CMet K (gA C K) (.type "type") m (mA C m K) (cA C m K) := by
  obtain ⟨c1, c2⟩ := He.ba (show (_ && _) = true from G.fc i h)
  obtain ⟨d1, d2⟩ := He.ba c1
  obtain ⟨c2, c3⟩ := He.ba c2
  obtain ⟨c3, c4⟩ := He.ba c3
  refine ⟨⟨d1, of_decide_eq_true (show decide _ = true from d2)⟩, ?_, recA_of c3, c4⟩
  split at c2
  · rename_i a b c d q
    obtain ⟨e1, e2⟩ := He.ba c2
    obtain ⟨e2, e3⟩ := He.ba e2
    obtain ⟨e3, e4⟩ := He.ba e3
    rw [q, of_decide_eq_true e1, of_decide_eq_true e2, of_decide_eq_true e3, of_decide_eq_true e4]
  · cases c2
theorem Good.con (G : Good fa fn K mg) (i : Nat) {C f : Str} {n : Int} (h : fa[i]? = some (.con C f n)) : ∃ t, Con K (gA C K) f (.int n) (.int n t) := by
  obtain ⟨c1, c2⟩ := He.ba (show (_ && _) = true from G.fc i h)
  split at c1
  · rename_i j t q
    obtain ⟨e1, e2⟩ := He.ba c1
    have e1 := of_decide_eq_true e1
    subst e1
    exact ⟨t, q, ⟨t, rfl⟩, of_decide_eq_true (show decide _ = true from e2), by simpa using c2⟩
  · cases c1
theorem Good.kcls (G : Good fa fn K mg) (i : Nat) {C : Str} (h : fa[i]? = some (.kcls C)) : keepIn K (.ref (gA C K)) = true := G.fc i h
theorem excObj_of {c : Addr} {o : Option Obj} (h : excObj c o = true) : ∃ nm q N bs bm sn sub ab col dd k0 k1 k2 k3 k5, o = some (excClassObj nm q c N bs bm true sn sub ab col dd k0 k1 k2 k3 k5 "ValueError.__new__") ∧ HandSPX.refsVE bm = true := by
  unfold excObj at h
  split at h
  · rename_i t dd cd sl
    obtain ⟨h0, h⟩ := He.ba h
    have h0 := of_decide_eq_true h0
    subst h0
    split at h
    · rename_i C' bm k0 k1 k2 k3 n k5 e1 e2
      obtain ⟨_, h⟩ := He.ba h
      obtain ⟨h1, h⟩ := He.ba h
      obtain ⟨h2, h⟩ := He.ba h
      obtain ⟨h3, h⟩ := He.ba h
      obtain ⟨h4, h5⟩ := He.ba h
      have h1 := of_decide_eq_true h1
      have h2 := of_decide_eq_true h2
      subst h1 h2
      obtain ⟨nm, bs, mro, ns, q, hd, sn, sub, ab, col, hdel⟩ := cd
      simp only at e1 h3 h4
      subst e1
      cases hd with
      | false => cases h4
      | true => cases hdel with
        | true => cases h3
        | false =>
          have e3 : sl = #[k0, k1, k2, k3, some (Value.builtin "ValueError.__new__"), k5] := by
            cases sl with
            | mk l => simp only at e2; rw [e2]
          exact ⟨nm, q, ns, bs, bm, sn, sub, ab, col, dd, k0, k1, k2, k3, k5, by rw [e3], h5⟩
    · cases h
  · cases h
end
end Ml

/-! Ml10: promises by number of arguments, fields, stars, powers. -/
namespace Ml
open PySem L2 PySem.W PySem.Calls PyProof.Rows
abbrev Post := Mem → (Dt → Mem → Prop) → (Addr → List (Str × Dt) → Mem → Prop) → Prop
def sp0 (q : Post) : DSp := fun ds μ W X => ds = [] ∧ q μ W X
def sp1 (q : Dt → Post) : DSp := fun ds μ W X => ∃ a, ds = [a] ∧ q a μ W X
def sp2 (q : Dt → Dt → Post) : DSp := fun ds μ W X => ∃ a b, ds = [a, b] ∧ q a b μ W X
def sp3 (q : Dt → Dt → Dt → Post) : DSp := fun ds μ W X => ∃ a b c, ds = [a, b, c] ∧ q a b c μ W X
def sp4 (q : Dt → Dt → Dt → Dt → Post) : DSp := fun ds μ W X => ∃ a b c d, ds = [a, b, c, d] ∧ q a b c d μ W X
def sp5 (q : Dt → Dt → Dt → Dt → Dt → Post) : DSp := fun ds μ W X => ∃ a b c d e, ds = [a, b, c, d, e] ∧ q a b c d e μ W X
def sp6 (q : Dt → Dt → Dt → Dt → Dt → Dt → Post) : DSp := fun ds μ W X => ∃ a b c d e f, ds = [a, b, c, d, e, f] ∧ q a b c d e f μ W X
theorem len0 {q : Post} : ∀ ds μ W X, sp0 q ds μ W X → ds.length = 0 := fun _ _ _ _ ⟨h, _⟩ => by rw [h]; rfl
theorem len1 {q : Dt → Post} : ∀ ds μ W X, sp1 q ds μ W X → ds.length = 1 := fun _ _ _ _ ⟨a, h, _⟩ => by rw [h]; rfl
theorem len2 {q : Dt → Dt → Post} : ∀ ds μ W X, sp2 q ds μ W X → ds.length = 2 := fun _ _ _ _ ⟨a, b, h, _⟩ => by rw [h]; rfl
theorem len3 {q : Dt → Dt → Dt → Post} : ∀ ds μ W X, sp3 q ds μ W X → ds.length = 3 := fun _ _ _ _ ⟨a, b, c, h, _⟩ => by rw [h]; rfl
theorem len4 {q : Dt → Dt → Dt → Dt → Post} : ∀ ds μ W X, sp4 q ds μ W X → ds.length = 4 := fun _ _ _ _ ⟨a, b, c, d, h, _⟩ => by rw [h]; rfl
theorem len5 {q : Dt → Dt → Dt → Dt → Dt → Post} : ∀ ds μ W X, sp5 q ds μ W X → ds.length = 5 := fun _ _ _ _ ⟨a, b, c, d, e, h, _⟩ => by rw [h]; rfl
theorem len6 {q : Dt → Dt → Dt → Dt → Dt → Dt → Post} : ∀ ds μ W X, sp6 q ds μ W X → ds.length = 6 := fun _ _ _ _ ⟨a, b, c, d, e, f, h, _⟩ => by rw [h]; rfl
def Dt.isN : Dt → Bool
  | .non => true
  | _ => false
section
variable {μ : Mem} {W : Dt → Mem → Prop} {X : Addr → List (Str × Dt) → Mem → Prop}
theorem in0 {q : Post} (h : q μ W X) : sp0 q [] μ W X := ⟨rfl, h⟩
theorem in1 {q : Dt → Post} {a : Dt} (h : q a μ W X) : sp1 q [a] μ W X := ⟨_, rfl, h⟩
theorem in2 {q : Dt → Dt → Post} {a b : Dt} (h : q a b μ W X) : sp2 q [a, b] μ W X := ⟨_, _, rfl, h⟩
theorem in3 {q : Dt → Dt → Dt → Post} {a b c : Dt} (h : q a b c μ W X) : sp3 q [a, b, c] μ W X := ⟨_, _, _, rfl, h⟩
theorem in4 {q : Dt → Dt → Dt → Dt → Post} {a b c d : Dt} (h : q a b c d μ W X) : sp4 q [a, b, c, d] μ W X := ⟨_, _, _, _, rfl, h⟩
theorem in5 {q : Dt → Dt → Dt → Dt → Dt → Post} {a b c d e : Dt} (h : q a b c d e μ W X) : sp5 q [a, b, c, d, e] μ W X := ⟨_, _, _, _, _, rfl, h⟩
theorem in6 {q : Dt → Dt → Dt → Dt → Dt → Dt → Post} {a b c d e f : Dt} (h : q a b c d e f μ W X) : sp6 q [a, b, c, d, e, f] μ W X := ⟨_, _, _, _, _, _, rfl, h⟩
end
theorem at0 {α : Type} {x : α} {l : List α} : (x :: l)[0]? = some x := rfl
theorem at1 {α : Type} {x y : α} {l : List α} {c : Nat} (h : l[c]? = some x) : (y :: l)[c + 1]? = some x := h
theorem at_set {α : Type} {l : List α} {c : Nat} {x y : α} (h : l[c]? = some y) : (l.set c x)[c]? = some x := List.getElem?_set_self (List.getElem?_eq_some_iff.mp h).1
theorem at_setN {α : Type} {l : List α} {c i : Nat} {x y : α} (h : l[i]? = some y) (n : c ≠ i) : (l.set c x)[i]? = some y := by rw [List.getElem?_set_ne n]; exact h
/-- the field f of d -/
def FldAt (K : Frag) (μ : Mem) (d : Dt) (f : Str) (W : Dt → Prop) : Prop :=
  (∃ (C : Addr) (ns : List Str) (es : List Dt) (e : Dt), d = .ins C ns es ∧ Cls K C ∧ NoAttr K C f ∧ (ns.zip es).lookup f = some e ∧ W e) ∨
  ∃ (c : Nat) (a C : Addr) (fs : List (Str × Dt)) (e : Dt), d = .ref a ∧ μ[c]? = some (a, .ins C fs) ∧ Cls K C ∧ NoAttr K C f ∧ fs.lookup f = some e ∧ W e
section
variable {K : Frag} {Y : Wish} {T T1 H H1 : Hp} {μ μ1 : Mem} {ρ : Ro} {σ : L2.St} {D : DE}
theorem wp_fldX {ta : TE} {f : Str} {W : Dt → Mem → Prop} (h : WP K Y ρ μ ta fun d μ1 => FldAt K μ1 d f fun e => W e μ1) : WP K Y ρ μ (tFld K ta f) W := fun T σ H M L N Q F =>
  h T σ H M L N _ fun T1 x H1 d μ1 w S1 M1 r1 => by
    rcases w with ⟨C, ns, es, e, rfl, cl, na, hl, w⟩ | ⟨c, a, C, fs, e, rfl, hc, cl, na, hl, w⟩
    · obtain ⟨a, dx, us, rfl, h1, h2, h3⟩ := r1.ins_inv
      obtain ⟨v, h4, h5⟩ := (zip_lookup h3 h2 f).2 e hl
      exact ⟨a, C, dx, _, v, rfl, M1.sub _ _ h1, cl, na, h4, F T1 v H1 e μ1 w S1 M1 h5⟩
    · obtain rfl := r1.ref_inv
      obtain ⟨dx, us, h1, h2⟩ := M1.get hc
      obtain ⟨v, h3, h4⟩ := (lookup_prep h2 f).2 e hl
      exact ⟨a, C, dx, us, v, rfl, h1, cl, na, h3, F T1 v H1 e μ1 w S1 M1 h4⟩
theorem fldI {C : Addr} {ns : List Str} {es : List Dt} {f : Str} {e : Dt} {W : Dt → Prop} (cl : Cls K C) (na : NoAttr K C f) (hl : (ns.zip es).lookup f = some e) (w : W e) : FldAt K μ (.ins C ns es) f W := .inl ⟨_, _, _, _, rfl, cl, na, hl, w⟩
theorem fldC {c : Nat} {a C : Addr} {fs : List (Str × Dt)} {f : Str} {e : Dt} {W : Dt → Prop} (hc : μ[c]? = some (a, .ins C fs)) (cl : Cls K C) (na : NoAttr K C f) (hl : fs.lookup f = some e) (w : W e) : FldAt K μ (.ref a) f W := .inr ⟨_, _, _, _, _, rfl, hc, cl, na, hl, w⟩
/-- [*xs, ..] -/
theorem wpa_star {te : TE} {t : TA} {W : List Dt → Mem → Prop} (h : WP K Y ρ μ te fun d μ1 => ∃ ds, IsSq μ1 d ds ∧ WPA K Y ρ μ1 t fun es μ2 => W (ds ++ es) μ2) : WPA K Y ρ μ (StX.tStar K te t) W := fun T σ H M L N Q F =>
  h T σ H M L N _ fun T1 x H1 d μ1 ⟨ds, hs, w⟩ S1 M1 r1 => by
    obtain ⟨a, xs, rfl, ha, ra⟩ := hs.at M1 r1
    exact ⟨a, xs, rfl, ha.symm, w T1 σ H1 M1 (L.mono S1.grow) (N.go S1) _ fun T2 ys H2 es μ2 w2 S2 M2 r2 => F T2 _ H2 _ μ2 w2 (S1.trans S2) M2 ((ra.mono S2.grow).append r2)⟩
/-- a list as data, or as a new cell -/
def RetL (W : Dt → Mem → Prop) (ds : List Dt) (μ : Mem) : Prop := W (.lst ds) μ ∨ ∀ p, p ∉ dom μ → W (.ref p) ((p, .lst ds) :: μ)
theorem wp_tcon {C : Addr} {f : Str} {v : V} {u : Value} {dv : Dt} {ta : TE} {W : Dt → Mem → Prop} (hv : ∀ T, Rep K T v dv) (cn : Con K C f v u) (h : WP K Y ρ μ ta fun d μ1 => ∃ (c : Nat) (a : Addr) (fs : List (Str × Dt)), d = .ref a ∧ μ1[c]? = some (a, .ins C fs) ∧ Cls K C ∧ fs.lookup f = none ∧ W dv μ1) : WP K Y ρ μ (tCon K ta f) W := fun T σ H M L N Q F =>
  h T σ H M L N _ fun T1 x H1 d μ1 ⟨c, a, fs, e, hc, cl, hl, w⟩ S1 M1 r1 => by
    subst e
    obtain rfl := r1.ref_inv
    obtain ⟨dx, us, h1, h2⟩ := M1.get hc
    exact ⟨a, C, dx, us, v, u, rfl, h1, cl, cn, (lookup_prep h2 f).1 hl, F T1 v H1 dv μ1 w S1 M1 (hv T1)⟩
theorem wp_isN {ta : TE} {W : Dt → Mem → Prop} (h : WP K Y ρ μ ta fun d μ1 => W (.bl (d.isN)) μ1) : WP K Y ρ μ (tIsN ta) W := fun T σ H M L N Q F =>
  h T σ H M L N _ fun T1 x H1 d μ1 w S1 M1 r1 => by
    have e : decide (x = V.non) = (d.isN) := by cases r1 <;> rfl
    show Q (.bl (decide (x = V.non))) H1
    rw [e]
    exact F T1 _ H1 _ μ1 w S1 M1 (.bl _)
theorem wp_notN {ta : TE} {W : Dt → Mem → Prop} (h : WP K Y ρ μ ta fun d μ1 => W (.bl (!(d.isN))) μ1) : WP K Y ρ μ (tNotN ta) W := fun T σ H M L N Q F =>
  h T σ H M L N _ fun T1 x H1 d μ1 w S1 M1 r1 => by
    have e : decide (x = V.non) = (d.isN) := by cases r1 <;> rfl
    show Q (.bl (!decide (x = V.non))) H1
    rw [e]
    exact F T1 _ H1 _ μ1 w S1 M1 (.bl _)
end
/-! ### powers of great numbers -/
def CPowB (i j : Int) : Prop := 0 ≤ j ∧ (Builtin.Int.intBits i : Int) * j ≤ 2 ^ 27
theorem op_powB {X : Cx} : OpR X (binaryOp Operator.Pow) (rI CPowB fun i j => V.int (i ^ j.toNat)) := opI fun i j t u s Q E ⟨h1, h2⟩ q => pow_int h1 h2 q
/-! ### how a def takes its arguments -/
section
variable {fa : List Fc} {fn : List DefP} {K : Frag} {mg : Str → Option Value}
theorem Good.binds (G : Good fa fn K mg) (i : Nat) {d : DefP} (h : fn[i]? = some d) (hd : d.dfl = []) {ps : List Str} (hb : ∀ (kV doc pm : Value) (an : Option Addr) (cdv ct : Value) (us : List Value), us.length = ps.length → bindArgs (fnOf d.name d.qual (defArgs d.st) (defBody d.st) (defScope d.st) .none kV doc pm an cdv ct) ⟨us, []⟩ = pure (ps.zip us)) : L2.Binds K (fdOf K (d.at_ K)) ps [] := by
  obtain ⟨⟨oc, od, dV, kV, doc, pm, an, cdv, ct, osl, e, hl, hc, hv, hk⟩, kp⟩ := G.def_ i h
  have e0 : d.dvs K = [] := by unfold DefP.dvs; rw [hd]; rfl
  rw [e0] at hv
  rcases hv with ⟨_, rfl⟩ | ⟨hne, _⟩
  · intro s us _ hlen
    rw [List.append_nil] at hlen ⊢
    rw [e]
    exact .of_eq (hb kV doc pm an cdv ct us hlen)
  · exact absurd rfl hne
theorem Good.kbinds (G : Good fa fn K mg) (i : Nat) {d : DefP} (h : fn[i]? = some d) (hd : d.dfl = []) {ps : List Str} {n : Nat} {ks : List Str} (idx : List Nat) (hb : ∀ (kV doc pm : Value) (an : Option Addr) (cdv ct : Value) (us ws : List Value), us.length = n → ws.length = ks.length → bindArgs (fnOf d.name d.qual (defArgs d.st) (defBody d.st) (defScope d.st) .none kV doc pm an cdv ct) ⟨us, ks.zip ws⟩ = pure (ps.zip (gx Value.none idx us ws))) : KBn K (fdOf K (d.at_ K)) ps n ks (gx Value.none idx) (gx V.non idx) := by
  obtain ⟨⟨oc, od, dV, kV, doc, pm, an, cdv, ct, osl, e, hl, hc, hv, hk⟩, kp⟩ := G.def_ i h
  have e0 : d.dvs K = [] := by unfold DefP.dvs; rw [hd]; rfl
  rw [e0] at hv
  rcases hv with ⟨_, rfl⟩ | ⟨hne, _⟩
  · refine kbn idx fun s us ws h1 h2 => ?_
    rw [e]
    exact .of_eq (hb kV doc pm an cdv ct us ws h1 h2)
  · exact absurd rfl hne
end
end Ml

/-! Ml11: == by an own __eq__, cls(), isinstance of own classes. -/
namespace Ml
open PySem L2 PySem.W PySem.Calls PyProof.Rows
theorem inst_at {X : Cx} {pins : List (Addr × Obj)} {σ : L2.St} {H : Hp} {s : Shared} {a C dx : Addr} {fs : List (Str × V)} (I : L2.Inv X pins σ H s) (h : H a = some (.ins C dx fs)) : ∃ ox od, InstAt s.heap a ox C od := by
  obtain ⟨mA, O, _⟩ := ins_get I.hok h
  obtain ⟨od, ho, _⟩ := lookIn_ns O.ns
  exact ⟨_, some od, ⟨O.obj, rfl, rfl, ho⟩⟩
def rOwnI (K : Frag) (C : Addr) (sp : Sp) (E : XK) : R2 := fun x y H Q => ∃ a dx fs b dy gs, x = .ref a ∧ y = .ref b ∧ H a = some (.ins C dx fs) ∧ H b = some (.ins C dy gs) ∧ sp [x, y] H Q E
theorem op_ownI {X : Cx} {CX : CXT} {C g : Addr} {fd : FuncData} {ps : List Str} {n : Nat} {sp : Sp} {E : XK} {op : CmpOp} (hop : ∀ a b : Value, compareOp op a b = richCompare op a b) {nm : Str} (hn : (cmpInfo op).2.1 = nm) (hm : Meth X.K C nm g)
    (F : FnOk X.prog X.w X.K X.mg X.base CX n g fd ps sp) (hr : Room n X.A) (hb : L2.Binds X.K fd ps []) (hx : Passes CX X E) : OpR X (compareOp op) (rOwnI X.K C sp E) := by
  rintro pins s σ H x y v u Q I rx ry ⟨a, dx, fs, b, dy, gs, rfl, rfl, ha, hb', q⟩
  cases rx
  cases ry
  obtain ⟨ox, od, J⟩ := inst_at I ha
  obtain ⟨oy, oe, J'⟩ := inst_at I hb'
  obtain ⟨m, hF⟩ := Inv.fr I
  rw [hop]
  refine cmp_K hr.units0 hF I.ok.mod.kin J (InstAt.type J') (by unfold notFirst; simp) (by rw [hn]; exact hm.at_) hm.fn (wpAny_mono (run_fn F hr hb .nil hx I (Paired.cons (show RelV (V.ref a) (Value.ref a) from rfl) (Paired.cons (show RelV (V.ref b) (Value.ref b) from rfl) Paired.nil)) (by rw [List.append_nil]; exact q)) ?_ fun _ _ z => z)
  rintro w s' ⟨z', H', I', rz, qz⟩
  exact SlX.cmpback rz ⟨z', H', I', rz, qz⟩
/-- x(): x a name of the def -/
def tMakeV (C : Addr) (sp : Sp) (E : XK) (tv : TE) : TE := fun σ H Q => tv σ H fun c H1 => c = .ref C ∧ ∀ x dx, H1 x = none → H1 dx = none → dx ≠ x → sp [.ref x] (upd (upd H1 dx (.own x)) x (.ins C dx [])) (fun v H2 => v = .non ∧ Q (.ref x) H2) E
theorem pe_makeV {X : Cx} {CX : CXT} {k : Nat} {f C : Addr} {fd : FuncData} {ps : List Str} {sp : Sp} {E : XK} {x : Str} {p pos : Pos} {tv : TE} (hv : PE X (.Name x p) tv) (M : Mk X.K C f) (F : FnOk X.prog X.w X.K X.mg X.base CX k f fd ps sp) (hr : Room (k + 1) X.A) (hb : L2.Binds X.K fd ps []) (hx : Passes CX X E) : PE X (.Call (.Name x p) [] [] pos) (tMakeV C sp E tv) where
  run := fun pins s σ H Q I h => wpAny_Call_Name_kw (thn (hv.run pins s σ H _ I h) fun u s1 ⟨c, H1, I1, rc, ec, q⟩ => by
    subst ec
    cases rc
    exact callWith_K0 I1.kIn M.kp (run_make M F hr hb .nil hx I1 Paired.nil q))
structure IsiC (K : Frag) (C : Addr) : Prop where
  c : Cls K C
  a : findIn K (.ref C) "__class__" = some (some (.builtin "object.__class__"))
  b : specialIn K (.builtin "object.__class__") "__get__" = some (some (.builtin "getset_descriptor.__get__"))
  t : takesIn K (.builtin "object.__class__") = some true
  m : mroIn K C (.type "object") = some true
section
variable {K : Frag} {Y : Wish} {T T1 H H1 : Hp} {μ μ1 : Mem} {ρ : Ro} {σ : L2.St} {D : DE}
theorem rw_own {C : Addr} {s : DSp} {E : XK} {a b : Addr} {i j : Nat} {fs gs : List (Str × Dt)} {W : Dt → Mem → Prop} (h1 : μ[i]? = some (a, .ins C fs)) (h2 : μ[j]? = some (b, .ins C gs)) (h : s [.ref a, .ref b] μ W noX) : RW2 K μ (rOwnI K C (spD K s) E) (.ref a) (.ref b) W := fun T H x y M r1 r2 Q F => by
  obtain rfl := r1.ref_inv
  obtain rfl := r2.ref_inv
  obtain ⟨dx, us, e1, _⟩ := M.get h1
  obtain ⟨dy, vs, e2, _⟩ := M.get h2
  exact ⟨a, dx, us, b, dy, vs, rfl, rfl, e1, e2, T, μ, _, W, noX, M, .cons (.ref a) (.cons (.ref b) .nil), h, F, finX_no⟩
theorem wp_makeV {C : Addr} {s : DSp} {E : XK} {tv : TE} {W : Dt → Mem → Prop} (h : WP K Y ρ μ tv fun d μ1 => d = .ref C ∧ ∀ x, x ∉ dom μ1 → s [.ref x] ((x, .ins C []) :: μ1) (fun d μ2 => d = .non ∧ W (.ref x) μ2) noX) : WP K Y ρ μ (tMakeV C (spD K s) E tv) W := fun T σ H M L N Q F =>
  h T σ H M L N _ fun T1 v H1 d μ1 ⟨ed, w⟩ S1 M1 r1 => by
    subst ed
    refine ⟨r1.ref_inv, fun x dx hx hdx hne => ?_⟩
    have hx2 : upd H1 dx (.own x) x = none := by rw [upd_ne (Ne.symm hne)]; exact hx
    have Ma : Mst K T1 μ1 (upd H1 dx (.own x)) := ⟨fun b o e => by rw [upd_ne (ne_of_none (M1.sub _ _ e) hdx)]; exact M1.sub _ _ e, fun q hq => ⟨(M1.mem q hq).1, (M1.mem q hq).2.mono (Sub.refl _) fun u e => by rw [upd_ne (ne_of_none e hdx)]; exact e⟩, M1.nd⟩
    have Sa : Step T1 μ1 H1 T1 μ1 (upd H1 dx (.own x)) := ⟨Sub.refl _, fun b o e _ => by rw [upd_ne (ne_of_none e hdx)]; exact e, fun _ _ _ _ t _ => t, fun _ _ _ n => n⟩
    obtain ⟨Mb, Sb⟩ := Ma.cell (m := .ins C []) (o := .ins C dx []) hx2 ⟨dx, [], upd_same, .nil⟩
    refine ⟨T1, _, [.ref x], _, noX, Mb, .cons (.ref x) .nil, w x (M1.notin hx), ?_, finX_no⟩
    rintro T' v H' d μ' ⟨rfl, w'⟩ S' M' r'
    exact ⟨r'.non_inv, F T' _ H' _ μ' w' (((S1.trans Sa).trans Sb).trans S') M' (.ref x)⟩
theorem rw_isiC {a C : Addr} {c : Nat} {fs : List (Str × Dt)} {W : Dt → Mem → Prop} (k : IsiC K C) (hc : μ[c]? = some (a, .ins C fs)) (w : W (.bl true) μ) : RWL K μ (rIsi K) [.ref a, .ref C] W := fun T H xs M r Q F => by
  obtain ⟨v, us, rfl, r1, r2⟩ := r.cons_inv
  obtain ⟨u, us', rfl, r3, r4⟩ := r2.cons_inv
  obtain rfl := r4.nil_inv
  obtain rfl := r3.ref_inv
  obtain rfl := r1.ref_inv
  obtain ⟨dx, us, h1, _⟩ := M.get hc
  exact ⟨_, _, .ref C, .ref C, true, rfl, .own C, .base (.ins h1 k.c k.a k.b k.t k.m), by unfold kitOne; simp, F T _ H _ μ w (Step.refl _ _ _) M (.bl true)⟩
end
end Ml

/-! Ml12: small rules for the printed terms. -/
namespace Ml
open PySem L2 PySem.W PySem.Calls PyProof.Rows
theorem cr_len {X : Cx} : CallR X (.builtin "len") (Evl.rLenS X.K) := call_len_seq
theorem cr_list {X : Cx} : CallR X (.type "list") (Evl.rListS X.K) := call_list_of
theorem pe_fldK (K : Frag) {X : Cx} {e : Expr} {f : Str} {pos : Pos} {ta : TE} (he : PE X e ta) (hK : X.K = K := by rfl) (hb : attributeBase e f X.env (eval e X.env) = eval e X.env := by rfl) : PE X (e.Attribute f pos) (tFld K ta f) := hK ▸ pe_fld he hb
theorem pe_conK (K : Frag) {X : Cx} {e : Expr} {f : Str} {pos : Pos} {ta : TE} (he : PE X e ta) (hK : X.K = K := by rfl) (hb : attributeBase e f X.env (eval e X.env) = eval e X.env := by rfl) : PE X (e.Attribute f pos) (tCon K ta f) := hK ▸ pe_con he hb
theorem pi_listK (K : Frag) {X : Cx} {tg l : Expr} {tl : TE} (h : PE X l tl) (hK : X.K = K := by rfl) : PI X tg l (iList K tl) := hK ▸ pi_list h
theorem pi_tupK (K : Frag) {X : Cx} {tg l : Expr} {tl : TE} (h : PE X l tl) (hK : X.K = K := by rfl) : PI X tg l (iTup K tl) := hK ▸ pi_tup h
theorem pa_starK (K : Frag) {X : Cx} {e : Expr} {es : List Expr} {p : Pos} {te : TE} {t : TA} (he : PE X e te) (h : PA X es t) (hK : X.K = K := by rfl) : PA X (.Starred e p :: es) (StX.tStar K te t) := hK ▸ StX.pa_star he h
theorem hu64 {k : Nat} {A : Around} (h : Room k A) : A.units + 64 < cLine := by have := h.un; omega
theorem itT {c : Bool} {p q : Prop} (h : c = true) (w : p) : if c = true then p else q := by rw [if_pos h]; exact w
theorem itF {c : Bool} {p q : Prop} (h : c = false) (w : q) : if c = true then p else q := by rw [if_neg (by rw [h]; decide)]; exact w
/-- both ways -/
theorem it2 {c : Bool} {p q : Prop} (h : c = true → p) (g : c = false → q) : if c = true then p else q := by
  cases e : c with
  | true => rw [if_pos rfl]; exact h e
  | false => rw [if_neg (by decide)]; exact g e
/-- a target's and a test's truth -/
theorem exB {P : Bool → Prop} {b : Bool} (h : P b) : ∃ c, Dt.bl b = Dt.bl c ∧ P c := ⟨b, rfl, h⟩
theorem exI {P : Int → Prop} {i : Int} (h : P i) : ∃ c, Dt.int i = Dt.int c ∧ P c := ⟨i, rfl, h⟩
theorem exL {P : List Dt → Prop} {i : List Dt} (h : P i) : ∃ c, Dt.lst i = Dt.lst c ∧ P c := ⟨i, rfl, h⟩
section
variable {K : Frag} {Y : Wish} {T T1 H H1 : Hp} {μ μ1 : Mem} {ρ : Ro} {σ : L2.St} {D : DE}
theorem elem_i {vs : List Nat} {g : TG} {tt : TT} {y : Dt} {R : Ro → Mem → Prop} {N : Mem → Prop} (h : WPG K Y (wipeR ρ vs) μ g y fun ρ2 μ2 => WPT K Y ρ2 μ2 tt fun b μ3 => if b = true then R ρ2 μ3 else N μ3) : Elem K Y ρ vs g tt y μ R N := h
/-- [e for x in xs if f], nothing changed -/
theorem wp_lcX {α : Type} (enc : α → Dt) (f : α → Bool) (e : α → Dt) {wi : TI} {g : TG} {tt : TT} {te : TE} {vs : List Nat} {W : Dt → Mem → Prop} (hg : Onto g vs) (hm : MonoG g) (h : WPI K Y ρ μ wi fun ys μ1 => ∃ xs : List α, ys = xs.map enc ∧ xs.length ≤ 1000000 ∧
    (∀ x ∈ xs, Elem K Y ρ vs g tt (enc x) μ1 (fun ρ2 μ3 => f x = true ∧ WP K Y ρ2 μ3 te fun d μ4 => d = e x ∧ μ4 = μ1) fun μ3 => f x = false ∧ μ3 = μ1) ∧ W (.lst ((xs.filter f).map e)) μ1) : WP K Y ρ μ (tLc wi g tt te vs) W :=
  wp_lc hg hm fun T σ H M L N R F => h T σ H M L N R fun T' J H' ys μ' ⟨xs, ey, hl, el, w⟩ S' M' src => F T' J H' ys μ' ⟨by rw [ey, List.length_map]; exact hl, fun i acc μ2 => μ2 = μ' ∧ acc = ((xs.take i).filter f).map e, ⟨rfl, rfl⟩, fun i y acc μ2 hy ⟨e1, e2⟩ => by
    subst e1 e2 ey
    rw [List.getElem?_map] at hy
    cases hx : xs[i]? with
    | none => rw [hx] at hy; cases hy
    | some x =>
      rw [hx] at hy
      cases hy
      have hx' := List.mem_of_getElem? hx
      have tk : xs.take (i + 1) = xs.take i ++ [x] := by rw [List.take_add_one, hx]; rfl
      intro T σ H v M L N r Q F
      refine el x hx' T σ H v M L N r Q fun T2 σ2 H2 ρ2 μ2 w2 S2 M2 L2 => F T2 σ2 H2 ρ2 μ2 (fun T3 σ3 H3 M3 L3 N3 Q3 F3 => w2 T3 σ3 H3 M3 L3 N3 Q3 fun T4 b H4 μ4 w4 S4 M4 => F3 T4 b H4 μ4 ?_ S4 M4) S2 M2 L2
      cases b with
      | true =>
        obtain ⟨hf, w4⟩ := w4
        refine WP.imp (show WP K Y ρ2 μ4 te _ from w4) ?_
        rintro d μ5 ⟨rfl, rfl⟩
        refine ⟨rfl, ?_⟩
        rw [tk, List.filter_append, List.map_append, List.filter_cons, if_pos hf] <;> rfl
      | false =>
        obtain ⟨hf, rfl⟩ := w4
        refine ⟨rfl, ?_⟩
        rw [tk, List.filter_append, List.map_append, List.filter_cons, if_neg (by rw [hf]; decide)]
        simp, fun acc μ2 ⟨e1, e2⟩ => by
    subst e1 e2 ey
    rw [List.length_map, List.take_length]
    exact w⟩ S' M' src
theorem wp_lc0 {α : Type} (enc : α → Dt) (e : α → Dt) {wi : TI} {g : TG} {te : TE} {vs : List Nat} {W : Dt → Mem → Prop} (hg : Onto g vs) (hm : MonoG g) (h : WPI K Y ρ μ wi fun ys μ1 => ∃ xs : List α, ys = xs.map enc ∧ xs.length ≤ 1000000 ∧
    (∀ x ∈ xs, WPG K Y (wipeR ρ vs) μ1 g (enc x) fun ρ2 μ2 => WP K Y ρ2 μ2 te fun d μ4 => d = e x ∧ μ4 = μ1) ∧ W (.lst (xs.map e)) μ1) : WP K Y ρ μ (tLc wi g tYes te vs) W :=
  wp_lcX enc (fun _ => true) e hg hm fun T σ H M L N R F => h T σ H M L N R fun T' J H' ys μ' ⟨xs, ey, hl, el, w⟩ => F T' J H' ys μ' ⟨xs, ey, hl, fun x hx T σ H v M L N r Q F => el x hx T σ H v M L N r Q fun T2 σ2 H2 ρ2 μ2 w2 => F T2 σ2 H2 ρ2 μ2 (wpt_yes (itT rfl ⟨rfl, w2⟩)), by rw [List.filter_eq_self.mpr fun _ _ => rfl]; exact w⟩
end
/-! ### lines, pairs, states as data -/
abbrev Ln := Int × Int × Int
abbrev Pr := Int × Int
def lnL (l : Ln) : List Int := [l.1, l.2.1, l.2.2]
def prL (l : Pr) : List Int := [l.1, l.2]
abbrev lnD (l : Ln) : Dt := .tup [.int l.1, .int l.2.1, .int l.2.2]
abbrev prD (l : Pr) : Dt := .tup [.int l.1, .int l.2]
def sortLn (ls : List Ln) : List Ln := ls.mergeSort fun a b => lexLe (lnL a) (lnL b)
def sortPr (ls : List Pr) : List Pr := ls.mergeSort fun a b => lexLe (prL a) (prL b)
theorem sorts_ln (ls : List Ln) (h : ls.length ≤ 1000000) : Sorts (ls.map lnD) := sorts_tups lnL ls (fun _ _ => by simp [lnL]) h
theorem sorts_pr (ls : List Pr) (h : ls.length ≤ 1000000) : Sorts (ls.map prD) := sorts_tups prL ls (fun _ _ => by simp [prL]) h
theorem sortD_ln (ls : List Ln) : sortD (ls.map lnD) = (sortLn ls).map lnD := sortD_tups lnL ls
theorem sortD_pr (ls : List Pr) : sortD (ls.map prD) = (sortPr ls).map prD := sortD_tups prL ls
structure Stt where
  own : List Ln
  other : List Ln
  cap : Int
  fixed : List Pr
deriving DecidableEq
theorem lnD_py (l : Ln) : (lnD l).py = some (.tuple [.int l.1, .int l.2.1, .int l.2.2]) := rfl
def lnP (l : Ln) : PyData := .tuple [.int l.1, .int l.2.1, .int l.2.2]
def prP (l : Pr) : PyData := .tuple [.int l.1, .int l.2]
theorem pys_map {α : Type} (enc : α → Dt) (p : α → PyData) (h : ∀ a, (enc a).py = some (p a)) : ∀ xs : List α, Dt.pys (xs.map enc) = some (xs.map p)
  | [] => rfl
  | x :: xs => by rw [List.map_cons, Dt.pys, h, pys_map enc p h xs]; rfl
theorem py_lst {α : Type} (enc : α → Dt) (p : α → PyData) (h : ∀ a, (enc a).py = some (p a)) (xs : List α) : (Dt.lst (xs.map enc)).py = some (.list (xs.map p)) := by
  rw [Dt.py, pys_map enc p h]
  rfl
end Ml

/-! Ml13: equality of lists of lines and pairs. -/
namespace Ml
open PySem L2 PySem.W PySem.Calls PyProof.Rows
theorem eqvAll_map {α : Type} [DecidableEq α] (p : α → PyData) (h : ∀ a b, PyData.eqv (p a) (p b) = decide (a = b)) : ∀ xs ys : List α, PyData.eqvAll (xs.map p) (ys.map p) = decide (xs = ys)
  | [], [] => by simp [PyData.eqvAll]
  | [], y :: ys => by simp [PyData.eqvAll]
  | x :: xs, [] => by simp [PyData.eqvAll]
  | x :: xs, y :: ys => by
    simp only [List.map_cons, PyData.eqvAll, h, eqvAll_map p h xs ys]
    simp
theorem eqv_list {xs ys : List PyData} : PyData.eqv (.list xs) (.list ys) = PyData.eqvAll xs ys := by simp [PyData.eqv]
theorem eqv_tup {xs ys : List PyData} : PyData.eqv (.tuple xs) (.tuple ys) = PyData.eqvAll xs ys := by simp [PyData.eqv]
theorem eqv_int {a b : Int} : PyData.eqv (.int a) (.int b) = decide (a = b) := by
  rw [PyData.eqv, Bool.beq_eq_decide_eq]
theorem eqv_lnP (a b : Ln) : PyData.eqv (lnP a) (lnP b) = decide (a = b) := by
  obtain ⟨a1, a2, a3⟩ := a
  obtain ⟨b1, b2, b3⟩ := b
  show PyData.eqv (.tuple [.int a1, .int a2, .int a3]) (.tuple [.int b1, .int b2, .int b3]) = _
  rw [eqv_tup]
  simp only [PyData.eqvAll, eqv_int]
  simp
theorem eqv_prP (a b : Pr) : PyData.eqv (prP a) (prP b) = decide (a = b) := by
  obtain ⟨a1, a2⟩ := a
  obtain ⟨b1, b2⟩ := b
  show PyData.eqv (.tuple [.int a1, .int a2]) (.tuple [.int b1, .int b2]) = _
  rw [eqv_tup]
  simp only [PyData.eqvAll, eqv_int]
  simp
theorem eqv_lns (xs ys : List Ln) : PyData.eqv (.list (xs.map lnP)) (.list (ys.map lnP)) = decide (xs = ys) := by rw [eqv_list, eqvAll_map lnP eqv_lnP]
theorem eqv_prs (xs ys : List Pr) : PyData.eqv (.list (xs.map prP)) (.list (ys.map prP)) = decide (xs = ys) := by rw [eqv_list, eqvAll_map prP eqv_prP]
/-- flat lists of parts of ints -/
def Low (d : PyData) (n : Nat) : Prop := d.canLay0 = true ∧ d.depth ≤ n
theorem low_int (i : Int) : Low (.int i) 0 := ⟨rfl, Nat.le_refl _⟩
theorem lay_all : ∀ {xs : List PyData} {n : Nat}, (∀ x ∈ xs, Low x n) → PyData.canLayAll0 xs = true ∧ PyData.depthAll xs ≤ n
  | [], n, _ => ⟨rfl, Nat.zero_le _⟩
  | x :: xs, n, h => by
    obtain ⟨h1, h2⟩ := lay_all (xs := xs) (n := n) fun y hy => h y (List.mem_cons_of_mem _ hy)
    obtain ⟨h3, h4⟩ := h x List.mem_cons_self
    constructor
    · simp [PyData.canLayAll0, h1, h3]
    · rw [PyData.depthAll]
      exact Nat.max_le.mpr ⟨h4, h2⟩
theorem low_list {xs : List PyData} {n : Nat} (h : ∀ x ∈ xs, Low x n) : Low (.list xs) (n + 1) := by
  obtain ⟨h1, h2⟩ := lay_all h
  exact ⟨by rw [PyData.canLay0]; exact h1, by rw [PyData.depth]; omega⟩
theorem low_tup {xs : List PyData} {n : Nat} (h : ∀ x ∈ xs, Low x n) : Low (.tuple xs) (n + 1) := by
  obtain ⟨h1, h2⟩ := lay_all h
  exact ⟨by rw [PyData.canLay0]; exact h1, by rw [PyData.depth]; omega⟩
theorem Low.shaped {d : PyData} {n : Nat} (h : Low d n) (hn : n ≤ 64) : SeqAt.shaped d = true := by
  unfold SeqAt.shaped
  rw [h.1, decide_eq_true (Nat.le_trans h.2 hn)]
  rfl
theorem low_lnP (l : Ln) : Low (lnP l) 1 := low_tup fun x hx => by
  simp at hx
  rcases hx with rfl | rfl | rfl <;> exact low_int _
theorem low_prP (l : Pr) : Low (prP l) 1 := low_tup fun x hx => by
  simp at hx
  rcases hx with rfl | rfl <;> exact low_int _
theorem sh_lns (xs : List Ln) : SeqAt.shaped (.list (xs.map lnP)) = true := (low_list (n := 1) fun x hx => by obtain ⟨y, _, rfl⟩ := List.mem_map.mp hx; exact low_lnP y).shaped (by decide)
theorem sh_prs (xs : List Pr) : SeqAt.shaped (.list (xs.map prP)) = true := (low_list (n := 1) fun x hx => by obtain ⟨y, _, rfl⟩ := List.mem_map.mp hx; exact low_prP y).shaped (by decide)
section
variable {K : Frag} {μ : Mem}
theorem pyof_lns {d : Dt} {xs : List Ln} (h : IsLst μ d (xs.map lnD)) : PyOf μ d (.list (xs.map lnP)) := .inr ⟨_, _, h, pys_map lnD lnP (fun _ => rfl) xs, rfl⟩
theorem pyof_prs {d : Dt} {xs : List Pr} (h : IsLst μ d (xs.map prD)) : PyOf μ d (.list (xs.map prP)) := .inr ⟨_, _, h, pys_map prD prP (fun _ => rfl) xs, rfl⟩
theorem rw_eq_lns {d e : Dt} {xs ys : List Ln} {W : Dt → Mem → Prop} (h1 : IsLst μ d (xs.map lnD)) (h2 : IsLst μ e (ys.map lnD)) (w : W (.bl (decide (xs = ys))) μ) : RW2 K μ (rEqD K) d e W := rw_eqD (pyof_lns h1) (pyof_lns h2) (sh_lns _) (sh_lns _) (by rw [eqv_lns]; exact w)
theorem rw_ne_lns {d e : Dt} {xs ys : List Ln} {W : Dt → Mem → Prop} (h1 : IsLst μ d (xs.map lnD)) (h2 : IsLst μ e (ys.map lnD)) (w : W (.bl (!decide (xs = ys))) μ) : RW2 K μ (rNeD K) d e W := rw_neD (pyof_lns h1) (pyof_lns h2) (sh_lns _) (sh_lns _) (by rw [eqv_lns]; exact w)
theorem rw_eq_prs {d e : Dt} {xs ys : List Pr} {W : Dt → Mem → Prop} (h1 : IsLst μ d (xs.map prD)) (h2 : IsLst μ e (ys.map prD)) (w : W (.bl (decide (xs = ys))) μ) : RW2 K μ (rEqD K) d e W := rw_eqD (pyof_prs h1) (pyof_prs h2) (sh_prs _) (sh_prs _) (by rw [eqv_prs]; exact w)
theorem rw_ne_prs {d e : Dt} {xs ys : List Pr} {W : Dt → Mem → Prop} (h1 : IsLst μ d (xs.map prD)) (h2 : IsLst μ e (ys.map prD)) (w : W (.bl (!decide (xs = ys))) μ) : RW2 K μ (rNeD K) d e W := rw_neD (pyof_prs h1) (pyof_prs h2) (sh_prs _) (sh_prs _) (by rw [eqv_prs]; exact w)
theorem rw_eqI {i j : Int} {W : Dt → Mem → Prop} (w : W (.bl (decide (i = j))) μ) : RW2 K μ rEq (.int i) (.int j) W := rw_eq (x := .int i) (y := .int j) rfl rfl rfl (by simpa using w)
theorem rw_neI {i j : Int} {W : Dt → Mem → Prop} (w : W (.bl (!decide (i = j))) μ) : RW2 K μ rNe (.int i) (.int j) W := rw_ne (x := .int i) (y := .int j) rfl rfl rfl (by simpa using w)
theorem rw_eqS {i j : Str} {W : Dt → Mem → Prop} (w : W (.bl (decide (i = j))) μ) : RW2 K μ rEq (.str i) (.str j) W := rw_eq (x := .str i) (y := .str j) rfl rfl rfl (by simpa using w)
theorem rw_neS {i j : Str} {W : Dt → Mem → Prop} (w : W (.bl (!decide (i = j))) μ) : RW2 K μ rNe (.str i) (.str j) W := rw_ne (x := .str i) (y := .str j) rfl rfl rfl (by simpa using w)
end
end Ml

/-! Ml14: own exceptions with one field. -/
namespace Ml
open PySem L2 PySem.W PySem.Calls PyProof.Rows
/-- a class over ValueError without __init__ -/
structure Exc0 (K : Frag) (C : Addr) : Prop where
  ty : typeIn K (.ref C) = some (.type "type")
  rd : readsIn K C (.type "type") = true
  ga : specialIn K (.ref C) "__getattribute__" = some (some (.builtin "type.__getattribute__"))
  hv : findCls K (.ref C) (.type "type") "__init__" = some (.val (.builtin "ValueError.__init__"))
theorem pe_oinit {X : Cx} {e : Expr} {es : List Expr} {ta : TA} {p1 p2 pos : Pos} {pl : Sem Bool} {x : Str} {B : Addr} (hg : Gl X x) (hm : X.mg x = some (.ref B)) (k : Exc0 X.K B) (ha : PA X (e :: es) ta) (hdb : (x == Str.ofString "__debug__") = false := by rfl)
    (hc : eval ((Expr.Attribute (Expr.Name x p1) (Str.ofString "__init__") p2).Call (e :: es) [] pos) X.env = (do let ov ← eval (Expr.Name x p1) X.env; standAt p2.atName; let (f, first) ← holding [ov] (getMethod ov (Str.ofString "__init__") pl); callWith pos f first (backTo pos (starEach (e :: es) X.env)) (backToKw pos (keywordEach [] X.env))) := by rfl)
    (he : starEach (e :: es) X.env = (false, eval e X.env) :: starEach es X.env := by rfl) (hpl : ((backTo pos (starEach es X.env)).any fun x => x.fst) = false := by rfl) :
    PE X ((Expr.Attribute (Expr.Name x p1) (Str.ofString "__init__") p2).Call (e :: es) [] pos) (tVeI X.K ta) where
  run := fun pins s σ H Q I h => methodCall_KW (ld_glob I hg hm (by
    obtain ⟨m, fr⟩ := Inv.fr I
    refine method_cls I.kIn k.ga (cls_val fr I.ok.mod.kin k.ty k.rd k.hv (by rfl) (PyProof.Rows.callWith_method1 (thn (ha.run pos pins _ σ H _ (Inv.tok I (s.toks + 1)) h) ?_) he hpl))
    rintro us s1 ⟨vs, H1, I1, r1, a, C, ws, rfl, hl, T, ea, q⟩
    cases r1 with
    | @cons _ u0 _ ur ra rw' =>
      cases ra
      exact oinit_ok T I1 ea (by rw [← Paired.length rw', sizeLine_eq]; omega) fun s' J => ⟨.non, H1, J, rfl, q⟩) hdb) hc
/-- .. with an own __init__ that stores one field -/
structure Exc1 (K : Frag) (C fI : Addr) (f : Str) : Prop where
  o : OexC K C
  i : findIn K (.ref C) "__init__" = some (some (.ref fI))
  t : typeIn K (.ref fI) = some (.type "function")
  n : findIn K (.ref C) f = some none
def spX (K : Frag) (C fI : Addr) (f : Str) : Sp := fun vs H Q _ => ∃ (a : Addr) (v : V), vs = [.ref a, v] ∧ H a = some (exo a C none) ∧ ∀ dx, H dx = none → dx ≠ a → Q .non (upd (upd H dx (exd dx [(f, v)])) a (exo a C (some dx)))
section
variable {P : Program} {w : World} {K : Frag} {mg : Str → Option Value} {base : Heap} {x qual : Str} {params : Arguments} {body : List Stmt} {scope : Scope} {f : Addr} {fd : FuncData}
theorem ok_exc {N ps : List Str} {k : Nat} {C : Addr} {fl : Str} {m : Str} (F : FunD K x qual params body scope [] [] f fd) (S : FnScope N ps scope) (hl : ps.length = 2) (T : Exc1 K C f fl)
    (hbody : ∀ (cdv : Value) (A : Around) (outer : List Env) (s0 : Shared) (H : Hp) (E : XK), Room k (A.deeper (envOfC qual scope s0.heap.objs.size f cdv)) →
      PSs (cxOf (L2.CX P w) P w K mg base N qual scope f cdv A outer s0 H E) body (tSeq (tDrop (tVeI K (tCons (tVar 0) (tCons (tC (.str m)) tNil)))) (tOst K fl (tVar 0) (tVar 1)))) : FnOk P w K mg base (L2.CX P w) (k + 1) f fd ps (spX K C f fl) :=
  F.ok S (fun vs H Q E ⟨a, v, e, _⟩ => by rw [e, hl]; rfl) fun cdv A outer s0 H vs Q E hr ⟨a, v, e, ha, q⟩ => by
    subst e
    refine ⟨_, hbody cdv A outer s0 H E hr, ?_⟩
    refine ⟨_, rfl, a, C, [.str m], rfl, (by show 1 ≤ 1000; decide), T.o, ha, ?_⟩
    exact ⟨_, rfl, _, rfl, a, C, rfl, T.o, T.n, .inl ⟨ha, fun dx h1 h2 => q dx h1 h2⟩⟩
end
section
variable {K : Frag} {Y : Wish} {T T1 H H1 : Hp} {μ μ1 : Mem} {ρ : Ro} {σ : L2.St} {D : DE}
theorem wps_raiseO {C fI : Addr} {f : Str} {ta : TA} {W : WX} (hW : ∀ c d σ H, Y.W c d σ H → W c d σ H) (h : WPA K Y ρ μ ta fun ds μ1 => ∃ d, ds = [d] ∧ Y.X C [(f, d)] ρ μ1) : WPS K Y ρ μ (fun _ σ H => tMkO C (spX K C fI f) [] ta σ H fun cls d H' => W cls d σ H') D := fun T σ H M L N E F =>
  h T σ H M L N _ fun T1 xs H1 ds μ1 ⟨d, e, w⟩ S1 M1 r1 => by
    subst e
    obtain ⟨v, us, rfl, r2, r3⟩ := r1.cons_inv
    obtain rfl := r3.nil_inv
    refine ⟨(by show 1 ≤ 1000; decide), fun a ha => ⟨a, v, rfl, upd_same, fun dx hdx hne => ⟨rfl, dx, [(f, v)], upd_same, ?_, ?_, ?_⟩⟩⟩
    · rw [upd_ne hne, upd_same]
    · rw [upd_ne hne] at hdx; exact hdx
    · rw [upd_ne hne] at hdx
      have e : upd (del (upd (upd (upd H1 a (exo a C none)) dx (exd dx [(f, v)])) a (exo a C (some dx))) a) dx (.xd [(f, v)]) = upd H1 dx (.xd [(f, v)]) := by
        funext b
        by_cases hb : b = dx
        · subst hb; rw [upd_same, upd_same]
        · rw [upd_ne hb, upd_ne hb]
          by_cases hb2 : b = a
          · subst hb2; rw [ha]; exact del_same
          · rw [del_ne hb2, upd_ne hb2, upd_ne hb, upd_ne hb2]
      rw [e]
      obtain ⟨M2, S2⟩ := M1.cell (m := .xd [(f, d)]) (o := .xd [(f, v)]) hdx ⟨_, upd_same, .cons ⟨rfl, r2⟩ .nil⟩
      exact hW _ _ _ _ (N T1 C dx [(f, d)] σ ρ _ μ1 w (S1.trans S2) M2 (L.mono S1.grow))
end
section
variable {fa : List Fc} {fn : List DefP} {K : Frag} {mg : Str → Option Value}
theorem Good.exc0 (G : Good fa fn K mg) (i : Nat) {C : Str} (h : fa[i]? = some (.exc0 C)) : Exc0 K (gA C K) := by
  obtain ⟨c1, c2⟩ := He.ba (show (_ && _) = true from G.fc i h)
  obtain ⟨c2, c3⟩ := He.ba c2
  obtain ⟨c3, c4⟩ := He.ba c3
  refine ⟨of_decide_eq_true c1, c2, of_decide_eq_true (show decide _ = true from c3), ?_⟩
  split at c4
  · rename_i a q
    rw [q, of_decide_eq_true c4]
  · cases c4
theorem Good.exc1 (G : Good fa fn K mg) (i : Nat) {C f : Str} (h : fa[i]? = some (.exc1 C f)) : Exc1 K (gA C K) (mA C "__init__" K) f := by
  obtain ⟨c1, c2⟩ := He.ba (show (_ && _) = true from G.fc i h)
  obtain ⟨c2, c3⟩ := He.ba c2
  obtain ⟨d1, d2⟩ := He.ba c2
  obtain ⟨d2, d3⟩ := He.ba d2
  obtain ⟨d3, d4⟩ := He.ba d3
  obtain ⟨e1, e2⟩ := He.ba c3
  obtain ⟨e2, e3⟩ := He.ba e2
  exact ⟨⟨excObj_of c1, of_decide_eq_true (show decide _ = true from d1), of_decide_eq_true d2, of_decide_eq_true d3, d4⟩, of_decide_eq_true (show decide _ = true from e1), of_decide_eq_true e2, of_decide_eq_true (show decide _ = true from e3)⟩
theorem Good.isi (G : Good fa fn K mg) (i : Nat) {C : Str} (h : fa[i]? = some (.isi C)) : IsiC K (gA C K) := by
  obtain ⟨c1, c2⟩ := He.ba (show (_ && _) = true from G.fc i h)
  obtain ⟨d1, d2⟩ := He.ba (show (_ && _) = true from c1)
  obtain ⟨d2, d3⟩ := He.ba d2
  obtain ⟨d3, d4⟩ := He.ba d3
  obtain ⟨c2, c3⟩ := He.ba c2
  obtain ⟨c3, c4⟩ := He.ba c3
  obtain ⟨c4, c5⟩ := He.ba c4
  exact ⟨⟨d1, d2, d3, of_decide_eq_true (show decide _ = true from d4)⟩, of_decide_eq_true (show decide _ = true from c2), of_decide_eq_true (show decide _ = true from c3), of_decide_eq_true c4, of_decide_eq_true c5⟩
end
end Ml

/-! Ml15: a comparison as data; small rules. -/
namespace Ml
open PySem L2 PySem.W PySem.Calls PyProof.Rows
theorem passX {X : Cx} {E : XK} (hs : X.stack = X.env :: X.outer) (hf : X.env.frame = some X.env.locals) (hex : X.ex = []) {E₁ : Value → Shared → Prop} (hx : X.xe = fun e s' => wpAny (model X.prog X.w) X.A (leaving X.env e) (fun _ s'' => CX X.prog X.w X.outer X.H_0 X.s_0 E e s'') E₁ s') : Passes (CX X.prog X.w) X E :=
  passes_call (takes_of hs hf hex hx) fun _ _ _ _ h => h
theorem lenat {ds : List Dt} {p : Prop} (h : Nat.ble ds.length 1000 = true) (w : p) : ds.length ≤ 1000000 ∧ p := ⟨Nat.le_trans (Nat.le_of_ble_eq_true h) (by decide), w⟩
theorem lt_of_ble {n m : Nat} (h : Nat.ble (n + 1) m = true) : n < m := Nat.le_of_ble_eq_true h
section
variable {K : Frag} {Y : Wish} {T T1 H H1 : Hp} {μ μ1 : Mem} {ρ : Ro} {σ : L2.St} {D : DE}
def MethAt (μ : Mem) (C : Addr) (m : Str) (d : Dt) (R : Prop) : Prop := ((∃ (c : Nat) (a : Addr) (fs : List (Str × Dt)), d = .ref a ∧ μ[c]? = some (a, .ins C fs) ∧ fs.lookup m = none) ∨ ∃ (ns : List Str) (es : List Dt), d = .ins C ns es ∧ (ns.zip es).lookup m = none) ∧ R
theorem methat {c : Nat} {a C : Addr} {fs : List (Str × Dt)} {m : Str} {R : Prop} (hc : μ[c]? = some (a, .ins C fs)) (hl : fs.lookup m = none) (w : R) : MethAt μ C m (.ref a) R := ⟨.inl ⟨_, _, _, rfl, hc, hl⟩, w⟩
theorem methatI {C : Addr} {ns : List Str} {es : List Dt} {m : Str} {R : Prop} (hl : (ns.zip es).lookup m = none) (w : R) : MethAt μ C m (.ins C ns es) R := ⟨.inr ⟨_, _, rfl, hl⟩, w⟩
theorem wp_methU {C : Addr} {m : Str} {s : DSp} {E : XK} {ta : TE} {t : TA} {W : Dt → Mem → Prop} (h : WP K Y ρ μ ta fun d μ1 => MethAt μ1 C m d (WPA K Y ρ μ1 t fun ds μ2 => s (d :: ds) μ2 W noX)) : WP K Y ρ μ (tMeth C m (spD K s) [] E ta t) W := fun T σ H M L N Q F =>
  h T σ H M L N _ fun T1 x H1 d μ1 ⟨k, w⟩ S1 M1 r1 => by
    rcases k with ⟨c, a, fs, rfl, hc, hl⟩ | ⟨ns, es, rfl, hl⟩
    · obtain rfl := r1.ref_inv
      obtain ⟨dx, us, h1, h2⟩ := M1.get hc
      exact ⟨a, dx, us, rfl, h1, (lookup_prep h2 m).1 hl, w T1 σ H1 M1 (L.mono S1.grow) (N.go S1) _ fun T2 xs H2 ds μ2 w2 S2 M2 r2 => ⟨T2, μ2, _, W, noX, M2, by rw [List.append_nil]; exact .cons (.ref a) r2, w2, F.go (S1.trans S2) fun _ _ w => w, finX_no⟩⟩
    · obtain ⟨a, dx, us, rfl, h1, h2, h3⟩ := r1.ins_inv
      exact ⟨a, dx, _, rfl, M1.sub _ _ h1, (zip_lookup h3 h2 m).1 hl, w T1 σ H1 M1 (L.mono S1.grow) (N.go S1) _ fun T2 xs H2 ds μ2 w2 S2 M2 r2 => ⟨T2, μ2, _, W, noX, M2, by rw [List.append_nil]; exact .cons (r1.mono S2.grow) r2, w2, F.go (S1.trans S2) fun _ _ w => w, finX_no⟩⟩
theorem wp_methUX {C : Addr} {m : Str} {s : DSp} {E : XK} {ta : TE} {t : TA} {W : Dt → Mem → Prop} (hY : ∀ c d σ H, Y.W c d σ H = E c d H) (h : WP K Y ρ μ ta fun d μ1 => MethAt μ1 C m d (WPA K Y ρ μ1 t fun ds μ2 => s (d :: ds) μ2 W fun C fs μ3 => Y.X C fs ρ μ3)) : WP K Y ρ μ (tMeth C m (spD K s) [] E ta t) W := fun T σ H M L N Q F =>
  h T σ H M L N _ fun T1 x H1 d μ1 ⟨k, w⟩ S1 M1 r1 => by
    have fx : ∀ {T2 H2 μ2}, Step T1 μ1 H1 T2 μ2 H2 → FinX K T2 μ2 H2 (fun C fs μ3 => Y.X C fs ρ μ3) E := fun S2 T' C dx fs H' μ' hx S' M' => by
      rw [← hY]
      exact (N.go (S1.trans S2)) T' C dx fs σ ρ H' μ' hx S' M' (L.mono ((S1.trans S2).grow.trans S'.grow))
    rcases k with ⟨c, a, fs, rfl, hc, hl⟩ | ⟨ns, es, rfl, hl⟩
    · obtain rfl := r1.ref_inv
      obtain ⟨dx, us, h1, h2⟩ := M1.get hc
      exact ⟨a, dx, us, rfl, h1, (lookup_prep h2 m).1 hl, w T1 σ H1 M1 (L.mono S1.grow) (N.go S1) _ fun T2 xs H2 ds μ2 w2 S2 M2 r2 => ⟨T2, μ2, _, W, _, M2, by rw [List.append_nil]; exact .cons (.ref a) r2, w2, F.go (S1.trans S2) fun _ _ w => w, fx S2⟩⟩
    · obtain ⟨a, dx, us, rfl, h1, h2, h3⟩ := r1.ins_inv
      exact ⟨a, dx, _, rfl, M1.sub _ _ h1, (zip_lookup h3 h2 m).1 hl, w T1 σ H1 M1 (L.mono S1.grow) (N.go S1) _ fun T2 xs H2 ds μ2 w2 S2 M2 r2 => ⟨T2, μ2, _, W, _, M2, by rw [List.append_nil]; exact .cons (r1.mono S2.grow) r2, w2, F.go (S1.trans S2) fun _ _ w => w, fx S2⟩⟩
theorem propat {c : Nat} {a C : Addr} {fs : List (Str × Dt)} {R : Addr → Prop} (hc : μ[c]? = some (a, .ins C fs)) (w : R a) : ∃ (c' : Nat) (a' : Addr) (fs' : List (Str × Dt)), Dt.ref a = Dt.ref a' ∧ μ[c']? = some (a', .ins C fs') ∧ R a' := ⟨_, _, _, rfl, hc, w⟩
/-- d.f = e -/
def PutAt (K : Frag) (μ : Mem) (d : Dt) (f : Str) (e : Dt) (W : Mem → Prop) : Prop := ∃ (c : Nat) (a C : Addr) (fs : List (Str × Dt)), d = .ref a ∧ μ[c]? = some (a, .ins C fs) ∧ Cls K C ∧ NoAttr K C f ∧ fs.length < 1000 ∧ W (μ.set c (a, .ins C (putD f e fs)))
theorem wps_fldP {ta tv : TE} {f : Str} (h : WP K Y ρ μ tv fun e μ1 => WP K Y ρ μ1 ta fun d μ2 => PutAt K μ2 d f e fun μ3 => D.nx ρ μ3) : WPS K Y ρ μ (sFld K ta tv f) D := wps_fld h
theorem putat {c : Nat} {a C : Addr} {fs : List (Str × Dt)} {f : Str} {e : Dt} {W : Mem → Prop} (hc : μ[c]? = some (a, .ins C fs)) (cl : Cls K C) (na : NoAttr K C f) (hl : Nat.ble (fs.length + 1) 1000 = true) (w : W (μ.set c (a, .ins C (putD f e fs)))) : PutAt K μ (.ref a) f e W := ⟨_, _, _, _, rfl, hc, cl, na, lt_of_ble hl, w⟩
theorem IsLst.push {d : Dt} {ds : List Dt} {x : Addr × Mo} (h : IsLst μ d ds) : IsLst (x :: μ) d ds := by
  rcases h with h | ⟨c, a, e, hc⟩
  · exact .inl h
  · exact .inr ⟨c + 1, a, e, hc⟩
theorem retL_get {W : Dt → Mem → Prop} {ds : List Dt} (h : RetL W ds μ) : RetL W ds μ := h
/-- list(..), sorted(..): data or a cell -/
theorem rwL_list {d : Dt} {ds : List Dt} {W : Dt → Mem → Prop} (h : IsSq μ d ds) (w : RetL W ds μ) : RWL K μ (Evl.rListS K) [d] W := by
  rcases w with w | w
  · exact rw_list h w
  · exact rw_listC h w
theorem rwL_sorted {d : Dt} {ds : List Dt} {W : Dt → Mem → Prop} (h : IsLst μ d ds) (S : Sorts ds) (w : RetL W (sortD ds) μ) : RWL K μ (rSortD K) [d] W := by
  rcases w with w | w
  · exact rw_sorted h S w
  · exact rw_sortedC h S w
end
theorem atI_get {α : Type} {xs : List α} {k : Nat} {x : α} (h : xs[k]? = some x) : atI xs (k : Int) = some x := by
  have hk := (List.getElem?_eq_some_iff.mp h).1
  have e : ixN xs.length (k : Int) = some k := by
    unfold ixN
    have h1 : (0 : Int) ≤ k := by omega
    have h2 : (k : Int) < xs.length := by omega
    rw [if_pos h1, if_pos h2]
    rfl
  unfold atI
  rw [e]
  exact h
theorem atI_map {α : Type} {enc : α → Dt} {xs : List α} {k : Nat} {x : α} (h : xs[k]? = some x) : atI (xs.map enc) (k : Int) = some (enc x) := atI_get (by rw [List.getElem?_map, h]; rfl)
theorem atI_zero {α : Type} {x : α} {xs : List α} : atI (x :: xs) 0 = some x := atI_get (k := 0) rfl
theorem cut_take {α : Type} {xs : List α} {k : Nat} (h : k ≤ xs.length) : cutD xs none (some (k : Int)) = xs.take k := by
  unfold cutD
  have e1 : HT.sIx xs.length 0 none = 0 := rfl
  have e2 : HT.sIx xs.length xs.length (some (k : Int)) = k := by
    simp only [HT.sIx]
    split <;> omega
  rw [e1, e2]
  simp
/-! ### comparison -/
abbrev stD (K : Frag) (s : Stt) : Dt := .ins (gA "State" K) ["mine", "theirs", "cap", "fixed"] [.lst (s.own.map lnD), .lst (s.other.map lnD), .int s.cap, .lst (s.fixed.map prD)]
abbrev cmpMo (K : Frag) (sts : List Stt) (k : Nat) : Mo := .ins (gA "Comparison" K) [("states", .lst (sts.map (stD K))), ("spot", .int (k : Int))]
/-- rows that begin with an id -/
abbrev rowD (r : Int × List Dt) : Dt := .tup (.int r.1 :: r.2)
theorem rows_ln (ls : List Ln) : ls.map lnD = (ls.map fun l => (l.1, [Dt.int l.2.1, Dt.int l.2.2])).map rowD := by rw [List.map_map]; rfl
theorem rows_pr (ls : List Pr) : ls.map prD = (ls.map fun l => (l.1, [Dt.int l.2])).map rowD := by rw [List.map_map]; rfl
inductive Er where
  | line (l : Ln) | price (i : Int) | number (i : Int) | unknown (i : Int) | takenId (i : Int) | takenLine (i : Int) | unpaired (i : Int) | nothing (s : Str)
def Er.C (K : Frag) : Er → Addr
  | .line _ => gA "BadLine" K
  | .price _ => gA "BadPrice" K
  | .number _ => gA "BadNumber" K
  | .unknown _ => gA "UnknownLine" K
  | .takenId _ => gA "TakenId" K
  | .takenLine _ => gA "TakenLine" K
  | .unpaired _ => gA "Unpaired" K
  | .nothing _ => gA "NothingToDo" K
def Er.fs : Er → List (Str × Dt)
  | .line l => [("value", lnD l)]
  | .price i => [("value", .int i)]
  | .number i => [("value", .int i)]
  | .unknown i => [("row_id", .int i)]
  | .takenId i => [("row_id", .int i)]
  | .takenLine i => [("row_id", .int i)]
  | .unpaired i => [("amount", .int i)]
  | .nothing s => [("action", .str s)]
def lineOk (a b c : Int) : Bool := (decide (1 ≤ a) && decide (a ≤ 1000000)) && ((decide (0 ≤ b) && decide (b ≤ 1000000)) && ((decide (-1000000000000 ≤ c) && decide (c ≤ 1000000000000)) && !decide (c = 0)))
def priceOk (i : Int) : Bool := decide (0 ≤ i) && decide (i ≤ 1000000000000)
def ids (ls : List Ln) : List Int := ls.map (·.1)
def needLine (ls : List Ln) (l : Ln) : Option Er := if lineOk l.1 l.2.1 l.2.2 = false then some (.line l) else if l.1 ∈ ids ls then some (.takenId l.1) else if ls.length = 60 then some (.number 61) else none
def needKnown (is : List Int) (i : Int) : Option Er := if i ∈ is then none else some (.unknown i)
/-- how a check ends -/
def Ends0 (K : Frag) (μ : Mem) (W : Dt → Mem → Prop) (X : Addr → List (Str × Dt) → Mem → Prop) : Option Er → Prop
  | none => W .non μ
  | some e => X (e.C K) e.fs μ
def addOwn (s : Stt) (l : Ln) : Except Er Stt := match needLine s.own l with
  | some e => .error e
  | none => .ok { s with own := sortLn (s.own ++ [l]) }
def addOther (s : Stt) (l : Ln) : Except Er Stt := match needLine s.other l with
  | some e => .error e
  | none => .ok { s with other := sortLn (s.other ++ [l]) }
def dropOwn (s : Stt) (i : Int) : Except Er Stt := match needKnown (ids s.own) i with
  | some e => .error e
  | none => .ok { s with own := s.own.filter fun l => decide (l.1 ≠ i), fixed := s.fixed.filter fun p => decide (p.1 ≠ i) }
def dropOther (s : Stt) (i : Int) : Except Er Stt := match needKnown (ids s.other) i with
  | some e => .error e
  | none => .ok { s with other := s.other.filter fun l => decide (l.1 ≠ i), fixed := s.fixed.filter fun p => decide (p.2 ≠ i) }
def setPrice (s : Stt) (i : Int) : Except Er Stt := if priceOk i = true then .ok { s with cap := i } else .error (.price i)
def confirmS (s : Stt) (i j : Int) : Except Er Stt := match needKnown (ids s.own) i with
  | some e => .error e
  | none => match needKnown (ids s.other) j with
    | some e => .error e
    | none => if i ∈ s.fixed.map (·.1) then .error (.takenLine i) else if j ∈ s.fixed.map (·.2) then .error (.takenLine j) else .ok { s with fixed := sortPr (s.fixed ++ [(i, j)]) }
def openAgain (s : Stt) (i : Int) : Except Er Stt := match needKnown (s.fixed.map (·.1)) i with
  | some e => .error e
  | none => .ok { s with fixed := s.fixed.filter fun p => decide (p.1 ≠ i) }
def keepS (sts : List Stt) (k : Nat) (s : Stt) : List Stt := sts.take (k + 1) ++ [s]
/-- how a change ends: c the comparison's cell -/
def EndsS (K : Frag) (μ : Mem) (c : Nat) (a : Addr) (sts : List Stt) (k : Nat) (W : Dt → Mem → Prop) (X : Addr → List (Str × Dt) → Mem → Prop) : Except Er Stt → Prop
  | .ok s => W .non (μ.set c (a, cmpMo K (keepS sts k s) (k + 1)))
  | .error e => X (e.C K) e.fs μ
/-- a comparison stands at a, small enough -/
structure CmpAt (K : Frag) (μ : Mem) (c : Nat) (a : Addr) (sts : List Stt) (k : Nat) (s : Stt) : Prop where
  cell : μ[c]? = some (a, cmpMo K sts k)
  now : sts[k]? = some s
  few : sts.length ≤ 100000
  own : s.own.length ≤ 1000
  other : s.other.length ≤ 1000
  fixed : s.fixed.length ≤ 1000
theorem CmpAt.push {K : Frag} {μ : Mem} {c k : Nat} {a : Addr} {sts : List Stt} {s : Stt} {x : Addr × Mo} (h : CmpAt K μ c a sts k s) : CmpAt K (x :: μ) (c + 1) a sts k s := ⟨h.cell, h.now, h.few, h.own, h.other, h.fixed⟩
end Ml

/-! Ml16: whole numbers of many bits; the law's stream. -/
namespace Ml
open PySem L2 PySem.W PySem.Calls PyProof.Rows
theorem bits_iff {z : Int} {b : Nat} : Builtin.Int.intBits z ≤ b ↔ z.natAbs < 2 ^ b := by
  unfold Builtin.Int.intBits
  by_cases h : z = 0
  · subst h
    simp
    exact Nat.two_pow_pos b
  · have e : (z == 0) = false := by simpa using h
    rw [e]
    have hn : z.natAbs ≠ 0 := by omega
    have := Nat.log2_lt (n := z.natAbs) (k := b) hn
    simp only [Bool.false_eq_true, if_false]
    omega
theorem bits_seed {sd n : Int} {b : Nat} (h1 : sd.natAbs < 2147483648) (h2 : Builtin.Int.intBits n ≤ b) : Builtin.Int.intBits (sd * 40127 + n) ≤ b + 48 := by
  rw [bits_iff] at h2 ⊢
  have e1 : (sd * 40127 + n).natAbs ≤ sd.natAbs * 40127 + n.natAbs := by
    have h3 := Int.natAbs_add_le (sd * 40127) n
    rw [Int.natAbs_mul] at h3
    exact h3
  have e2 : sd.natAbs * 40127 < 2 ^ 47 := by
    have : sd.natAbs * 40127 ≤ 2147483648 * 40127 := Nat.mul_le_mul_right _ (by omega)
    have e : (2147483648 * 40127 : Nat) < 2 ^ 47 := by decide
    omega
  have e3 : (2 : Nat) ^ (b + 48) = 2 ^ b * 2 ^ 48 := Nat.pow_add 2 b 48
  have e4 : 1 ≤ 2 ^ b := Nat.one_le_two_pow
  have e5 : (2 : Nat) ^ 48 = 2 ^ 47 * 2 := by decide
  rw [e3, e5]
  generalize 2 ^ b = B at *
  have e6 : (2 : Nat) ^ 47 = 140737488355328 := by decide
  rw [e6] at *
  have : B * (140737488355328 * 2) ≥ B * 140737488355328 + B * 140737488355328 := by omega
  omega
theorem bits_le {z : Int} (h0 : 0 ≤ z) (h : z < 2147483648) : Builtin.Int.intBits z ≤ 31 := bits_iff.mpr (by
  have e : (2 : Nat) ^ 31 = 2147483648 := by decide
  omega)
theorem cpow_small {z n : Int} (h0 : 0 ≤ z) (h : z < 2147483648) (hn : 0 ≤ n) (hm : n ≤ 1000) : CPowB z n := by
  refine ⟨hn, ?_⟩
  have h1 : (Builtin.Int.intBits z : Int) ≤ 31 := by exact_mod_cast bits_le h0 h
  have h2 : (0 : Int) ≤ Builtin.Int.intBits z := by omega
  have h3 : (Builtin.Int.intBits z : Int) * n ≤ 31 * 1000 := Int.mul_le_mul h1 hm hn (by decide)
  have h4 : (2 : Int) ^ 27 = 134217728 := by decide
  omega
theorem cmul_l {i j : Int} (h0 : 0 ≤ i) (h : i < 2147483648) : CMul i j := by
  have e : (2 : Int) ^ 64 = 18446744073709551616 := by decide
  exact .inl ⟨by omega, by omega⟩
/-- the law's stream of draws -/
structure StrAt (μ : Mem) (c : Nat) (a : Addr) : Prop where
  ex : ∃ dg sd : Int, μ[c]? = some (a, .lst [.int dg, .int sd]) ∧ 0 ≤ dg ∧ 0 ≤ sd ∧ sd < 2147483648
theorem StrAt.mk' {μ : Mem} {c : Nat} {a : Addr} {dg sd : Int} (h : μ[c]? = some (a, .lst [.int dg, .int sd])) (h1 : 0 ≤ dg) (h2 : 0 ≤ sd) (h3 : sd < 2147483648) : StrAt μ c a := ⟨dg, sd, h, h1, h2, h3⟩
def q_law_draw (s n : Dt) : Post := fun μ W _ => ∃ (c : Nat) (a : Addr) (m : Int), s = .ref a ∧ n = .int m ∧ StrAt μ c a ∧ 1 ≤ m ∧ m < 1073741824 ∧ ∀ r x, 0 ≤ r → r < m → StrAt (μ.set c (a, x)) c a → W (.int r) (μ.set c (a, x))
abbrev sp__law_draw (_ : Frag) : DSp := sp2 q_law_draw
def q_law_stream (s n : Dt) : Post := fun μ W _ => ∃ (ns : List Int) (i : Int), s = .fls (ns.map .int) ∧ n = .int i ∧ 0 ≤ i ∧ i ≤ 100 ∧ ns.length ≤ 1000 ∧ (∀ z ∈ ns, Builtin.Int.intBits z ≤ 1048576) ∧ ∀ p x, p ∉ dom μ → StrAt ((p, x) :: μ) 0 p → W (.ref p) ((p, x) :: μ)
abbrev sp__law_stream (_ : Frag) : DSp := sp2 q_law_stream
def q_law (s : Dt) : Post := fun μ W _ => ∃ ns : List Int, s = .fls (ns.map .int) ∧ ns.length ≤ 63 ∧ (∀ z ∈ ns, Builtin.Int.intBits z ≤ 1048576) ∧ ∀ μ', W (.bl true) μ'
abbrev sp_law (_ : Frag) : DSp := sp1 q_law
theorem drawat {μ : Mem} {a : Addr} {m : Int} {x : Mo} {W : Dt → Mem → Prop} {X : Addr → List (Str × Dt) → Mem → Prop} (h : StrAt ((a, x) :: μ) 0 a) (h1 : 1 ≤ m) (h2 : m < 1073741824) (w : ∀ r y, 0 ≤ r → r < m → StrAt ((a, y) :: μ) 0 a → W (.int r) ((a, y) :: μ)) : q_law_draw (.ref a) (.int m) ((a, x) :: μ) W X := ⟨0, a, m, rfl, rfl, h, h1, h2, w⟩
/-! ### the states of k51 -/
theorem sortLn_one (l : Ln) : sortLn [l] = [l] := by simp [sortLn]
theorem sortPr_one (l : Pr) : sortPr [l] = [l] := by simp [sortPr]
theorem lineOk_iff {a b c : Int} : lineOk a b c = true ↔ (1 ≤ a ∧ a ≤ 1000000) ∧ (0 ≤ b ∧ b ≤ 1000000) ∧ (-1000000000000 ≤ c ∧ c ≤ 1000000000000) ∧ c ≠ 0 := by
  simp [lineOk]
theorem needLine_none {ls : List Ln} {l : Ln} (h1 : lineOk l.1 l.2.1 l.2.2 = true) (h2 : l.1 ∉ ids ls) (h3 : ls.length ≠ 60) : needLine ls l = none := by
  unfold needLine
  rw [if_neg (by rw [h1]; decide), if_neg h2, if_neg h3]
theorem addOwn_ok {s : Stt} {l : Ln} (h1 : lineOk l.1 l.2.1 l.2.2 = true) (h2 : l.1 ∉ ids s.own) (h3 : s.own.length ≠ 60) : addOwn s l = .ok { s with own := sortLn (s.own ++ [l]) } := by
  unfold addOwn
  rw [needLine_none h1 h2 h3]
theorem addOther_ok {s : Stt} {l : Ln} (h1 : lineOk l.1 l.2.1 l.2.2 = true) (h2 : l.1 ∉ ids s.other) (h3 : s.other.length ≠ 60) : addOther s l = .ok { s with other := sortLn (s.other ++ [l]) } := by
  unfold addOther
  rw [needLine_none h1 h2 h3]
theorem known {is : List Int} {i : Int} (h : i ∈ is) : needKnown is i = none := if_pos h
theorem confirm_ok {s : Stt} {i j : Int} (h1 : i ∈ ids s.own) (h2 : j ∈ ids s.other) (h3 : i ∉ s.fixed.map (·.1)) (h4 : j ∉ s.fixed.map (·.2)) : confirmS s i j = .ok { s with fixed := sortPr (s.fixed ++ [(i, j)]) } := by
  unfold confirmS
  rw [known h1]
  simp only [known h2]
  rw [if_neg h3, if_neg h4]
theorem price_ok {s : Stt} {i : Int} (h0 : 0 ≤ i) (h1 : i ≤ 1000000000000) : setPrice s i = .ok { s with cap := i } := by
  unfold setPrice
  rw [if_pos (by simp [priceOk, h0, h1])]
theorem open_ok {s : Stt} {i : Int} (h : i ∈ s.fixed.map (·.1)) : openAgain s i = .ok { s with fixed := s.fixed.filter fun p => decide (p.1 ≠ i) } := by
  unfold openAgain
  rw [known h]
theorem dropOwn_ok {s : Stt} {i : Int} (h : i ∈ ids s.own) : dropOwn s i = .ok { s with own := s.own.filter fun l => decide (l.1 ≠ i), fixed := s.fixed.filter fun p => decide (p.1 ≠ i) } := by
  unfold dropOwn
  rw [known h]
theorem dropOther_ok {s : Stt} {i : Int} (h : i ∈ ids s.other) : dropOther s i = .ok { s with other := s.other.filter fun l => decide (l.1 ≠ i), fixed := s.fixed.filter fun p => decide (p.2 ≠ i) } := by
  unfold dropOther
  rw [known h]
theorem cmpat {K : Frag} {μ : Mem} {c : Nat} {a : Addr} {sts : List Stt} {k : Nat} {s : Stt} (h : μ[c]? = some (a, cmpMo K sts k)) (n : sts[k]? = some s) (h1 : Nat.ble sts.length 100000 = true) (h2 : Nat.ble s.own.length 1000 = true) (h3 : Nat.ble s.other.length 1000 = true) (h4 : Nat.ble s.fixed.length 1000 = true) : CmpAt K μ c a sts k s := ⟨h, n, Nat.le_of_ble_eq_true h1, Nat.le_of_ble_eq_true h2, Nat.le_of_ble_eq_true h3, Nat.le_of_ble_eq_true h4⟩
end Ml

/-! Ml17: from the facts to the law's own walk. -/
namespace Ml
open PySem L2 PySem.W PySem.Calls PyProof.Rows
theorem reps_ints {K : Frag} {T : Hp} : ∀ ns : List Int, Reps K T (ns.map V.int) (ns.map Dt.int)
  | [] => .nil
  | n :: ns => .cons (.int n) (reps_ints ns)
theorem Good.bindsTo {fa : List Fc} {fn : List DefP} {K : Frag} {mg : Str → Option Value} (G : Good fa fn K mg) (i : Nat) {d : DefP} (h : fn[i]? = some d) (hd : d.dfl = []) {ps : List Str} (hb : ∀ (kV doc pm : Value) (an : Option Addr) (cdv ct : Value) (us : List Value), us.length = ps.length → bindArgs (fnOf d.name d.qual (defArgs d.st) (defBody d.st) (defScope d.st) .none kV doc pm an cdv ct) ⟨us, []⟩ = pure (ps.zip us)) (s : Shared) (us : List Value) (hl : us.length = ps.length) : BindsTo s (fdOf K (d.at_ K)) ⟨us, []⟩ (ps.zip us) := by
  obtain ⟨⟨oc, od, dV, kV, doc, pm, an, cdv, ct, osl, e, hl, hc, hv, hk⟩, kp⟩ := G.def_ i h
  have e0 : d.dvs K = [] := by unfold DefP.dvs; rw [hd]; rfl
  rw [e0] at hv
  rcases hv with ⟨_, rfl⟩ | ⟨hne, _⟩
  · rw [e]
    exact .of_eq (hb kV doc pm an cdv ct us ‹_›)
  · exact absurd rfl hne
theorem walk_gen {l : OpenLaw} {q : Program} {loose : List Str} {XP : (Str → Option Value) → Heap → Prop} {d : DefRec} {fa : List Fc} {fn : List DefP} {n k : Nat} (hn : l.most = some 63) (hdf : d.params.defaults = []) (hr : Room k callerA) (hd : d.name = "law")
    (F : ∀ (w : World) (K : Frag) (mg : Str → Option Value), Good fa fn K mg → ∀ base : Heap, FnOk l.prog w K mg base (L2.CX l.prog w) k (gA "law" K) (fdOf K (gA "law" K)) ["script"] (spD K (sp_law K)))
    (bt : ∀ (K : Frag) (mg : Str → Option Value), Good fa fn K mg → ∀ (s : Shared) (u : Value), BindsTo s (fdOf K (gA "law" K)) { pos := [u] } [("script", u)])
    (glo : ∀ (K : Frag) (mg : Str → Option Value), Good fa fn K mg → mg "law" = some (.ref (gA "law" K))) : PySem.W.WalkO q loose XP (hookP n fa fn).says l.row.toRowW d [] (fun f vs => PySem.call f vs) :=
  Att.attach_callB hn hdf fun w s₀ s₁ mg mb a' o pm cd doc a vs ns G Y ho ht hcd hmg hobj hints hlen hbits hg => by
    obtain ⟨K, KX, e⟩ := Y
    have GG : Good fa fn K mg := ⟨e, s₁.heap, KX, G.T.g⟩
    have ea : a' = gA "law" K := by
      rw [hd, glo K mg GG] at hmg
      cases hmg
      rfl
    subst ea
    refine law_call KX G.T.g G.T.b G.T.builtins G.T.nolimit hg hobj hints (Nat.le_trans hlen (by decide)) hr (fun base _ _ => F w K mg GG base) (bt K mg GG) (fun H hO hS => ?_) fun H e s' ⟨_, _, _, _, _, _, _, _, _, _, _, _, h⟩ => h
    refine ⟨H, [], [.fls (ns.map .int)], fun d _ => d = .bl true, noX, ⟨Sub.refl _, (fun _ h => absurd h List.not_mem_nil), List.nodup_nil⟩, .cons (.fls hS (reps_ints ns)) .nil, ⟨_, rfl, ns, rfl, hlen, hbits, fun _ => rfl⟩, ?_, finX_no⟩
    rintro T' v H' d μ' rfl _ _ r
    exact r.bl_inv
end Ml

/-! Ml18: try .. except over data; dicts written out. -/
namespace Ml
open PySem L2 PySem.W PySem.Calls PyProof.Rows
/-! ### a method that may raise, in a try -/
def tMethT (C : Addr) (m : Str) (sp : Sp) (E : L2.St → XK) (ta : TE) (t : TA) : TE := fun σ H Q => ta σ H fun x H1 => ∃ a dx fs, x = .ref a ∧ H1 a = some (.ins C dx fs) ∧ fs.lookup m = none ∧ t σ H1 fun vs H2 => sp (x :: vs) H2 Q (E σ)
theorem pe_methT {X : Cx} {CX : CXT} {k : Nat} {f C : Addr} {fd : FuncData} {ps : List Str} {sp : Sp} {E : L2.St → XK} {m : Str} {pos apos : Pos} {e o : Expr} {es : List Expr} {ta : TE} {t : TA} {pl : Sem Bool}
    (he : PE X o ta) (c : Cls X.K C) (hm : Meth X.K C m f) (F : FnOk X.prog X.w X.K X.mg X.base CX k f fd ps sp) (hr : Room k X.A) (hb : L2.Binds X.K fd ps []) (hx : ∀ σ, PassesAt CX X σ (E σ)) (ha : PA X (e :: es) t)
    (hst : starEach (e :: es) X.env = (false, eval e X.env) :: starEach es X.env := by rfl) (hpl : ((backTo pos (starEach es X.env)).any fun x => x.fst) = false := by rfl)
    (ht : eval ((o.Attribute m apos).Call (e :: es) [] pos) X.env = (do let ov ← eval o X.env; standAt apos.atName; let (f, first) ← holding [ov] (getMethod ov m pl); callWith pos f first (backTo pos (starEach (e :: es) X.env)) (backToKw pos (keywordEach [] X.env))) := by rfl) :
    PE X ((o.Attribute m apos).Call (e :: es) [] pos) (tMethT C m sp E ta t) where
  run := fun pins s σ H Q I h => methodCall_KW (thn (he.run pins s σ H _ I h) fun u s1 ⟨x, H1, I1, rx, a, dx, fs, ex, ea, l, q⟩ => by
    subst ex
    cases rx
    exact getmeth_ok I1 ea c hm l (callWith_K I1.ok.mod.kin hm.kp (thn (ha.run pos pins s1 σ H1 (fun vs H2 => sp (V.ref a :: vs) H2 Q (E σ)) I1 q) fun us s2 ⟨vs, H2, I2, r, q2⟩ => ⟨I2.kIn, run_fnS F hr hb (hx σ) I2 (Paired.cons (show RelV (V.ref a) (Value.ref a) from rfl) r) q2⟩) hst hpl)) ht
theorem pe_methT0 {X : Cx} {CX : CXT} {k : Nat} {f C : Addr} {fd : FuncData} {ps : List Str} {sp : Sp} {E : L2.St → XK} {m : Str} {pos apos : Pos} {o : Expr} {ta : TE} {pl : Sem Bool}
    (he : PE X o ta) (c : Cls X.K C) (hm : Meth X.K C m f) (F : FnOk X.prog X.w X.K X.mg X.base CX k f fd ps sp) (hr : Room k X.A) (hb : L2.Binds X.K fd ps []) (hx : ∀ σ, PassesAt CX X σ (E σ))
    (ht : eval ((o.Attribute m apos).Call [] [] pos) X.env = (do let ov ← eval o X.env; standAt apos.atName; let (f, first) ← holding [ov] (getMethod ov m pl); callWith pos f first (backTo pos (starEach [] X.env)) (backToKw pos (keywordEach [] X.env))) := by rfl) :
    PE X ((o.Attribute m apos).Call [] [] pos) (tMethT C m sp E ta tNil) where
  run := fun pins s σ H Q I h => methodCall_KW (thn (he.run pins s σ H _ I h) fun u s1 ⟨x, H1, I1, rx, a, dx, fs, ex, ea, l, q⟩ => by
    subst ex
    cases rx
    exact getmeth_ok I1 ea c hm l (callWith_K0 I1.kIn hm.kp (run_fnS F hr hb (hx σ) I1 (Paired.cons (show RelV (V.ref a) (Value.ref a) from rfl) Paired.nil) q))) ht
theorem fnR_of {P : Program} {w : World} {K : Frag} {mg : Str → Option Value} {base : Heap} {CX : CXT} {k : Nat} {f : Addr} {fd : FuncData} {ps : List Str} {sp : Sp} (F : FnOk P w K mg base CX k f fd ps sp) (hb : L2.Binds K fd ps []) : FnR P w K mg base CX k f sp := fun A outer s H us vs Q E hr he hv h => by
  have hl := F.len vs H Q E h
  have b := hb s us (fun a o q => (he.bs a o (he.mod.kin a o q)).1) (by rw [List.append_nil, ← hv.length]; exact hl)
  rw [List.append_nil] at b
  exact F.run A outer s H ⟨us, []⟩ us vs Q E hr he b hv h
section
variable {K : Frag} {Y : Wish} {T T1 H H1 : Hp} {μ μ1 : Mem} {ρ : Ro} {σ : L2.St} {D : DE}
theorem wp_methT {C : Addr} {m : Str} {s : DSp} {ta : TE} {t : TA} {W : Dt → Mem → Prop} (h : WP K Y ρ μ ta fun d μ1 => MethAt μ1 C m d (WPA K Y ρ μ1 t fun ds μ2 => s (d :: ds) μ2 W fun C fs μ3 => Y.X C fs ρ μ3)) : WP K Y ρ μ (tMethT C m (spD K s) (WE Y.W) ta t) W := fun T σ H M L N Q F =>
  h T σ H M L N _ fun T1 x H1 d μ1 ⟨k, w⟩ S1 M1 r1 => by
    have fx : ∀ {T2 H2 μ2}, Step T1 μ1 H1 T2 μ2 H2 → FinX K T2 μ2 H2 (fun C fs μ3 => Y.X C fs ρ μ3) (WE Y.W σ) := fun S2 T' C dx fs H' μ' hx S' M' =>
      (N.go (S1.trans S2)) T' C dx fs σ ρ H' μ' hx S' M' (L.mono ((S1.trans S2).grow.trans S'.grow))
    rcases k with ⟨c, a, fs, rfl, hc, hl⟩ | ⟨ns, es, rfl, hl⟩
    · obtain rfl := r1.ref_inv
      obtain ⟨dx, us, h1, h2⟩ := M1.get hc
      exact ⟨a, dx, us, rfl, h1, (lookup_prep h2 m).1 hl, w T1 σ H1 M1 (L.mono S1.grow) (N.go S1) _ fun T2 xs H2 ds μ2 w2 S2 M2 r2 => ⟨T2, μ2, _, W, _, M2, .cons (.ref a) r2, w2, F.go (S1.trans S2) fun _ _ w => w, fx S2⟩⟩
    · obtain ⟨a, dx, us, rfl, h1, h2, h3⟩ := r1.ins_inv
      exact ⟨a, dx, _, rfl, M1.sub _ _ h1, (zip_lookup h3 h2 m).1 hl, w T1 σ H1 M1 (L.mono S1.grow) (N.go S1) _ fun T2 xs H2 ds μ2 w2 S2 M2 r2 => ⟨T2, μ2, _, W, _, M2, .cons (r1.mono S2.grow) r2, w2, F.go (S1.trans S2) fun _ _ w => w, fx S2⟩⟩
/-! ### try: .. except C as n: .. -/
/-- an exception of class C with fields fs comes to the except clause for the class c; the suite is ts -/
def Caught (K : Frag) (Y : Wish) (c : Value) (i : Nat) (ts : Addr → Value → Option Addr → TS) (D : DE) (C : Addr) (fs : List (Str × Dt)) (ρ : Ro) (μ : Mem) : Prop :=
  ∃ b, exmOne K (.ref C) c = some b ∧ (b = true → ∀ a dx, WPS K noW (ρ.set i (some (.ref a))) ((dx, .xd fs) :: μ) (ts a (.ref C) (some dx)) { nx := fun ρ m => D.nx (ρ.set i none) m, rt := D.rt, bk := fun ρ m => D.bk (ρ.set i none) m, ct := fun ρ m => D.ct (ρ.set i none) m }) ∧ (b = false → Y.X C fs ρ μ)
theorem wps_tryas {c : Value} {i : Nat} {ts : Addr → Value → Option Addr → TS} {tb : WX → TS} {Wout : WX} (hW : ∀ cls d σ H, Y.W cls d σ H → Wout cls d σ H) (h : ∀ W : WX, WPS K ⟨W, Caught K Y c i ts D⟩ ρ μ (tb W) D) : WPS K Y ρ μ (fun E σ H => tb (wAs K c i ts Wout E) E σ H) D := fun T σ H M L N E F =>
  h (wAs K c i ts Wout E) T σ H M L (fun T' C dx fs σ' ρ' H' μ' ⟨b, hb, h1, h2⟩ S' M' L' => ⟨b, hb, fun e a _ => h1 e a dx T' _ H' M' (L'.set (.ref a) i) (fun _ _ _ _ _ _ _ _ h => h.elim) _ ⟨fun T2 σ2 H2 ρ2 μ2 w2 S2 M2 L2 => F.nx T2 _ H2 _ μ2 w2 (S'.trans S2) M2 (L2.clear i), F.rt.go S' fun _ _ w => w, fun T2 σ2 H2 ρ2 μ2 w2 S2 M2 L2 => F.bk T2 _ H2 _ μ2 w2 (S'.trans S2) M2 (L2.clear i), fun T2 σ2 H2 ρ2 μ2 w2 S2 M2 L2 => F.ct T2 _ H2 _ μ2 w2 (S'.trans S2) M2 (L2.clear i)⟩, fun e => hW _ _ _ _ (N T' C dx fs σ' ρ' H' μ' (h2 e) S' M' L')⟩) E F
/-- n.f of the caught error -/
theorem wp_xf {a dx C : Addr} {f : Str} {te : TE} {c : Nat} {fs : List (Str × Dt)} {e : Dt} {W : Dt → Mem → Prop} (h : WP K Y ρ μ te fun d μ1 => d = .ref a ∧ μ1[c]? = some (dx, .xd fs) ∧ fs.lookup f = some e ∧ W e μ1) : WP K Y ρ μ (tXf a (.ref C) (some dx) C f te) W := fun T σ H M L N Q F =>
  h T σ H M L N _ fun T1 x H1 d μ1 ⟨ed, hc, hl, w⟩ S1 M1 r1 => by
    subst ed
    obtain rfl := r1.ref_inv
    obtain ⟨us, h1, h2⟩ := M1.get hc
    obtain ⟨v, h3, h4⟩ := (lookup_prep h2 f).2 e hl
    exact ⟨rfl, rfl, dx, us, v, rfl, h1, h3, F T1 v H1 e μ1 w S1 M1 h4⟩
/-! ### {k: v, ..} -/
def mergeD (kvs : List (Key × Dt)) (new : List (Key × Dt)) : List (Key × Dt) := new.foldl (fun d kv => putKD d kv.1 kv.2) kvs
theorem mergeD_rep {new : List (Key × V)} {newD : List (Key × Dt)} (h : Paired (PRep K T) new newD) : ∀ {us : List (Key × V)} {kvs : List (Key × Dt)}, Paired (PRep K T) us kvs → Paired (PRep K T) (mergeK us new) (mergeD kvs newD) := by
  induction h with
  | nil => intro us kvs g; exact g
  | @cons p q ps qs r t ih =>
    intro us kvs g
    obtain ⟨k, v⟩ := p
    obtain ⟨k', d⟩ := q
    obtain ⟨e1, e2⟩ := r
    have e1 : k = k' := e1
    subst e1
    exact ih (putKD_rep g k e2)
/-- the pairs of a dict, evaluated -/
def WPP (K : Frag) (Y : Wish) (ρ : Ro) : List (TE × TE) → Mem → (List (Dt × Dt) → Mem → Prop) → Prop
  | [], μ, W => W [] μ
  | (tk, tv) :: r, μ, W => WP K Y ρ μ tk fun k μ1 => WP K Y ρ μ1 tv fun v μ2 => WPP K Y ρ r μ2 fun l μ3 => W ((k, v) :: l) μ3
def PP2 (K : Frag) (T : Hp) (u : V × V) (q : Dt × Dt) : Prop := Rep K T u.1 q.1 ∧ Rep K T u.2 q.2
theorem wpp_go : ∀ {trs : List (TE × TE)} {T H : Hp} {μ : Mem} {W : List (Dt × Dt) → Mem → Prop}, WPP K Y ρ trs μ W → Mst K T μ H → Locs K T ρ σ → FinW K T μ H Y → ∀ Q : List (V × V) → Hp → Prop, (∀ T' us H' l μ', W l μ' → Step T μ H T' μ' H' → Mst K T' μ' H' → Paired (PP2 K T') us l → Q us H') → tPairs trs σ H Q
  | [], T, H, μ, W, w, M, L, N, Q, F => by rw [tPairs.eq_1]; exact F T [] H [] μ w (Step.refl _ _ _) M .nil
  | (tk, tv) :: r, T, H, μ, W, w, M, L, N, Q, F => by
    rw [tPairs.eq_2]
    exact w T σ H M L N _ fun T1 x H1 k μ1 w1 S1 M1 r1 => w1 T1 σ H1 M1 (L.mono S1.grow) (N.go S1) _ fun T2 y H2 v μ2 w2 S2 M2 r2 => wpp_go w2 M2 (L.mono (S1.trans S2).grow) (N.go (S1.trans S2)) _ fun T3 us H3 l μ3 w3 S3 M3 r3 => F T3 _ H3 _ μ3 w3 ((S1.trans S2).trans S3) M3 (.cons ⟨r1.mono (S2.grow.trans S3.grow), r2.mono S3.grow⟩ r3)
theorem keys_of {us : List (V × V)} : ∀ {kvs : List (Key × Dt)}, Paired (PP2 K T) us (kvs.map fun kv => (kD kv.1, kv.2)) → ∃ ws : List (Key × V), us = ws.map (fun kv => (kV kv.1, kv.2)) ∧ Paired (PRep K T) ws kvs := by
  intro kvs h
  induction kvs generalizing us with
  | nil => cases h; exact ⟨[], rfl, .nil⟩
  | cons q kvs ih =>
    cases h with
    | @cons u _ us _ r t =>
      obtain ⟨ws, rfl, hw⟩ := ih t
      obtain ⟨u1, u2⟩ := u
      obtain ⟨r1, r2⟩ := r
      obtain rfl := kD_rep r1
      exact ⟨(q.1, u2) :: ws, rfl, .cons ⟨rfl, r2⟩ hw⟩
theorem wp_disp {trs : List (TE × TE)} {W : Dt → Mem → Prop} (h : ∀ p, p ∉ dom μ → WPP K Y ρ trs ((p, .dK []) :: μ) fun l μ2 => ∃ (c : Nat) (kvs : List (Key × Dt)), μ2[c]? = some (p, .dK []) ∧ l = kvs.map (fun kv => (kD kv.1, kv.2)) ∧ kvs.length ≤ 15 ∧ W (.ref p) (μ2.set c (p, .dK (mergeD [] kvs)))) : WP K Y ρ μ (tDisp trs) W := fun T σ H M L N Q F p hp => by
  obtain ⟨M1, S1⟩ := M.cell (m := .dK []) (o := .dK []) hp ⟨[], upd_same, .nil⟩
  refine wpp_go (h p (M.notin hp)) M1 (L.mono S1.grow) (N.go S1) _ ?_
  rintro T2 us H2 l μ2 ⟨c, kvs, hc, rfl, hl, w⟩ S2 M2 r2
  obtain ⟨ws, rfl, hw⟩ := keys_of r2
  obtain ⟨us0, e1, e2⟩ := M2.get hc
  cases e2
  refine ⟨e1, ws, rfl, by rw [Paired.length hw]; exact hl, ?_⟩
  obtain ⟨M3, S3⟩ := M2.put (m' := .dK (mergeD [] kvs)) (o := .dK (mergeK [] ws)) hc ⟨_, upd_same, mergeD_rep hw .nil⟩
  exact F T2 _ _ _ _ w ((S1.trans S2).trans S3) M3 (.ref p)
end
theorem Good.xf {fa : List Fc} {fn : List DefP} {K : Frag} {mg : Str → Option Value} (G : Good fa fn K mg) (i : Nat) {C : Str} (h : fa[i]? = some (.xf C)) : XfC K (gA C K) := by
  obtain ⟨c1, c2⟩ := He.ba (show (_ && _) = true from G.fc i h)
  obtain ⟨c2, c3⟩ := He.ba c2
  obtain ⟨c3, c4⟩ := He.ba c3
  exact ⟨of_decide_eq_true (show decide _ = true from c1), of_decide_eq_true (show decide _ = true from c2), of_decide_eq_true c3, c4⟩
theorem Good.exm {fa : List Fc} {fn : List DefP} {K : Frag} {mg : Str → Option Value} (G : Good fa fn K mg) (i : Nat) {x y : Str} {b : Bool} (h : fa[i]? = some (.he (.exm x y b))) : exmOne K (.ref (gA x K)) (.ref (gA y K)) = some b := of_decide_eq_true (show decide _ = true from G.fc i h)
end Ml

/-! Ml19: deeds, the law's own box. -/
namespace Ml
open PySem L2 PySem.W PySem.Calls PyProof.Rows
inductive Deed where
  | own (l : Ln) | other (l : Ln) | dropOwn (i : Int) | dropOther (i : Int) | price (p : Int) | confirm (i j : Int) | again (i : Int) | undo | redo
def Deed.word : Deed → Str
  | .own _ => "own"
  | .other _ => "other"
  | .dropOwn _ => "drop own"
  | .dropOther _ => "drop other"
  | .price _ => "price"
  | .confirm _ _ => "confirm"
  | .again _ => "open"
  | .undo => "undo"
  | .redo => "redo"
def Deed.rest : Deed → List Dt
  | .own l => [lnD l]
  | .other l => [lnD l]
  | .dropOwn i => [.int i]
  | .dropOther i => [.int i]
  | .price i => [.int i]
  | .confirm i j => [.int i, .int j]
  | .again i => [.int i]
  | .undo => []
  | .redo => []
abbrev deedD (d : Deed) : Dt := .tup (.str d.word :: d.rest)
abbrev tsD (s : Stt) : Dt := .tup [.lst (s.own.map lnD), .lst (s.other.map lnD), .int s.cap, .lst (s.fixed.map prD)]
abbrev boxMo (sts : List Stt) (k : Nat) : Mo := .dK [(.inr "states", .lst (sts.map tsD)), (.inr "place", .int (k : Int))]
def canon (s : Stt) : Stt := ⟨sortLn s.own, sortLn s.other, s.cap, sortPr s.fixed⟩
/-- what a deed makes of a state, before it is sorted -/
def rawS (s : Stt) : Deed → Stt
  | .own l => { s with own := s.own ++ [l] }
  | .other l => { s with other := s.other ++ [l] }
  | .dropOwn i => { s with own := s.own.filter fun l => decide (l.1 ≠ i), fixed := s.fixed.filter fun p => decide (p.1 ≠ i) }
  | .dropOther i => { s with other := s.other.filter fun l => decide (l.1 ≠ i), fixed := s.fixed.filter fun p => decide (p.2 ≠ i) }
  | .price p => { s with cap := p }
  | .confirm i j => { s with fixed := s.fixed ++ [(i, j)] }
  | .again i => { s with fixed := s.fixed.filter fun p => decide (p.1 ≠ i) }
  | .undo => s
  | .redo => s
/-- states and place behind a deed -/
def stepB (sts : List Stt) (k : Nat) (s : Stt) : Deed → List Stt × Nat
  | .undo => (sts, k - 1)
  | .redo => (sts, k + 1)
  | d => (keepS sts k (canon (rawS s d)), k + 1)
theorem dgetS {μ : Mem} {c : Nat} {a : Addr} {kvs : List (Key × Dt)} {x : Str} {v : Dt} {W : Dt → Prop} (hc : μ[c]? = some (a, .dK kvs)) (hv : valD kvs (.inr x) = some v) (w : W v) : ∃ v, DHas μ (.ref a) (.str x) (some v) ∧ W v := ⟨v, hv ▸ dhasK c (.inr x) hc, w⟩
theorem dputS {μ : Mem} {c : Nat} {a : Addr} {kvs kvs' : List (Key × Dt)} {x : Str} {v : Dt} {W : Mem → Prop} (hc : μ[c]? = some (a, .dK kvs)) (hl : Nat.ble (kvs.length + 1) 1000 = true) (hv : putKD kvs (.inr x) v = kvs') (w : W (μ.set c (a, .dK kvs'))) :
    (∃ (c : Nat) (b : Addr) (kvs : List (Key × Dt)) (k : Key), Dt.ref a = .ref b ∧ μ[c]? = some (b, .dK kvs) ∧ Dt.str x = kD k ∧ kvs.length < 1000000 ∧ W (μ.set c (b, .dK (putKD kvs k v)))) ∨
    ∃ (c : Nat) (b : Addr) (kvs : List (List Key × Dt)) (k : List Key), Dt.ref a = .ref b ∧ μ[c]? = some (b, .dT kvs) ∧ Dt.str x = .tup (k.map kD) ∧ kvs.length < 1000000 ∧ W (μ.set c (b, .dT (putKD kvs k v))) :=
  .inl ⟨c, a, kvs, .inr x, rfl, hc, rfl, Nat.lt_of_lt_of_le (lt_of_ble hl) (by decide), by rw [hv]; exact w⟩
theorem put_states {a b v : Dt} : putKD ([(.inr "states", a), (.inr "place", b)] : List (Key × Dt)) (.inr "states") v = [(.inr "states", v), (.inr "place", b)] := by rfl
theorem put_place {a b v : Dt} : putKD ([(.inr "states", a), (.inr "place", b)] : List (Key × Dt)) (.inr "place") v = [(.inr "states", a), (.inr "place", v)] := by rfl
section
variable {μ : Mem} {K : Frag}
theorem flat_strs (ws : List Str) : (ws.map Dt.str).map Dt.flat = (ws.map V.str).map some := by rw [List.map_map, List.map_map]; rfl
theorem inV_strs (x : Str) (ws : List Str) : inV (.str x) (ws.map V.str) = decide (x ∈ ws) := by
  unfold inV
  rw [List.any_map]
  induction ws with
  | nil => rfl
  | cons y ws ih =>
    rw [List.any_cons, ih]
    have e : eqV (.str y) (.str x) = decide (y = x) := by
      show (y == x) = _
      rw [Bool.beq_eq_decide_eq]
    show (eqV (.str y) (.str x) || _) = _
    rw [e]
    by_cases h : y = x
    · subst h; simp
    · have h' : x ≠ y := fun z => h z.symm
      simp [h, h']
theorem rw_inS {neg : Bool} {e : Dt} {x : Str} {ws : List Str} {W : Dt → Mem → Prop} (h : IsSq μ e (ws.map Dt.str)) (w : W (.bl (if neg then !decide (x ∈ ws) else decide (x ∈ ws))) μ) : RW2 K μ (rIn K neg) (.str x) e W :=
  rw_in (x := .str x) (vs := ws.map V.str) rfl h (flat_strs ws) rfl (by simp [flatV]) (by rw [inV_strs]; exact w)
end
section
variable {K : Frag} {Y : Wish} {T T1 H H1 : Hp} {μ μ1 : Mem} {ρ : Ro} {σ : L2.St} {D : DE}
/-- o.f -= e, whole numbers -/
theorem wps_fldsubI {ta tv : TE} {f : Str} (h : WP K Y ρ μ ta fun d μ1 => ∃ (c : Nat) (a C : Addr) (fs : List (Str × Dt)) (n : Int), d = .ref a ∧ μ1[c]? = some (a, .ins C fs) ∧ Cls K C ∧ NoAttr K C f ∧ fs.lookup f = some (.int n) ∧ fs.length < 1000 ∧
    WP K Y ρ μ1 tv fun e μ2 => ∃ k, e = .int k ∧ ∃ fs2, μ2[c]? = some (a, .ins C fs2) ∧ fs2.length < 1000 ∧ D.nx ρ (μ2.set c (a, .ins C (putD f (.int (n - k)) fs2)))) : WPS K Y ρ μ (sFldAug K ta tv L2.rSub f) D := fun T σ H M L N E F =>
  h T σ H M L N _ fun T1 x H1 d μ1 ⟨c, a, C, fs, n, ed, hc, cl, na, hl, hz, w⟩ S1 M1 r1 => by
    subst ed
    obtain rfl := r1.ref_inv
    obtain ⟨dx, us, h1, h2⟩ := M1.get hc
    obtain ⟨v, h3, h4⟩ := (lookup_prep h2 f).2 _ hl
    obtain rfl := h4.int_inv
    refine ⟨a, C, dx, us, _, rfl, h1, cl, na, h3, w T1 σ H1 M1 (L.mono S1.grow) (N.go S1) _ fun T2 y H2 e μ2 ⟨k, ek, fs2, hc2, hz2, w2⟩ S2 M2 r2 => ?_⟩
    subst ek
    obtain rfl := r2.int_inv
    obtain ⟨dx2, us2, h5, h6⟩ := M2.get hc2
    refine ⟨n, k, rfl, rfl, dx2, us2, h5, by rw [Paired.length h6]; exact hz2, ?_⟩
    obtain ⟨M3, S3⟩ := M2.put (m' := .ins C (putD f (.int (n - k)) fs2)) (o := .ins C dx2 (putF f (.int (n - k)) us2)) hc2 ⟨dx2, _, upd_same, putD_rep (.int _) h6⟩
    exact F.nx T2 σ _ ρ _ w2 ((S1.trans S2).trans S3) M3 (L.mono (S1.trans S2).grow)
end
def q_law_choose (s l : Dt) : Post := fun μ W _ => ∃ (c : Nat) (a : Addr) (ds : List Dt), s = .ref a ∧ IsLst μ l ds ∧ (l ≠ .ref a) ∧ StrAt μ c a ∧ 1 ≤ ds.length ∧ ds.length ≤ 1000000 ∧ ∀ (r : Nat) d x, ds[r]? = some d → StrAt (μ.set c (a, x)) c a → W d (μ.set c (a, x))
abbrev sp__law_choose (_ : Frag) : DSp := sp2 q_law_choose
theorem IsLst.keep {d : Dt} {ds : List Dt} {μ : Mem} {c : Nat} {a : Addr} {x : Mo} {m : Mo} (h : IsLst μ d ds) (hc : μ[c]? = some (a, m)) (n : d ≠ .ref a) : IsLst (μ.set c (a, x)) d ds := by
  rcases h with h | ⟨i, b, rfl, hb⟩
  · exact .inl h
  · refine .inr ⟨i, b, rfl, ?_⟩
    by_cases e : c = i
    · subst e
      rw [hc] at hb
      cases hb
      exact absurd rfl n
    · rw [List.getElem?_set_ne e]; exact hb
def doneS (sts : List Stt) (k : Nat) (s : Stt) : Deed → Option (List Stt × Nat)
  | .own l => match addOwn s l with | .ok t => some (keepS sts k t, k + 1) | .error _ => none
  | .other l => match addOther s l with | .ok t => some (keepS sts k t, k + 1) | .error _ => none
  | .dropOwn i => match dropOwn s i with | .ok t => some (keepS sts k t, k + 1) | .error _ => none
  | .dropOther i => match dropOther s i with | .ok t => some (keepS sts k t, k + 1) | .error _ => none
  | .price p => match setPrice s p with | .ok t => some (keepS sts k t, k + 1) | .error _ => none
  | .confirm i j => match confirmS s i j with | .ok t => some (keepS sts k t, k + 1) | .error _ => none
  | .again i => match openAgain s i with | .ok t => some (keepS sts k t, k + 1) | .error _ => none
  | .undo => if 1 ≤ k then some (sts, k - 1) else none
  | .redo => if k + 1 ≠ sts.length then some (sts, k + 1) else none
theorem ends_of {K : Frag} {μ : Mem} {c : Nat} {a : Addr} {sts : List Stt} {k : Nat} {W : Dt → Mem → Prop} {r : Except Er Stt} {p : List Stt × Nat} (h : (match r with | .ok t => some (keepS sts k t, k + 1) | .error _ => none) = some p) (w : W .non (μ.set c (a, cmpMo K p.1 p.2))) : EndsS K μ c a sts k W noX r := by
  cases r with
  | error e => cases h
  | ok t => cases h; exact w
end Ml

/-! Ml20: valid states and deeds. -/
namespace Ml
theorem lexLe_total : ∀ a b : List Int, (lexLe a b || lexLe b a) = true
  | [], b => by simp [lexLe]
  | a :: l, [] => by simp [lexLe]
  | a :: l, b :: m => by
    unfold lexLe
    by_cases h : a = b
    · subst h; simpa using lexLe_total l m
    · have h2 : ¬ b = a := fun z => h z.symm
      simp [h, h2]
      omega
theorem lexLe_trans : ∀ {a b c : List Int}, lexLe a b = true → lexLe b c = true → lexLe a c = true
  | [], _, _, _, _ => by simp [lexLe]
  | a :: l, [], c, h, _ => by simp [lexLe] at h
  | a :: l, b :: m, [], _, h => by simp [lexLe] at h
  | a :: l, b :: m, c :: n, h1, h2 => by
    unfold lexLe at h1 h2 ⊢
    by_cases e1 : a = b
    · subst e1
      by_cases e2 : a = c
      · subst e2
        simp at h1 h2 ⊢
        exact lexLe_trans h1 h2
      · simp [e2] at h2 ⊢
        exact h2
    · by_cases e2 : b = c
      · subst e2
        simp [e1] at h1 ⊢
        exact h1
      · simp [e1] at h1
        simp [e2] at h2
        have e3 : ¬ a = c := by omega
        simp [e3]
        omega
theorem lexLe_refl : ∀ a : List Int, lexLe a a = true
  | [] => rfl
  | a :: l => by unfold lexLe; simpa using lexLe_refl l
theorem lexLe_antisymm : ∀ {a b : List Int}, lexLe a b = true → lexLe b a = true → a = b
  | [], [], _, _ => rfl
  | [], _ :: _, _, h => by simp [lexLe] at h
  | _ :: _, [], h, _ => by simp [lexLe] at h
  | a :: l, b :: m, h1, h2 => by
    unfold lexLe at h1 h2
    by_cases e : a = b
    · subst e
      simp at h1 h2
      rw [lexLe_antisymm h1 h2]
    · have e2 : ¬ b = a := fun z => e z.symm
      simp [e] at h1
      simp [e2] at h2
      omega
section
variable {α : Type} (f : α → List Int)
def sortF (l : List α) : List α := l.mergeSort fun a b => lexLe (f a) (f b)
theorem sortF_pw (l : List α) : (sortF f l).Pairwise fun a b => lexLe (f a) (f b) = true := List.pairwise_mergeSort (le := fun a b => lexLe (f a) (f b)) (fun _ _ _ h g => lexLe_trans h g) (fun a b => lexLe_total (f a) (f b)) l
theorem sortF_of_pw {l : List α} (h : l.Pairwise fun a b => lexLe (f a) (f b) = true) : sortF f l = l := List.mergeSort_of_pairwise h
theorem sortF_iff {l : List α} : sortF f l = l ↔ l.Pairwise fun a b => lexLe (f a) (f b) = true := ⟨fun h => h ▸ sortF_pw f l, sortF_of_pw f⟩
theorem sortF_idem (l : List α) : sortF f (sortF f l) = sortF f l := sortF_of_pw f (sortF_pw f l)
theorem sortF_filter {l : List α} (p : α → Bool) (h : sortF f l = l) : sortF f (l.filter p) = l.filter p := sortF_of_pw f (((sortF_iff f).mp h).filter p)
theorem sortF_perm (l : List α) : (sortF f l).Perm l := List.mergeSort_perm l _
end
theorem sortLn_idem (l : List Ln) : sortLn (sortLn l) = sortLn l := sortF_idem lnL l
theorem sortPr_idem (l : List Pr) : sortPr (sortPr l) = sortPr l := sortF_idem prL l
theorem sortLn_filter {l : List Ln} (p : Ln → Bool) (h : sortLn l = l) : sortLn (l.filter p) = l.filter p := sortF_filter lnL p h
theorem sortPr_filter {l : List Pr} (p : Pr → Bool) (h : sortPr l = l) : sortPr (l.filter p) = l.filter p := sortF_filter prL p h
theorem sortLn_perm (l : List Ln) : (sortLn l).Perm l := sortF_perm lnL l
theorem sortPr_perm (l : List Pr) : (sortPr l).Perm l := sortF_perm prL l
structure Val (m : Nat) (s : Stt) : Prop where
  own : ∀ l ∈ s.own, lineOk l.1 l.2.1 l.2.2 = true
  other : ∀ l ∈ s.other, lineOk l.1 l.2.1 l.2.2 = true
  nd1 : (ids s.own).Nodup
  nd2 : (ids s.other).Nodup
  so : sortLn s.own = s.own
  st : sortLn s.other = s.other
  cap : priceOk s.cap = true
  sf : sortPr s.fixed = s.fixed
  f1 : (s.fixed.map (·.1)).Nodup
  f2 : (s.fixed.map (·.2)).Nodup
  in1 : ∀ p ∈ s.fixed, p.1 ∈ ids s.own
  in2 : ∀ p ∈ s.fixed, p.2 ∈ ids s.other
  l1 : s.own.length ≤ m
  l2 : s.other.length ≤ m
def DeedOk (m : Nat) (sts : List Stt) (k : Nat) (s : Stt) : Deed → Prop
  | .own l => lineOk l.1 l.2.1 l.2.2 = true ∧ l.1 ∉ ids s.own ∧ s.own.length < m
  | .other l => lineOk l.1 l.2.1 l.2.2 = true ∧ l.1 ∉ ids s.other ∧ s.other.length < m
  | .dropOwn i => i ∈ ids s.own
  | .dropOther i => i ∈ ids s.other
  | .price p => priceOk p = true
  | .confirm i j => (i ∈ ids s.own ∧ i ∉ s.fixed.map (·.1)) ∧ j ∈ ids s.other ∧ j ∉ s.fixed.map (·.2)
  | .again i => i ∈ s.fixed.map (·.1)
  | .undo => 1 ≤ k
  | .redo => k + 1 < sts.length
/-- book and box do the same -/
theorem step_same {m : Nat} {sts : List Stt} {k : Nat} {s : Stt} {e : Deed} (hm : m ≤ 60) (v : Val m s) (o : DeedOk m sts k s e) : doneS sts k s e = some (stepB sts k s e) := by
  cases e with
  | own l =>
    obtain ⟨h1, h2, h3⟩ := o
    show (match addOwn s l with | .ok t => some (keepS sts k t, k + 1) | .error _ => none) = _
    rw [addOwn_ok h1 h2 (by omega)]
    show some (keepS sts k { s with own := sortLn (s.own ++ [l]) }, k + 1) = some (keepS sts k ⟨sortLn (s.own ++ [l]), sortLn s.other, s.cap, sortPr s.fixed⟩, k + 1)
    rw [v.st, v.sf]
  | other l =>
    obtain ⟨h1, h2, h3⟩ := o
    show (match addOther s l with | .ok t => some (keepS sts k t, k + 1) | .error _ => none) = _
    rw [addOther_ok h1 h2 (by omega)]
    show some (keepS sts k { s with other := sortLn (s.other ++ [l]) }, k + 1) = some (keepS sts k ⟨sortLn s.own, sortLn (s.other ++ [l]), s.cap, sortPr s.fixed⟩, k + 1)
    rw [v.so, v.sf]
  | dropOwn i =>
    show (match dropOwn s i with | .ok t => some (keepS sts k t, k + 1) | .error _ => none) = _
    rw [dropOwn_ok o]
    show some (keepS sts k { s with own := s.own.filter fun l => decide (l.1 ≠ i), fixed := s.fixed.filter fun p => decide (p.1 ≠ i) }, k + 1) = some (keepS sts k ⟨sortLn (s.own.filter fun l => decide (l.1 ≠ i)), sortLn s.other, s.cap, sortPr (s.fixed.filter fun p => decide (p.1 ≠ i))⟩, k + 1)
    rw [sortLn_filter _ v.so, v.st, sortPr_filter _ v.sf]
  | dropOther i =>
    show (match dropOther s i with | .ok t => some (keepS sts k t, k + 1) | .error _ => none) = _
    rw [dropOther_ok o]
    show some (keepS sts k { s with other := s.other.filter fun l => decide (l.1 ≠ i), fixed := s.fixed.filter fun p => decide (p.2 ≠ i) }, k + 1) = some (keepS sts k ⟨sortLn s.own, sortLn (s.other.filter fun l => decide (l.1 ≠ i)), s.cap, sortPr (s.fixed.filter fun p => decide (p.2 ≠ i))⟩, k + 1)
    rw [sortLn_filter _ v.st, v.so, sortPr_filter _ v.sf]
  | price p =>
    show (match setPrice s p with | .ok t => some (keepS sts k t, k + 1) | .error _ => none) = _
    unfold setPrice
    rw [if_pos (show priceOk p = true from o)]
    show some (keepS sts k { s with cap := p }, k + 1) = some (keepS sts k ⟨sortLn s.own, sortLn s.other, p, sortPr s.fixed⟩, k + 1)
    rw [v.so, v.st, v.sf]
  | confirm i j =>
    obtain ⟨⟨h1, h2⟩, h3, h4⟩ := o
    show (match confirmS s i j with | .ok t => some (keepS sts k t, k + 1) | .error _ => none) = _
    rw [confirm_ok h1 h3 h2 h4]
    show some (keepS sts k { s with fixed := sortPr (s.fixed ++ [(i, j)]) }, k + 1) = some (keepS sts k ⟨sortLn s.own, sortLn s.other, s.cap, sortPr (s.fixed ++ [(i, j)])⟩, k + 1)
    rw [v.so, v.st]
  | again i =>
    show (match openAgain s i with | .ok t => some (keepS sts k t, k + 1) | .error _ => none) = _
    rw [open_ok o]
    show some (keepS sts k { s with fixed := s.fixed.filter fun p => decide (p.1 ≠ i) }, k + 1) = some (keepS sts k ⟨sortLn s.own, sortLn s.other, s.cap, sortPr (s.fixed.filter fun p => decide (p.1 ≠ i))⟩, k + 1)
    rw [v.so, v.st, sortPr_filter _ v.sf]
  | undo => exact if_pos o
  | redo => exact if_pos (by have h : k + 1 < sts.length := o; omega)
theorem ids_perm {l l' : List Ln} (h : l.Perm l') : (ids l).Perm (ids l') := h.map _
theorem nodup_perm {α : Type} {l l' : List α} (h : l.Perm l') (n : l'.Nodup) : l.Nodup := h.nodup_iff.mpr n
theorem nodup_snoc {α : Type} {l : List α} {x : α} (n : l.Nodup) (h : x ∉ l) : (l ++ [x]).Nodup := by
  rw [List.nodup_append]
  exact ⟨n, (by simp), fun a ha b hb e => by simp at hb; subst hb; subst e; exact h ha⟩
theorem canon_own (s : Stt) : (canon s).own = sortLn s.own := rfl
/-- the sorted state of a state that is valid but for the sequence -/
theorem val_canon {m : Nat} {s : Stt} (own : ∀ l ∈ s.own, lineOk l.1 l.2.1 l.2.2 = true) (other : ∀ l ∈ s.other, lineOk l.1 l.2.1 l.2.2 = true) (nd1 : (ids s.own).Nodup) (nd2 : (ids s.other).Nodup) (cap : priceOk s.cap = true) (f1 : (s.fixed.map (·.1)).Nodup) (f2 : (s.fixed.map (·.2)).Nodup)
    (in1 : ∀ p ∈ s.fixed, p.1 ∈ ids s.own) (in2 : ∀ p ∈ s.fixed, p.2 ∈ ids s.other) (l1 : s.own.length ≤ m) (l2 : s.other.length ≤ m) : Val m (canon s) where
  own := fun l h => own l ((sortLn_perm s.own).mem_iff.mp h)
  other := fun l h => other l ((sortLn_perm s.other).mem_iff.mp h)
  nd1 := nodup_perm (ids_perm (sortLn_perm s.own)) nd1
  nd2 := nodup_perm (ids_perm (sortLn_perm s.other)) nd2
  so := sortLn_idem _
  st := sortLn_idem _
  cap := cap
  sf := sortPr_idem _
  f1 := nodup_perm ((sortPr_perm s.fixed).map _) f1
  f2 := nodup_perm ((sortPr_perm s.fixed).map _) f2
  in1 := fun p h => (ids_perm (sortLn_perm s.own)).mem_iff.mpr (in1 p ((sortPr_perm s.fixed).mem_iff.mp h))
  in2 := fun p h => (ids_perm (sortLn_perm s.other)).mem_iff.mpr (in2 p ((sortPr_perm s.fixed).mem_iff.mp h))
  l1 := by show (sortLn s.own).length ≤ m; rw [(sortLn_perm s.own).length_eq]; exact l1
  l2 := by show (sortLn s.other).length ≤ m; rw [(sortLn_perm s.other).length_eq]; exact l2
theorem val_step {m : Nat} {sts : List Stt} {k : Nat} {s : Stt} {e : Deed} (v : Val m s) (o : DeedOk m sts k s e) : Val m (canon (rawS s e)) := by
  have sub1 : ∀ (p : Ln → Bool), ∀ i ∈ ids (s.own.filter p), i ∈ ids s.own := fun p i h => by
    obtain ⟨l, hl, rfl⟩ := List.mem_map.mp h
    exact List.mem_map.mpr ⟨l, (List.mem_filter.mp hl).1, rfl⟩
  cases e with
  | own l =>
    obtain ⟨h1, h2, h3⟩ := o
    refine val_canon ?_ v.other ?_ v.nd2 v.cap v.f1 v.f2 ?_ v.in2 ?_ v.l2
    · intro x hx
      rcases List.mem_append.mp hx with h | h
      · exact v.own x h
      · simp at h; subst h; exact h1
    · show (ids (s.own ++ [l])).Nodup
      unfold ids
      rw [List.map_append]
      exact nodup_snoc v.nd1 h2
    · intro p hp
      show p.1 ∈ ids (s.own ++ [l])
      unfold ids
      rw [List.map_append]
      exact List.mem_append_left _ (v.in1 p hp)
    · show (s.own ++ [l]).length ≤ m
      rw [List.length_append, List.length_singleton]; omega
  | other l =>
    obtain ⟨h1, h2, h3⟩ := o
    refine val_canon v.own ?_ v.nd1 ?_ v.cap v.f1 v.f2 v.in1 ?_ v.l1 ?_
    · intro x hx
      rcases List.mem_append.mp hx with h | h
      · exact v.other x h
      · simp at h; subst h; exact h1
    · show (ids (s.other ++ [l])).Nodup
      unfold ids
      rw [List.map_append]
      exact nodup_snoc v.nd2 h2
    · intro p hp
      show p.2 ∈ ids (s.other ++ [l])
      unfold ids
      rw [List.map_append]
      exact List.mem_append_left _ (v.in2 p hp)
    · show (s.other ++ [l]).length ≤ m
      rw [List.length_append, List.length_singleton]; omega
  | dropOwn i =>
    refine val_canon (fun x hx => v.own x (List.mem_filter.mp hx).1) v.other (v.nd1.sublist (List.filter_sublist.map _)) v.nd2 v.cap (v.f1.sublist (List.filter_sublist.map _)) (v.f2.sublist (List.filter_sublist.map _)) ?_ (fun p hp => v.in2 p (List.mem_filter.mp hp).1) (Nat.le_trans (List.length_filter_le _ _) v.l1) v.l2
    intro p hp
    obtain ⟨h1, h2⟩ := List.mem_filter.mp hp
    obtain ⟨l, hl, e⟩ := List.mem_map.mp (v.in1 p h1)
    exact List.mem_map.mpr ⟨l, List.mem_filter.mpr ⟨hl, by rw [e]; exact h2⟩, e⟩
  | dropOther i =>
    refine val_canon v.own (fun x hx => v.other x (List.mem_filter.mp hx).1) v.nd1 (v.nd2.sublist (List.filter_sublist.map _)) v.cap (v.f1.sublist (List.filter_sublist.map _)) (v.f2.sublist (List.filter_sublist.map _)) (fun p hp => v.in1 p (List.mem_filter.mp hp).1) ?_ v.l1 (Nat.le_trans (List.length_filter_le _ _) v.l2)
    intro p hp
    obtain ⟨h1, h2⟩ := List.mem_filter.mp hp
    obtain ⟨l, hl, e⟩ := List.mem_map.mp (v.in2 p h1)
    exact List.mem_map.mpr ⟨l, List.mem_filter.mpr ⟨hl, by rw [e]; exact h2⟩, e⟩
  | price p => exact val_canon v.own v.other v.nd1 v.nd2 o v.f1 v.f2 v.in1 v.in2 v.l1 v.l2
  | confirm i j =>
    obtain ⟨⟨h1, h2⟩, h3, h4⟩ := o
    refine val_canon v.own v.other v.nd1 v.nd2 v.cap ?_ ?_ ?_ ?_ v.l1 v.l2
    · show ((s.fixed ++ [(i, j)]).map (·.1)).Nodup
      rw [List.map_append]
      exact nodup_snoc v.f1 h2
    · show ((s.fixed ++ [(i, j)]).map (·.2)).Nodup
      rw [List.map_append]
      exact nodup_snoc v.f2 h4
    · intro p hp
      rcases List.mem_append.mp hp with h | h
      · exact v.in1 p h
      · simp at h; subst h; exact h1
    · intro p hp
      rcases List.mem_append.mp hp with h | h
      · exact v.in2 p h
      · simp at h; subst h; exact h3
  | again i => exact val_canon v.own v.other v.nd1 v.nd2 v.cap (v.f1.sublist (List.filter_sublist.map _)) (v.f2.sublist (List.filter_sublist.map _)) (fun p hp => v.in1 p (List.mem_filter.mp hp).1) (fun p hp => v.in2 p (List.mem_filter.mp hp).1) v.l1 v.l2
  | undo => exact val_canon v.own v.other v.nd1 v.nd2 v.cap v.f1 v.f2 v.in1 v.in2 v.l1 v.l2
  | redo => exact val_canon v.own v.other v.nd1 v.nd2 v.cap v.f1 v.f2 v.in1 v.in2 v.l1 v.l2
theorem val_zero (m : Nat) : Val m ⟨[], [], 0, []⟩ := ⟨by simp, by simp, by simp [ids], by simp [ids], by simp [sortLn], by simp [sortLn], by decide, by simp [sortPr], by simp, by simp, by simp, by simp, by simp, by simp⟩
theorem Val.few {m : Nat} {s : Stt} (v : Val m s) : s.fixed.length ≤ m := by
  have h : (s.fixed.map (·.1)).length ≤ (ids s.own).length := List.Nodup.length_le_of_subset v.f1 fun i hi => by
    obtain ⟨p, hp, rfl⟩ := List.mem_map.mp hi
    exact v.in1 p hp
  have := v.l1
  simp [ids] at h
  omega
end Ml

/-! Ml21: more reading rules. -/
namespace Ml
open PySem L2 PySem.W PySem.Calls PyProof.Rows
section
variable {K : Frag} {Y : Wish} {T T1 H H1 : Hp} {μ μ1 : Mem} {ρ : Ro} {σ : L2.St} {D : DE}
def rCatS : R2 := fun x y H Q => ∃ i j : Str, x = .str i ∧ y = .str j ∧ i.length + j.length ≤ sizeLine ∧ Q (.str (i ++ j)) H
theorem op_catS {X : Cx} : OpR X (binaryOp .Add) rCatS := op_add_str
theorem rw_catS {i j : Str} {W : Dt → Mem → Prop} (h : i.length + j.length ≤ 1000000) (w : W (.str (i ++ j)) μ) : RW2 K μ rCatS (.str i) (.str j) W := fun T H x y M r1 r2 Q F => ⟨i, j, r1.str_inv, r2.str_inv, sz6 h, F T _ H _ μ w (Step.refl _ _ _) M (.str _)⟩
end
def q_law_deed (m : Nat) (s b ws : Dt) : Post := fun μ W _ => ∃ (c : Nat) (a : Addr) (c' : Nat) (a' : Addr) (sts : List Stt) (k : Nat) (t : Stt) (us : List Str), s = .ref a ∧ StrAt μ c a ∧ b = .ref a' ∧ μ[c']? = some (a', boxMo sts k) ∧ sts[k]? = some t ∧ Val m t ∧ sts.length ≤ 100000 ∧ ws = .lst (us.map .str) ∧ 1 ≤ us.length ∧ us.length ≤ 100 ∧
  ∀ e x, DeedOk m sts k t e → StrAt (μ.set c (a, x)) c a → ((e = .undo → ("undo" : Str) ∈ us) ∧ (e = .redo → ("redo" : Str) ∈ us)) → W (deedD e) (μ.set c (a, x))
theorem chooseM {μ : Mem} {α : Type} (enc : α → Dt) {xs : List α} {c : Nat} {a : Addr} {W : Dt → Mem → Prop} {X : Addr → List (Str × Dt) → Mem → Prop} (hs : StrAt μ c a) (h1 : 1 ≤ xs.length) (h2 : xs.length ≤ 1000000) (w : ∀ y x, y ∈ xs → StrAt (μ.set c (a, x)) c a → W (enc y) (μ.set c (a, x))) : q_law_choose (.ref a) (.lst (xs.map enc)) μ W X :=
  ⟨c, a, xs.map enc, rfl, isl, (fun h => by cases h), hs, by rw [List.length_map]; exact h1, by rw [List.length_map]; exact h2, fun r d x hd hs' => by
    rw [List.getElem?_map] at hd
    cases e : xs[r]? with
    | none => rw [e] at hd; cases hd
    | some y =>
      rw [e] at hd
      cases hd
      exact w y x (List.mem_of_getElem? e) hs'⟩
theorem StrAt.ne {μ : Mem} {c c' : Nat} {a b : Addr} {kvs : List (Key × Dt)} (h : StrAt μ c a) (g : μ[c']? = some (b, .dK kvs)) : c ≠ c' := fun e => by
  obtain ⟨dg, sd, h1, _⟩ := h.ex
  rw [e, g] at h1
  cases h1
theorem StrAt.neI {μ : Mem} {c c' : Nat} {a b C : Addr} {fs : List (Str × Dt)} (h : StrAt μ c a) (g : μ[c']? = some (b, .ins C fs)) : c ≠ c' := fun e => by
  obtain ⟨dg, sd, h1, _⟩ := h.ex
  rw [e, g] at h1
  cases h1
section
variable {K : Frag} {Y : Wish} {T T1 H H1 : Hp} {μ μ1 : Mem} {ρ : Ro} {σ : L2.St} {D : DE}
/-- tests that change nothing -/
def PT1 (K : Frag) (Y : Wish) (ρ : Ro) (μ : Mem) (c : TT) (p : Bool) : Prop := WPT K Y ρ μ c fun b μ' => b = p ∧ μ' = μ
theorem pt1_and {c d : TT} {p q : Bool} (h : PT1 K Y ρ μ c p) (g : p = true → PT1 K Y ρ μ d q) : PT1 K Y ρ μ (tAnd c d) (p && q) := wpt_and (WPT.imp h fun b μ' ⟨e, e2⟩ => by
  subst e e2
  cases b with
  | true => exact itT rfl (WPT.imp (g rfl) fun b μ'' ⟨e, e2⟩ => ⟨by rw [e]; rfl, e2⟩)
  | false => exact itF rfl ⟨rfl, rfl⟩)
theorem pt1_or {c d : TT} {p q : Bool} (h : PT1 K Y ρ μ c p) (g : p = false → PT1 K Y ρ μ d q) : PT1 K Y ρ μ (tOr c d) (p || q) := wpt_or (WPT.imp h fun b μ' ⟨e, e2⟩ => by
  subst e e2
  cases b with
  | true => exact itT rfl ⟨rfl, rfl⟩
  | false => exact itF rfl (WPT.imp (g rfl) fun b μ'' ⟨e, e2⟩ => ⟨by rw [e]; rfl, e2⟩))
theorem wps_if1 {c : TT} {p : Bool} {t u : TS} (h : PT1 K Y ρ μ c p) (ht : p = true → WPS K Y ρ μ t D) (hu : p = false → WPS K Y ρ μ u D) : WPS K Y ρ μ (tIfS c t u) D := wps_if (WPT.imp h fun b μ' ⟨e, e2⟩ => by
  subst e e2
  cases b with
  | true => exact itT rfl (ht rfl)
  | false => exact itF rfl (hu rfl))
end
theorem eqv_ints (xs ys : List Int) : PyData.eqv (.list (xs.map .int)) (.list (ys.map .int)) = decide (xs = ys) := by rw [eqv_list, eqvAll_map (fun i => PyData.int i) (fun a b => eqv_int)]
theorem sh_ints (xs : List Int) : SeqAt.shaped (.list (xs.map .int)) = true := (low_list (n := 0) fun x hx => by obtain ⟨y, _, rfl⟩ := List.mem_map.mp hx; exact low_int y).shaped (by decide)
section
variable {K : Frag} {μ : Mem}
theorem pyof_ints {d : Dt} {xs : List Int} (h : IsLst μ d (xs.map Dt.int)) : PyOf μ d (.list (xs.map .int)) := .inr ⟨_, _, h, pys_ints xs, rfl⟩
theorem rw_eq_ints {d e : Dt} {xs ys : List Int} {W : Dt → Mem → Prop} (h1 : IsLst μ d (xs.map Dt.int)) (h2 : IsLst μ e (ys.map Dt.int)) (w : W (.bl (decide (xs = ys))) μ) : RW2 K μ (rEqD K) d e W := rw_eqD (pyof_ints h1) (pyof_ints h2) (sh_ints _) (sh_ints _) (by rw [eqv_ints]; exact w)
theorem rw_ne_ints {d e : Dt} {xs ys : List Int} {W : Dt → Mem → Prop} (h1 : IsLst μ d (xs.map Dt.int)) (h2 : IsLst μ e (ys.map Dt.int)) (w : W (.bl (!decide (xs = ys))) μ) : RW2 K μ (rNeD K) d e W := rw_neD (pyof_ints h1) (pyof_ints h2) (sh_ints _) (sh_ints _) (by rw [eqv_ints]; exact w)
end
end Ml

/-! Ml22: reading rules that go on by themselves: what they ask stands last. -/
namespace Ml
open PySem L2 PySem.W PySem.Calls PyProof.Rows
/-- the slots of a def at its start, by their number -/
def startN : Nat → List Dt → Ro
  | 0, _ => []
  | n + 1, [] => none :: startN n []
  | n + 1, d :: ds => some d :: startN n ds
theorem startN_nil : ∀ n, startN n [] = List.replicate n none
  | 0 => rfl
  | n + 1 => by rw [startN, startN_nil n, List.replicate_succ]
theorem startN_eq : ∀ (n : Nat) (ds : List Dt), ds.length ≤ n → ds.map some ++ List.replicate (n - ds.length) none = startN n ds
  | n, [], _ => by rw [startN_nil]; rfl
  | 0, d :: ds, h => by simp at h
  | n + 1, d :: ds, h => by
    rw [startN, ← startN_eq n ds (by simpa using h)]
    simp
section
variable {P : Program} {w : World} {K : Frag} {mg : Str → Option Value} {base : Heap} {x qual : Str} {params : Arguments} {body : List Stmt} {scope : Scope} {dvs : List V} {kws : List (Str × V)} {f : Addr} {fd : FuncData}
theorem ok_defN (n : Nat) {N ps : List Str} {k : Nat} {s : DSp} (hn : N.length = n) (hp : Nat.ble ps.length n = true) (F : FunD K x qual params body scope dvs kws f fd) (S : FnScope N ps scope) (len : ∀ ds μ W X, s ds μ W X → ds.length = ps.length)
    (hbody : ∀ (cdv : Value) (A : Around) (outer : List Env) (s0 : Shared) (H : Hp) (E : XK), Room k (A.deeper (envOfC qual scope s0.heap.objs.size f cdv)) →
      ∃ t, PSs (cxOf (L2.CX P w) P w K mg base N qual scope f cdv A outer s0 H E) body t ∧ ∀ ds μ W X, s ds μ W X → WPS K (bodyW E X) (startN n ds) μ t (bodyD W)) : FnOk P w K mg base (L2.CX P w) (k + 1) f fd ps (spD K s) :=
  ok_def F S len fun cdv A outer s0 H E hr => by
    obtain ⟨t, h1, h2⟩ := hbody cdv A outer s0 H E hr
    refine ⟨t, h1, fun ds μ W X h => ?_⟩
    have e : startD N ds = startN n ds := by
      unfold startD
      rw [hn]
      exact startN_eq n ds (by rw [len ds μ W X h]; exact Nat.le_of_ble_eq_true hp)
    rw [e]
    exact h2 ds μ W X h
end
section
variable {K : Frag} {Y : Wish} {T T1 H H1 : Hp} {μ μ1 : Mem} {ρ : Ro} {σ : L2.St} {D : DE}
theorem wpg_nameN {i : Nat} {d : Dt} {ρ' : Ro} {W : Ro → Mem → Prop} (e : ρ.set i (some d) = ρ') (w : W ρ' μ) : WPG K Y ρ μ (gName i) d W := wpg_name (e ▸ w)
end
section
variable {K : Frag} {Y : Wish} {T T1 H H1 : Hp} {μ μ1 : Mem} {ρ : Ro} {σ : L2.St} {D : DE}
theorem rw_ixT0 {d : Dt} {ds : List Dt} {W : Dt → Mem → Prop} (w : W d μ) : RW2 K μ (rIxT K) (.tup (d :: ds)) (.int 0) W := rw_ixT atI_zero w
theorem rw_ixT1 {d e : Dt} {ds : List Dt} {W : Dt → Mem → Prop} (w : W e μ) : RW2 K μ (rIxT K) (.tup (d :: e :: ds)) (.int 1) W := rw_ixT (atI_get (k := 1) rfl) w
theorem rw_ixT2 {d e f : Dt} {ds : List Dt} {W : Dt → Mem → Prop} (w : W f μ) : RW2 K μ (rIxT K) (.tup (d :: e :: f :: ds)) (.int 2) W := rw_ixT (atI_get (k := 2) rfl) w
theorem rw_ixT3 {d e f g : Dt} {ds : List Dt} {W : Dt → Mem → Prop} (w : W g μ) : RW2 K μ (rIxT K) (.tup (d :: e :: f :: g :: ds)) (.int 3) W := rw_ixT (atI_get (k := 3) rfl) w
theorem rw_ixL0 {d : Dt} {ds : List Dt} {W : Dt → Mem → Prop} (w : W d μ) : RW2 K μ (rIxL K) (.lst (d :: ds)) (.int 0) W := rw_ixL atI_zero w
/-- what a comprehension makes of the elements ys -/
def LCp (K : Frag) (Y : Wish) (ρ : Ro) (vs : List Nat) (g : TG) (tt : TT) (te : TE) (ys : List Dt) (μ : Mem) (W : Dt → Mem → Prop) : Prop :=
  ∃ (f : Nat → Bool) (e : Nat → Dt), ys.length ≤ 1000000 ∧ (∀ i y, ys[i]? = some y → Elem K Y ρ vs g tt y μ (fun ρ2 μ3 => f i = true ∧ WP K Y ρ2 μ3 te fun d μ4 => d = e i ∧ μ4 = μ) fun μ3 => f i = false ∧ μ3 = μ) ∧ W (.lst (((List.range ys.length).filter f).map e)) μ
theorem wp_lcN {wi : TI} {g : TG} {tt : TT} {te : TE} {vs : List Nat} {W : Dt → Mem → Prop} (hg : Onto g vs) (hm : MonoG g) (h : WPI K Y ρ μ wi fun ys μ1 => LCp K Y ρ vs g tt te ys μ1 W) : WP K Y ρ μ (tLc wi g tt te vs) W :=
  wp_lc hg hm fun T σ H M L N R F => h T σ H M L N R fun T' J H' ys μ' ⟨f, e, hl, el, w⟩ S' M' src => F T' J H' ys μ' ⟨hl, fun i acc μ2 => μ2 = μ' ∧ acc = ((List.range i).filter f).map e, ⟨rfl, rfl⟩, fun i y acc μ2 hy ⟨e1, e2⟩ => by
    subst e1 e2
    intro T σ H v M L N r Q F
    refine el i y hy T σ H v M L N r Q fun T2 σ2 H2 ρ2 μ2 w2 S2 M2 L2 => F T2 σ2 H2 ρ2 μ2 (fun T3 σ3 H3 M3 L3 N3 Q3 F3 => w2 T3 σ3 H3 M3 L3 N3 Q3 fun T4 b H4 μ4 w4 S4 M4 => F3 T4 b H4 μ4 ?_ S4 M4) S2 M2 L2
    have tk : List.range (i + 1) = List.range i ++ [i] := List.range_succ
    cases b with
    | true =>
      obtain ⟨hf, w4⟩ := w4
      refine WP.imp (show WP K Y ρ2 μ4 te _ from w4) ?_
      rintro d μ5 ⟨rfl, rfl⟩
      refine ⟨rfl, ?_⟩
      rw [tk, List.filter_append, List.map_append, List.filter_cons, if_pos hf] <;> rfl
    | false =>
      obtain ⟨hf, rfl⟩ := w4
      refine ⟨rfl, ?_⟩
      rw [tk, List.filter_append, List.map_append, List.filter_cons, if_neg (by rw [hf]; decide)]
      simp, fun acc μ2 ⟨e1, e2⟩ => by
    subst e1 e2
    exact w⟩ S' M' src
theorem range_map {α β : Type} (xs : List α) (z : α) (e : α → β) : ((List.range xs.length).map fun i => e (xs.getD i z)) = xs.map e := by
  apply List.ext_getElem (by simp)
  intro i h1 h2
  have h3 : i < xs.length := by simpa using h1
  simp [List.getD_eq_getElem?_getD, List.getElem?_eq_getElem h3]
theorem range_filter_map {α β : Type} (z : α) (f : α → Bool) (e : α → β) : ∀ xs : List α, ((List.range xs.length).filter fun i => f (xs.getD i z)).map (fun i => e (xs.getD i z)) = (xs.filter f).map e := by
  intro xs
  have h : ((List.range xs.length).map fun i => xs.getD i z) = xs := by
    have := range_map xs z id
    simpa using this
  conv => rhs; rw [← h]
  rw [List.filter_map, List.map_map]
  rfl
theorem lc_any {α : Type} {enc : α → Dt} {f : α → Bool} {e : α → Dt} {xs : List α} {vs : List Nat} {g : TG} {tt : TT} {te : TE} {W : Dt → Mem → Prop}
    (h : ∀ x ∈ xs, Elem K Y ρ vs g tt (enc x) μ (fun ρ2 μ3 => f x = true ∧ WP K Y ρ2 μ3 te fun d μ4 => d = e x ∧ μ4 = μ) fun μ3 => f x = false ∧ μ3 = μ) (w : W (.lst ((xs.filter f).map e)) μ) (hl : xs.length ≤ 1000000) : LCp K Y ρ vs g tt te (xs.map enc) μ W := by
  cases xs with
  | nil => exact ⟨fun _ => true, fun _ => .non, by simp, (fun i y hy => by simp at hy), w⟩
  | cons z xs =>
    refine ⟨fun i => f ((z :: xs).getD i z), fun i => e ((z :: xs).getD i z), by rw [List.length_map]; exact hl, fun i y hy => ?_, ?_⟩
    · rw [List.getElem?_map] at hy
      cases q : (z :: xs)[i]? with
      | none => rw [q] at hy; cases hy
      | some x =>
        rw [q] at hy
        cases hy
        have e1 : (z :: xs).getD i z = x := by rw [List.getD_eq_getElem?_getD, q]; rfl
        simp only [e1]
        exact h x (List.mem_of_getElem? q)
    · rw [List.length_map, range_filter_map]
      exact w
theorem wp_lcS1 {i : Nat} {wi : TI} {tt : TT} {te : TE} {vs : List Nat} {W : Dt → Mem → Prop} (h : WPI K Y ρ μ wi fun ys μ1 => LCp K Y ρ vs (gName i) tt te ys μ1 W) (h1 : i ∈ vs := by decide) : WP K Y ρ μ (tLc wi (gName i) tt te vs) W := wp_lcN (onto_name h1) mono_name h
theorem wp_lcS2 {i j n : Nat} {wi : TI} {tt : TT} {te : TE} {vs : List Nat} {W : Dt → Mem → Prop} (h : WPI K Y ρ μ wi fun ys μ1 => LCp K Y ρ vs (gTup K n (gCons (gName i) (gCons (gName j) gNil))) tt te ys μ1 W) (h1 : i ∈ vs := by decide) (h2 : j ∈ vs := by decide) : WP K Y ρ μ (tLc wi (gTup K n (gCons (gName i) (gCons (gName j) gNil))) tt te vs) W :=
  wp_lcN (onto_tup (ontos_cons (onto_name h1) mono_name (ontos_cons (onto_name h2) mono_name ontos_nil mono_nil) (mono_cons mono_name mono_nil))) (mono_tup (mono_cons mono_name (mono_cons mono_name mono_nil))) h
theorem wp_lcS3 {i j k n : Nat} {wi : TI} {tt : TT} {te : TE} {vs : List Nat} {W : Dt → Mem → Prop} (h : WPI K Y ρ μ wi fun ys μ1 => LCp K Y ρ vs (gTup K n (gCons (gName i) (gCons (gName j) (gCons (gName k) gNil)))) tt te ys μ1 W) (h1 : i ∈ vs := by decide) (h2 : j ∈ vs := by decide) (h3 : k ∈ vs := by decide) : WP K Y ρ μ (tLc wi (gTup K n (gCons (gName i) (gCons (gName j) (gCons (gName k) gNil)))) tt te vs) W :=
  wp_lcN (onto_tup (ontos_cons (onto_name h1) mono_name (ontos_cons (onto_name h2) mono_name (ontos_cons (onto_name h3) mono_name ontos_nil mono_nil) (mono_cons mono_name mono_nil)) (mono_cons mono_name (mono_cons mono_name mono_nil)))) (mono_tup (mono_cons mono_name (mono_cons mono_name (mono_cons mono_name mono_nil)))) h
/-- elements kept as they are -/
theorem lcF {α : Type} {enc : α → Dt} {f : α → Bool} {xs : List α} {vs : List Nat} {g : TG} {tt : TT} {te : TE} {W : Dt → Mem → Prop}
    (h : ∀ x ∈ xs, WPG K Y (wipeR ρ vs) μ g (enc x) fun ρ2 μ2 => WPT K Y ρ2 μ2 tt fun b μ3 => b = f x ∧ μ3 = μ ∧ (b = true → WP K Y ρ2 μ3 te fun d μ4 => d = enc x ∧ μ4 = μ)) (w : W (.lst ((xs.filter f).map enc)) μ) (hl : xs.length ≤ 1000000) : LCp K Y ρ vs g tt te (xs.map enc) μ W :=
  lc_any (fun x hx T σ H v M L N r Q F => h x hx T σ H v M L N r Q fun T2 σ2 H2 ρ2 μ2 w2 => F T2 σ2 H2 ρ2 μ2 (WPT.imp w2 fun b μ3 ⟨e1, e2, e3⟩ => by
    cases b with
    | true => exact itT rfl ⟨e1.symm, e3 rfl⟩
    | false => exact itF rfl ⟨e1.symm, e2⟩)) w hl
/-- .. changed -/
theorem lcM {α β : Type} (enc' : β → Dt) {enc : α → Dt} {e : α → β} {xs : List α} {vs : List Nat} {g : TG} {te : TE} {W : Dt → Mem → Prop}
    (h : ∀ x ∈ xs, WPG K Y (wipeR ρ vs) μ g (enc x) fun ρ2 μ2 => WP K Y ρ2 μ2 te fun d μ4 => d = enc' (e x) ∧ μ4 = μ) (w : W (.lst ((xs.map e).map enc')) μ) (hl : xs.length ≤ 1000000) : LCp K Y ρ vs g tYes te (xs.map enc) μ W :=
  lc_any (f := fun _ => true) (e := fun x => enc' (e x)) (fun x hx T σ H v M L N r Q F => h x hx T σ H v M L N r Q fun T2 σ2 H2 ρ2 μ2 w2 => F T2 σ2 H2 ρ2 μ2 (wpt_yes (itT rfl ⟨rfl, w2⟩))) (by rw [List.filter_eq_self.mpr fun _ _ => rfl]; rw [List.map_map] at w; exact w) hl
theorem lcFM {α β : Type} (enc' : β → Dt) {enc : α → Dt} {f : α → Bool} {e : α → β} {xs : List α} {vs : List Nat} {g : TG} {tt : TT} {te : TE} {W : Dt → Mem → Prop}
    (h : ∀ x ∈ xs, WPG K Y (wipeR ρ vs) μ g (enc x) fun ρ2 μ2 => WPT K Y ρ2 μ2 tt fun b μ3 => b = f x ∧ μ3 = μ ∧ (b = true → WP K Y ρ2 μ3 te fun d μ4 => d = enc' (e x) ∧ μ4 = μ)) (w : W (.lst (((xs.filter f).map e).map enc')) μ) (hl : xs.length ≤ 1000000) : LCp K Y ρ vs g tt te (xs.map enc) μ W :=
  lc_any (e := fun x => enc' (e x)) (fun x hx T σ H v M L N r Q F => h x hx T σ H v M L N r Q fun T2 σ2 H2 ρ2 μ2 w2 => F T2 σ2 H2 ρ2 μ2 (WPT.imp w2 fun b μ3 ⟨e1, e2, e3⟩ => by
    cases b with
    | true => exact itT rfl ⟨e1.symm, e3 rfl⟩
    | false => exact itF rfl ⟨e1.symm, e2⟩)) (by rw [List.map_map] at w; exact w) hl
/-- lists of one kind put together -/
theorem rw_catM {α : Type} {enc : α → Dt} {xs ys : List α} {W : Dt → Mem → Prop} (w : W (.lst ((xs ++ ys).map enc)) μ) (hl : xs.length + ys.length ≤ 1000000) : RW2 K μ rCat (.lst (xs.map enc)) (.lst (ys.map enc)) W := rw_cat isl isl (by simpa using hl) (by rw [← List.map_append]; exact w)
theorem rw_lenM {α : Type} {enc : α → Dt} {xs : List α} {W : Dt → Mem → Prop} (w : W (.int (xs.length : Nat)) μ) : RWL K μ (Evl.rLenS K) [.lst (xs.map enc)] W := rw_len (.inl isl) (by rw [List.length_map]; exact w)
theorem rw_lenL {ds : List Dt} {W : Dt → Mem → Prop} (w : W (.int (ds.length : Nat)) μ) : RWL K μ (Evl.rLenS K) [.lst ds] W := rw_len (.inl isl) w
theorem rw_lenT {ds : List Dt} {W : Dt → Mem → Prop} (w : W (.int (ds.length : Nat)) μ) : RWL K μ (Evl.rLenS K) [.tup ds] W := rw_len (.inr (.inl rfl)) w
theorem rw_inIL {neg : Bool} {n : Int} {ns : List Int} {W : Dt → Mem → Prop} (w : W (.bl (if neg then !decide (n ∈ ns) else decide (n ∈ ns))) μ) : RW2 K μ (rIn K neg) (.int n) (.lst (ns.map Dt.int)) W := rw_inI (.inl isl) w
theorem rw_inF {n : Int} {ns : List Int} {W : Dt → Mem → Prop} (w : W (.bl (decide (n ∈ ns))) μ) : RW2 K μ (rIn K false) (.int n) (.lst (ns.map Dt.int)) W := rw_inI (.inl isl) w
theorem rw_inN {n : Int} {ns : List Int} {W : Dt → Mem → Prop} (w : W (.bl (!decide (n ∈ ns))) μ) : RW2 K μ (rIn K true) (.int n) (.lst (ns.map Dt.int)) W := rw_inI (.inl isl) w
theorem rw_srtL {xs : List Ln} {W : Dt → Mem → Prop} (w : W (.lst ((sortLn xs).map lnD)) μ) (hl : xs.length ≤ 1000000) : RWL K μ (rSortD K) [.lst (xs.map lnD)] W := rw_sorted isl (sorts_ln _ hl) (by rw [sortD_ln]; exact w)
theorem rw_srtP {xs : List Pr} {W : Dt → Mem → Prop} (w : W (.lst ((sortPr xs).map prD)) μ) (hl : xs.length ≤ 1000000) : RWL K μ (rSortD K) [.lst (xs.map prD)] W := rw_sorted isl (sorts_pr _ hl) (by rw [sortD_pr]; exact w)
theorem wpi_r1 {ta : TA} {W : List Dt → Mem → Prop} (h : WPA K Y ρ μ ta fun ds μ1 => ∃ n : Int, ds = [.int n] ∧ W ((List.range n.toNat).map fun (i : Nat) => .int (i : Int)) μ1 ∧ n < 2 ^ 62 ∧ -(2 ^ 62) ≤ n) : WPI K Y ρ μ (iRng1 ta) W := wpi_rng1 fun T σ H M L N Q F => h T σ H M L N Q fun T' b H' d μ' ⟨n, e, w, h1, h2⟩ => F T' b H' d μ' ⟨n, e, h1, h2, w⟩
theorem rg1 {n : Int} {P Q : Int → Prop} (w : P n) (b : Q n) : ∃ m : Int, [Dt.int n] = [Dt.int m] ∧ P m ∧ Q m := ⟨n, rfl, w, b⟩
theorem wpi_r2 {ta : TA} {W : List Dt → Mem → Prop} (h : WPA K Y ρ μ ta fun ds μ1 => ∃ lo n : Int, ds = [.int lo, .int n] ∧ W ((List.range (n - lo).toNat).map fun (i : Nat) => .int (lo + (i : Int))) μ1 ∧ (-(2 ^ 62) ≤ lo ∧ lo < 2 ^ 62 ∧ -(2 ^ 62) ≤ n ∧ n < 2 ^ 62)) : WPI K Y ρ μ (iRng2 ta) W := wpi_rng2 fun T σ H M L N Q F => h T σ H M L N Q fun T' b H' d μ' ⟨lo, n, e, w, h1⟩ => F T' b H' d μ' ⟨lo, n, e, h1, w⟩
theorem rg2 {lo n : Int} {P Q : Int → Int → Prop} (w : P lo n) (b : Q lo n) : ∃ l m : Int, [Dt.int lo, Dt.int n] = [Dt.int l, Dt.int m] ∧ P l m ∧ Q l m := ⟨lo, n, rfl, w, b⟩
theorem wpi_z {ta : TA} {W : List Dt → Mem → Prop} (h : WPA K Y ρ μ ta fun ds μ1 => ∃ xs ys, ds = [.lst xs, .lst ys] ∧ W ((xs.zip ys).map fun p => .tup [p.1, p.2]) μ1) : WPI K Y ρ μ (iZip K ta) W := wpi_zip h
theorem zp {xs ys : List Dt} {P : List Dt → List Dt → Prop} (w : P xs ys) : ∃ l m, [Dt.lst xs, Dt.lst ys] = [Dt.lst l, Dt.lst m] ∧ P l m := ⟨xs, ys, rfl, w⟩
theorem en {xs : List Dt} {P : List Dt → Prop} (w : P xs) : ∃ l, [Dt.lst xs] = [Dt.lst l] ∧ P l := ⟨xs, rfl, w⟩
theorem wpa_starL {te : TE} {t : TA} {W : List Dt → Mem → Prop} (h : WP K Y ρ μ te fun d μ1 => ∃ ds, d = .lst ds ∧ WPA K Y ρ μ1 t fun es μ2 => W (ds ++ es) μ2) : WPA K Y ρ μ (StX.tStar K te t) W := wpa_star (WP.imp h fun d μ1 ⟨ds, e, w⟩ => ⟨ds, .inl (.inl e), w⟩)
theorem rw_neNil {α : Type} {enc : α → Dt} {py : α → PyData} (hp : ∀ a, (enc a).py = some (py a)) (hs : ∀ xs : List α, SeqAt.shaped (.list (xs.map py)) = true) {xs : List α} {W : Dt → Mem → Prop} (w : W (.bl (!decide (xs = []))) μ) : RW2 K μ (rNeD K) (.lst (xs.map enc)) (.lst []) W :=
  rw_neD (.inr ⟨_, _, isl, pys_map enc py hp xs, rfl⟩) (.inr ⟨[], [], isl, rfl, rfl⟩) (hs xs) (hs []) (by
    have e : PyData.eqv (.list (xs.map py)) (.list []) = decide (xs = []) := by
      cases xs with
      | nil => simp [PyData.eqv, PyData.eqvAll]
      | cons x xs => simp [PyData.eqv, PyData.eqvAll]
    rw [e]
    exact w)
theorem rw_eqNil {α : Type} {enc : α → Dt} {py : α → PyData} (hp : ∀ a, (enc a).py = some (py a)) (hs : ∀ xs : List α, SeqAt.shaped (.list (xs.map py)) = true) {xs : List α} {W : Dt → Mem → Prop} (w : W (.bl (decide (xs = []))) μ) : RW2 K μ (rEqD K) (.lst (xs.map enc)) (.lst []) W :=
  rw_eqD (.inr ⟨_, _, isl, pys_map enc py hp xs, rfl⟩) (.inr ⟨[], [], isl, rfl, rfl⟩) (hs xs) (hs []) (by
    have e : PyData.eqv (.list (xs.map py)) (.list []) = decide (xs = []) := by
      cases xs with
      | nil => simp [PyData.eqv, PyData.eqvAll]
      | cons x xs => simp [PyData.eqv, PyData.eqvAll]
    rw [e]
    exact w)
theorem rw_neL0 {xs : List Ln} {W : Dt → Mem → Prop} (w : W (.bl (!decide (xs = []))) μ) : RW2 K μ (rNeD K) (.lst (xs.map lnD)) (.lst []) W := rw_neNil (py := lnP) (fun _ => rfl) sh_lns w
theorem rw_neP0 {xs : List Pr} {W : Dt → Mem → Prop} (w : W (.bl (!decide (xs = []))) μ) : RW2 K μ (rNeD K) (.lst (xs.map prD)) (.lst []) W := rw_neNil (py := prP) (fun _ => rfl) sh_prs w
theorem rw_neI0 {xs : List Int} {W : Dt → Mem → Prop} (w : W (.bl (!decide (xs = []))) μ) : RW2 K μ (rNeD K) (.lst (xs.map Dt.int)) (.lst []) W := rw_neNil (py := PyData.int) (fun _ => rfl) sh_ints w
theorem rw_eqL0 {xs : List Ln} {W : Dt → Mem → Prop} (w : W (.bl (decide (xs = []))) μ) : RW2 K μ (rEqD K) (.lst (xs.map lnD)) (.lst []) W := rw_eqNil (py := lnP) (fun _ => rfl) sh_lns w
theorem rw_eqP0 {xs : List Pr} {W : Dt → Mem → Prop} (w : W (.bl (decide (xs = []))) μ) : RW2 K μ (rEqD K) (.lst (xs.map prD)) (.lst []) W := rw_eqNil (py := prP) (fun _ => rfl) sh_prs w
theorem rw_eqI0 {xs : List Int} {W : Dt → Mem → Prop} (w : W (.bl (decide (xs = []))) μ) : RW2 K μ (rEqD K) (.lst (xs.map Dt.int)) (.lst []) W := rw_eqNil (py := PyData.int) (fun _ => rfl) sh_ints w
theorem rw_eqLL {xs ys : List Ln} {W : Dt → Mem → Prop} (w : W (.bl (decide (xs = ys))) μ) : RW2 K μ (rEqD K) (.lst (xs.map lnD)) (.lst (ys.map lnD)) W := rw_eq_lns isl isl w
theorem rw_eqPP {xs ys : List Pr} {W : Dt → Mem → Prop} (w : W (.bl (decide (xs = ys))) μ) : RW2 K μ (rEqD K) (.lst (xs.map prD)) (.lst (ys.map prD)) W := rw_eq_prs isl isl w
theorem rw_eqII {xs ys : List Int} {W : Dt → Mem → Prop} (w : W (.bl (decide (xs = ys))) μ) : RW2 K μ (rEqD K) (.lst (xs.map Dt.int)) (.lst (ys.map Dt.int)) W := rw_eq_ints isl isl w
theorem rw_neLL {xs ys : List Ln} {W : Dt → Mem → Prop} (w : W (.bl (!decide (xs = ys))) μ) : RW2 K μ (rNeD K) (.lst (xs.map lnD)) (.lst (ys.map lnD)) W := rw_ne_lns isl isl w
theorem rw_nePP {xs ys : List Pr} {W : Dt → Mem → Prop} (w : W (.bl (!decide (xs = ys))) μ) : RW2 K μ (rNeD K) (.lst (xs.map prD)) (.lst (ys.map prD)) W := rw_ne_prs isl isl w
theorem rw_neII {xs ys : List Int} {W : Dt → Mem → Prop} (w : W (.bl (!decide (xs = ys))) μ) : RW2 K μ (rNeD K) (.lst (xs.map Dt.int)) (.lst (ys.map Dt.int)) W := rw_ne_ints isl isl w
theorem rw_mod {i m : Int} {W : Dt → Mem → Prop} (w : W (.int (i % m)) μ) (hm : 0 < m) : RW2 K μ (rI (fun _ j => 0 < j) fun i j => V.int (i % j)) (.int i) (.int m) W := rw_I hm (fun _ => .int _) w
end
theorem free_ids {is : List Int} {m : Nat} (hm : m ≤ 28) (h : is.length ≤ m) : 1 ≤ ((List.range (30 - 1 : Int).toNat).filter fun x : Nat => !decide (1 + (x : Int) ∈ is)).length := by
  rcases Nat.eq_zero_or_pos ((List.range (30 - 1 : Int).toNat).filter fun x : Nat => !decide (1 + (x : Int) ∈ is)).length with e | e
  · have e2 := List.length_eq_zero_iff.mp e
    have all : ∀ x ∈ List.range 29, 1 + ((x : Nat) : Int) ∈ is := fun x hx => by
      have := List.filter_eq_nil_iff.mp e2 x hx
      simpa using this
    have nd : ((List.range 29).map fun (x : Nat) => 1 + (x : Int)).Nodup := by decide
    have := List.Nodup.length_le_of_subset nd fun y hy => by
      obtain ⟨x, hx, rfl⟩ := List.mem_map.mp hy
      exact all x hx
    simp at this
    omega
  · exact e
end Ml

/-! Ml23: repr of data; defs that are called where no repr is under way. -/
namespace Ml
open PySem L2 PySem.W PySem.Calls PyProof.Rows
/-! ### defs whose surroundings hold no guard -/
structure FnOkG (P : Program) (w : World) (K : Frag) (mg : Str → Option Value) (base : Heap) (CX : CXT) (k : Nat) (f : Addr) (fd : FuncData) (ps : List Str) (sp : Sp) : Prop where
  len : ∀ vs H Q E, sp vs H Q E → vs.length = ps.length
  run : ∀ (A : Around), A.guards = some [] → ∀ (outer : List Env) (s : Shared) (H : Hp) (args : Args) (us : List Value) (vs : List V) (Q : VK) (E : XK), Room k A → Env0 P w K mg base A outer s H → BindsTo s fd args (ps.zip us) → Vals vs us → sp vs H Q E →
    codeAny (model P w) A (.call (.ref f) args) (CR CX outer P w H s Q E) s
section
variable {P : Program} {w : World} {K : Frag} {mg : Str → Option Value} {base : Heap} {x qual : Str} {params : Arguments} {body : List Stmt} {scope : Scope} {f : Addr} {fd : FuncData} {CX : CXT}
theorem FunD.okG {N ps : List Str} {k : Nat} {sp : Sp} {dvs : List V} {kws : List (Str × V)} (F : FunD K x qual params body scope dvs kws f fd) (S : FnScope N ps scope) (len : ∀ vs H Q E, sp vs H Q E → vs.length = ps.length)
    (walk : ∀ (cdv : Value) (A : Around), A.guards = some [] → ∀ (outer : List Env) (s : Shared) (H : Hp) (vs : List V) (Q : VK) (E : XK), Room k (A.deeper (envOfC qual scope s.heap.objs.size f cdv)) → sp vs H Q E →
      ∃ t, PSs (cxOf CX P w K mg base N qual scope f cdv A outer s H E) body t ∧ t { nx := fun _ H' => Q .non H', rt := Q } (L2.start N vs) H) : FnOkG P w K mg base CX (k + 1) f fd ps sp := by
  obtain ⟨oc, od, dV, kV, doc, pm, an, cdv, ct, osl, rfl, found, coded, _, _⟩ := F.ex
  constructor
  · exact len
  intro A gA outer s H args us vs Q E room env binds vals wish
  have sameLen := len vs H Q E wish
  have inHeap : K.In s.heap := env.mod.kin.keeps fun b o e => (env.bs b o e).1
  have noLimit : s.heap.NoLimit := env.mod.nolimit.keeps fun b o e => (env.bs b o e).1
  have kinds : ∀ y ∈ ps.zip us, scope.names.lookup y.1 = some .local ∨ (scope.names.lookup y.1 = some .cell ∧ ((cellsFrom (s.heap.objs.size + 1) scope.names []).lookup y.1).isSome = true) := by
    rintro ⟨n, v⟩ hy
    have hn := S.par n (List.of_mem_zip hy).1
    exact hn.imp id fun q => ⟨q, PySem.W.cellsFrom_some _ _ _ (.inl q)⟩
  apply codeAny_call_function room.depth (inHeap _ _ found) rfl S.co S.gen rfl (PySem.W.codeRec_of inHeap coded)
  apply binds
  apply wpAny_newFunctionEnv_cells S.kind kinds
  intro env' he s1 x1
  subst he
  refine ⟨noLimit.keeps x1.toInCall.keep, codeAny_func ?_⟩
  obtain ⟨t, ht, reading⟩ := walk cdv A gA outer s H vs Q E (room.deeper _) wish
  have I := inv_start (CX := CX) (f := f) (cd := cdv) (qual := qual) (E := E) S room.hd env sameLen vals x1
  apply wpAny_mono (ht.run [] s1 (L2.start N vs) H _ I reading)
  · intro fl s' ended
    have back : ∀ {σ' : L2.St} {H' : Hp} {v : V} {u : Value}, L2.Inv (cxOf CX P w K mg base N qual scope f cdv A outer s H E) [] σ' H' s' → RelV v u → Q v H' → CE outer P w H s Q u s' := fun {σ' H' v u} J rv q => ⟨v, H', J.os, J.bare, J.base, J.hok, rv, q⟩
    match fl, ended with
    | .ret u, ⟨v, σ', H', J, rv, q⟩ => exact back J rv q
    | .next, ⟨σ', H', J, q⟩ => exact back (v := V.non) (u := Value.none) J rfl q
    | .brk, ⟨_, _, _, q⟩ => exact q.elim
    | .cont, ⟨_, _, _, q⟩ => exact q.elim
  · exact fun e s' hs => hs
theorem ok_defG (n : Nat) {dvs : List V} {kws : List (Str × V)} {N ps : List Str} {k : Nat} {s : DSp} (hn : N.length = n) (hp : Nat.ble ps.length n = true) (F : FunD K x qual params body scope dvs kws f fd) (S : FnScope N ps scope) (len : ∀ ds μ W X, s ds μ W X → ds.length = ps.length)
    (hbody : ∀ (cdv : Value) (A : Around), A.guards = some [] → ∀ (outer : List Env) (s0 : Shared) (H : Hp) (E : XK), Room k (A.deeper (envOfC qual scope s0.heap.objs.size f cdv)) →
      ∃ t, PSs (cxOf (L2.CX P w) P w K mg base N qual scope f cdv A outer s0 H E) body t ∧ ∀ ds μ W X, s ds μ W X → WPS K (bodyW E X) (startN n ds) μ t (bodyD W)) : FnOkG P w K mg base (L2.CX P w) (k + 1) f fd ps (spD K s) :=
  FunD.okG F S (fun vs H Q E ⟨T, μ, ds, W, X, M, r, h, _, _⟩ => r.length.trans (len ds μ W X h)) fun cdv A gA outer s0 H vs Q E hr ⟨T, μ, ds, W, X, M, r, h, F1, FX⟩ => by
    obtain ⟨t, ht, hq⟩ := hbody cdv A gA outer s0 H E hr
    have e : startD N ds = startN n ds := by
      unfold startD
      rw [hn]
      exact startN_eq n ds (by rw [len ds μ W X h]; exact Nat.le_of_ble_eq_true hp)
    refine ⟨t, ht, hq ds μ W X h T (L2.start N vs) H M (e ▸ locs_start r) ?_ _ ⟨?_, F1, ?_, ?_⟩⟩
    · exact fun T' C dx fs σ' ρ' H' μ' hx S' M' _ => FX T' C dx fs H' μ' hx S' M'
    · exact fun T' σ' H' ρ' μ' w S' M' L' => F1 T' .non H' .non μ' w S' M' .non
    · exact fun T' σ' H' ρ' μ' w S' M' L' => w.elim
    · exact fun T' σ' H' ρ' μ' w S' M' L' => w.elim
end
section
variable {X : Cx} {CX : CXT} {k : Nat} {f : Addr} {fd : FuncData} {ps : List Str} {sp : Sp} {E : XK} {x : Str} {p pos : Pos} {e : Expr} {es : List Expr} {t : TA}
/-- f(e, ..), f such a def -/
theorem pe_callG (gA : X.A.guards = some []) (F : FnOkG X.prog X.w X.K X.mg X.base CX k f fd ps sp) (hr : Room k X.A) (hg : Gl X x) (hm : X.mg x = some (.ref f)) (hk : PySem.W.keepIn X.K (.ref f) = true) (hb : L2.Binds X.K fd ps []) (hx : Passes CX X E)
    (ha : PA X (e :: es) t) (hdb : (x == ("__debug__" : Str)) = false := by decide) (he : starEach (e :: es) X.env = (false, eval e X.env) :: starEach es X.env := by rfl) (hpl : (backTo pos (starEach es X.env)).any (·.1) = false := by rfl) :
    PE X (.Call (.Name x p) (e :: es) [] pos) (tCall sp [] E t) := by
  constructor
  intro pins s σ H Q I reading
  apply wpAny_Call_Name_kw
  refine ld_glob I hg hm (PySem.W.callWith_K (h₀ := X.base) I.ok.mod.kin hk (thn (ha.run pos pins s σ H _ I reading) ?_) he hpl) hdb
  rintro us s1 ⟨vs, H1, I1, r, q⟩
  refine ⟨I1.kIn, ?_⟩
  have hl : us.length = ps.length := by rw [← r.length, ← F.len _ _ _ _ q, List.append_nil]
  have b := hb s1 us I1.kIn (by rw [List.append_nil]; exact hl)
  rw [List.append_nil] at b q
  apply wpAny_call
  apply codeAny_mono (F.run X.A gA X.stack s1 H1 ⟨us, []⟩ us vs Q E hr I1.env0 b r q)
  intro r s' hq
  match r, hq with
  | .error e, hq => exact hx pins σ H1 s1 e s' I1 hq
  | .ok (.ret u), hq => exact I1.after hq
  | .ok .next, hq => exact hq.elim
  | .ok .brk, hq => exact hq.elim
  | .ok .cont, hq => exact hq.elim
end
/-! ### repr -/
def rReprD (K : Frag) : List V → Hp → VK → Prop := fun vs H Q => ∃ (a : Addr) (d : PyData), vs = [.ref a] ∧ Dp K H (.ref a) d ∧ d.showable = true ∧ d.hasDict = false ∧ d.depth ≤ 50 ∧ d.shown.length ≤ sizeLine ∧ Q (.str d.shown) H
theorem cr_reprD {X : Cx} (gA : X.A.guards = some []) (hu : X.A.units + 64 < cLine) : CallR X (.builtin "repr") (rReprD X.K) := by
  rintro pins s σ H vs us Q I r ⟨a, d, rfl, hd, h1, h2, h3, h4, q⟩
  rw [Vals.ref1 r]
  obtain ⟨as, hR⟩ := Dp.reads I d (.ref a) (.ref a) hd rfl
  exact repr_of_reads' hR h1 (fun z => by rw [h2] at z; cases z) gA (by omega) (fun _ _ e => e) (fun h' u tk hk => ⟨.str d.shown, H, I.kept hk, ⟨u, rfl⟩, q⟩) h4
/-! data with cells in it -/
mutual
inductive PyIn (μ : Mem) : Dt → PyData → Prop
  | py {d : Dt} {p : PyData} : d.py = some p → PyIn μ d p
  | lst {d : Dt} {ds : List Dt} {ps : List PyData} : IsLst μ d ds → PyIns μ ds ps → PyIn μ d (.list ps)
  | tup {ds : List Dt} {ps : List PyData} : PyIns μ ds ps → PyIn μ (.tup ds) (.tuple ps)
inductive PyIns (μ : Mem) : List Dt → List PyData → Prop
  | nil : PyIns μ [] []
  | cons {d : Dt} {p : PyData} {ds : List Dt} {ps : List PyData} : PyIn μ d p → PyIns μ ds ps → PyIns μ (d :: ds) (p :: ps)
end
section
variable {K : Frag} {T H : Hp} {μ : Mem}
mutual
theorem PyIn.at (M : Mst K T μ H) : ∀ {d : Dt} {p : PyData} {v : V}, PyIn μ d p → Rep K T v d → Dp K H v p
  | _, _, _, .py e, r => r.dp M.sub e
  | _, _, _, .lst h hs, r => by
    obtain ⟨a, xs, rfl, ha, ra⟩ := h.at M r
    exact .lst (SqL.of ha) (PyIns.at M hs ra)
  | _, _, _, .tup hs, r => by
    obtain ⟨a, xs, rfl, ha, ra⟩ := r.tup_inv
    exact .tup (SqT.of (M.sub _ _ ha)) (PyIns.at M hs ra)
theorem PyIns.at (M : Mst K T μ H) : ∀ {ds : List Dt} {ps : List PyData} {vs : List V}, PyIns μ ds ps → Reps K T vs ds → DpAll K H vs ps
  | _, _, _, .nil, r => by
    obtain rfl := r.nil_inv
    exact .nil
  | _, _, _, .cons h hs, r => by
    obtain ⟨v, us, rfl, r1, r2⟩ := r.cons_inv
    exact .cons (PyIn.at M h r1) (PyIns.at M hs r2)
end
/-- what a repr asks of data -/
structure Shw (d : PyData) (n w : Nat) : Prop where
  s : d.showable = true
  l : d.leavesShort 40 = true
  nd : d.hasDict = false
  dp : d.depth ≤ n
  wt : d.weight ≤ w
theorem Shw.le {d : PyData} {n w n' w' : Nat} (h : Shw d n w) (h1 : n ≤ n') (h2 : w ≤ w') : Shw d n' w' := ⟨h.s, h.l, h.nd, Nat.le_trans h.dp h1, Nat.le_trans h.wt h2⟩
theorem Shw.fits {d : PyData} {n w : Nat} (h : Shw d n w) (hw : w ≤ 390000) : d.shown.length ≤ sizeLine := by
  have h1 := PyData.shown_le 40 (by decide) d h.l
  have h2 := h.wt
  have e : sizeLine = 16777216 := rfl
  rw [e]
  have : (40 + 2) * d.weight ≤ 42 * 390000 := Nat.mul_le_mul (by decide) (Nat.le_trans h2 hw)
  omega
theorem shw_int {i : Int} (h : i.natAbs < 10 ^ 38) : Shw (.int i) 0 128 := by
  have e : (10 : Nat) ^ 38 < 2 ^ 127 := by decide
  have e3 : (PyData.shown (.int i)).length ≤ 39 := by
    have e4 := int_text_length_le10 (k := 38) (by decide) h
    show (Str.ofString (toString i)).length ≤ 39
    rw [PySem.ofString_length]; exact e4
  have hl : i.natAbs.log2 < 127 := by
    by_cases z : i.natAbs = 0
    · rw [z]; decide
    · exact (Nat.log2_lt z).mpr (by omega)
  refine ⟨by simp [PyData.showable]; omega, ?_, rfl, Nat.le_refl _, ?_⟩
  · simp only [PyData.leavesShort, decide_eq_true_eq]
    omega
  · unfold PyData.weight
    split <;> omega
theorem shw_bool {b : Bool} : Shw (.bool b) 0 128 := ⟨rfl, rfl, rfl, Nat.le_refl _, Nat.zero_le _⟩
theorem shw_none : Shw .none 0 128 := ⟨rfl, rfl, rfl, Nat.le_refl _, Nat.zero_le _⟩
theorem shw_str {x : Str} (h : (x.cps.toList.all fun c => decide (c < 16 ^ 8)) = true) (hl : x.length ≤ 128) : Shw (.str x) 0 128 := ⟨rfl, h, rfl, Nat.le_refl _, by simp only [PyData.weight]; exact hl⟩
theorem shw_all {xs : List PyData} {n w : Nat} (h : ∀ x ∈ xs, Shw x n w) : PyData.showableAll xs = true ∧ PyData.leavesShortAll 40 xs = true ∧ PyData.hasDictAll xs = false ∧ PyData.depthAll xs ≤ n ∧ PyData.weightAll xs ≤ xs.length * (w + 1) := by
  induction xs with
  | nil => exact ⟨rfl, rfl, rfl, Nat.zero_le _, Nat.zero_le _⟩
  | cons x xs ih =>
    obtain ⟨a1, a2, a3, a4, a5⟩ := ih fun y hy => h y (List.mem_cons_of_mem _ hy)
    have b := h x List.mem_cons_self
    refine ⟨?_, ?_, ?_, ?_, ?_⟩
    · simp [PyData.showableAll, a1, b.s]
    · simp [PyData.leavesShortAll, a2, b.l]
    · simp [PyData.hasDictAll, a3, b.nd]
    · rw [PyData.depthAll]; exact Nat.max_le.mpr ⟨b.dp, a4⟩
    · rw [PyData.weightAll, List.length_cons, Nat.add_mul]
      have := b.wt
      omega
theorem shw_list {xs : List PyData} {n w k : Nat} (h : ∀ x ∈ xs, Shw x n w) (hk : xs.length ≤ k) : Shw (.list xs) (n + 1) (k * (w + 1)) := by
  obtain ⟨a1, a2, a3, a4, a5⟩ := shw_all h
  exact ⟨by simpa [PyData.showable] using a1, by simpa [PyData.leavesShort] using a2, by simpa [PyData.hasDict] using a3, by simp only [PyData.depth]; omega, by simp only [PyData.weight]; exact Nat.le_trans a5 (Nat.mul_le_mul_right _ hk)⟩
theorem shw_tup {xs : List PyData} {n w k : Nat} (h : ∀ x ∈ xs, Shw x n w) (hk : xs.length ≤ k) : Shw (.tuple xs) (n + 1) (k * (w + 1)) := by
  obtain ⟨a1, a2, a3, a4, a5⟩ := shw_all h
  exact ⟨by simpa [PyData.showable] using a1, by simpa [PyData.leavesShort] using a2, by simpa [PyData.hasDict] using a3, by simp only [PyData.depth]; omega, by simp only [PyData.weight]; exact Nat.le_trans a5 (Nat.mul_le_mul_right _ hk)⟩
/-- d is no flat thing -/
def Dt.big : Dt → Bool
  | .ref _ | .lst _ | .tup _ => true
  | _ => false
theorem rw_repr {d : Dt} {p : PyData} {n w : Nat} {W : Dt → Mem → Prop} (hd : PyIn μ d p) (hb : d.big = true) (hs : Shw p n w) (hn : n ≤ 50) (hw : w ≤ 390000) (k : W (.str p.shown) μ) : RWL K μ (rReprD K) [d] W := fun T H xs M r Q F => by
  obtain ⟨v, us, rfl, r1, r2⟩ := r.cons_inv
  obtain rfl := r2.nil_inv
  have D := hd.at M r1
  have e : ∃ a, v = .ref a := by
    cases r1 <;> first | exact ⟨_, rfl⟩ | cases hb
  obtain ⟨a, rfl⟩ := e
  exact ⟨a, p, rfl, D, hs.s, hs.nd, Nat.le_trans hs.dp hn, hs.fits hw, F T _ H _ μ k (Step.refl _ _ _) M (.str _)⟩
end
/-! ### the law itself -/
section
variable {P : Program} {w : World} {K : Frag} {mg mb : Str → Option Value} {CX : CXT} {k : Nat} {fa a : Addr} {fd : FuncData} {x : Str} {sp : Sp} {s₁ : Shared} {vs : List Value} {ns : List Int}
/-- the law runs from a heap in which H is tracked -/
theorem law_from (H : Hp) (only : Only H) (clear : ∀ b o, s₁.heap.get? b = some o → (K.lookup b = some o ∨ ∃ es ep, o.data = .dict es ep) → H b = none) (ok : HOk P w H s₁.heap)
    (found : K.In s₁.heap) (names : s₁.heap.Ns mainGlobals mg) (bnames : s₁.heap.Ns builtinsNs mb) (boot : ∀ x : Str, x ≠ "__name__" → mb x = bootBuiltins x) (noLimit : s₁.heap.NoLimit) (noGens : s₁.gens = #[]) (room : Room k callerA)
    (F : ∀ base : Heap, FnOkG P w K mg base CX k fa fd [x] sp) (bound : ∀ (s : Shared) (u : Value), BindsTo s fd ⟨[u], []⟩ [(x, u)]) (wish : sp [.ref a] H (fun v _ => v = .bl true) fun _ _ _ => False) (noExc : ∀ e s', CX [] H s₁ (fun _ _ _ => False) e s' → False) :
    codeAny (model P w) callerA (.call (.ref fa) ⟨[.ref a], []⟩) (fun r s' => r = .ok (.ret (.bool true)) ∧ OldK s₁.heap s'.heap ∧ s'.os = s₁.os ∧ AllBare s'.gens) s₁ := by
  have kNs : ∀ {b : Addr} {m : Str → Option Value}, s₁.heap.Ns b m → (hidT s₁.heap H).Ns b m := by
    rintro b m ⟨o, es, ep, e, d, r⟩
    exact ⟨o, es, ep, hidT_get e (clear b o e (.inr ⟨es, ep, d⟩)), d, r⟩
  have kK : K.In (hidT s₁.heap H) := fun b o e => hidT_get (found b o e) (clear b o (found b o e) (.inl e))
  have kM : Mod K mg (hidT s₁.heap H) := by
    obtain ⟨mc, l1, l2⟩ := noLimit
    exact ⟨kK, kNs names, ⟨mb, kNs bnames, boot⟩, ⟨mc, kNs l1, l2⟩⟩
  have env : Env0 P w K mg (hidT s₁.heap H) callerA [] s₁ H :=
    { frames := rfl, mod := kM, bs := fun b o e => of_hidT e, bsz := Nat.le_of_eq (hidT_size _ _), funs := trivial, frf := (fun b hb => by cases hb), hok := ok, bare := .of_eq noGens }
  apply codeAny_mono ((F _).run callerA rfl [] s₁ H ⟨[.ref a], []⟩ [.ref a] [.ref a] _ _ room env (bound s₁ (.ref a)) (.cons rfl .nil) wish)
  intro r s' ended
  match r, ended with
  | .error e, ended => exact (noExc e s' ended).elim
  | .ok .next, ended => exact ended.elim
  | .ok .brk, ended => exact ended.elim
  | .ok .cont, ended => exact ended.elim
  | .ok (.ret u), ⟨v, H', os, bare, un, ok', rv, q⟩ =>
    obtain rfl : v = .bl true := q
    obtain rfl : u = Value.bool true := rv
    refine ⟨rfl, OldK.of_keep ?_, os, bare⟩
    intro b o e
    rcases only b with z | ⟨ob, xs, z⟩
    · exact un.keep b o e z (fun y => by cases y) (fun y => by cases y)
    · have e1 := (ok b _ z).1
      have e2 := (ok' b _ (un.frzs b ob _ z)).1
      rw [e] at e1
      cases e1
      exact e2
theorem law_callG (found : K.In s₁.heap) (names : s₁.heap.Ns mainGlobals mg) (bnames : s₁.heap.Ns builtinsNs mb) (boot : ∀ x : Str, x ≠ "__name__" → mb x = bootBuiltins x) (noLimit : s₁.heap.NoLimit) (noGens : s₁.gens = #[])
    (there : s₁.heap.get? a = some { cls := .type "list", data := .seq vs.toArray }) (hints : IntsAre vs ns) (short : ns.length ≤ sizeLine) (room : Room k callerA)
    (F : ∀ base : Heap, FnOkG P w K mg base CX k fa fd [x] sp) (bound : ∀ (s : Shared) (u : Value), BindsTo s fd ⟨[u], []⟩ [(x, u)])
    (wish : ∀ H : Hp, Only H → SqL K H a (ns.map V.int) → sp [.ref a] H (fun v _ => v = .bl true) fun _ _ _ => False)
    (noExc : ∀ H e s', CX [] H s₁ (fun _ _ _ => False) e s' → False) :
    codeAny (model P w) callerA (.call (.ref fa) ⟨[.ref a], []⟩) (fun r s' => r = .ok (.ret (.bool true)) ∧ OldK s₁.heap s'.heap ∧ s'.os = s₁.os ∧ AllBare s'.gens) s₁ := by
  have vals := vals_ints hints
  have len := hints.length
  by_cases hk : K.lookup a = none
  · let H : Hp := fun b => if b = a then some (.frz { cls := .type "list", data := .seq vs.toArray } (.lst (ns.map V.int))) else none
    have hA : H a = some (.frz { cls := .type "list", data := .seq vs.toArray } (.lst (ns.map V.int))) := if_pos rfl
    have hN : ∀ {b}, b ≠ a → H b = none := fun n => if_neg n
    have only : Only H := fun b => by
      by_cases e : b = a
      · subst e; exact .inr ⟨_, _, hA⟩
      · exact .inl (hN e)
    refine law_from H only (fun b o e c => hN fun z => ?_) (fun b u z => ?_) found names bnames boot noLimit noGens room F bound (wish H only (.inl (.inr ⟨_, hA⟩))) (noExc H)
    · subst z
      rw [there] at e
      cases e
      rcases c with c | ⟨es, ep, d⟩
      · rw [hk] at c; cases c
      · have d : Data.seq vs.toArray _ = Data.dict es ep := d
        cases d
    · by_cases e : b = a
      · subst e
        rw [hA] at z
        cases z
        exact ⟨there, by rw [List.length_map]; exact short, vs, _, vals, there⟩
      · rw [hN e] at z; cases z
  · obtain ⟨o, hk⟩ := Option.ne_none_iff_exists'.mp hk
    have e := found a o hk
    rw [there] at e
    cases e
    have only : Only fun _ => none := fun b => .inl rfl
    exact law_from (fun _ => none) only (fun _ _ _ _ => rfl) (fun b u z => by cases z) found names bnames boot noLimit noGens room F bound (wish _ only (.inr ⟨_, vs.toArray, _, hk, rfl, rfl, rfl, by rw [List.size_toArray, len]; exact short, by simpa using vals⟩)) (noExc _)
end
theorem walk_genG {l : OpenLaw} {q : Program} {loose : List Str} {XP : (Str → Option Value) → Heap → Prop} {d : DefRec} {fa : List Fc} {fn : List DefP} {n k : Nat} (hn : l.most = some 63) (hdf : d.params.defaults = []) (hr : Room k callerA) (hd : d.name = "law")
    (F : ∀ (w : World) (K : Frag) (mg : Str → Option Value), Good fa fn K mg → ∀ base : Heap, FnOkG l.prog w K mg base (L2.CX l.prog w) k (gA "law" K) (fdOf K (gA "law" K)) ["script"] (spD K (sp_law K)))
    (bt : ∀ (K : Frag) (mg : Str → Option Value), Good fa fn K mg → ∀ (s : Shared) (u : Value), BindsTo s (fdOf K (gA "law" K)) { pos := [u] } [("script", u)])
    (glo : ∀ (K : Frag) (mg : Str → Option Value), Good fa fn K mg → mg "law" = some (.ref (gA "law" K))) : PySem.W.WalkO q loose XP (hookP n fa fn).says l.row.toRowW d [] (fun f vs => PySem.call f vs) :=
  Att.attach_callB hn hdf fun w s₀ s₁ mg mb a' o pm cd doc a vs ns G Y ho ht hcd hmg hobj hints hlen hbits hg => by
    obtain ⟨K, KX, e⟩ := Y
    have GG : Good fa fn K mg := ⟨e, s₁.heap, KX, G.T.g⟩
    have ea : a' = gA "law" K := by
      rw [hd, glo K mg GG] at hmg
      cases hmg
      rfl
    subst ea
    refine law_callG KX G.T.g G.T.b G.T.builtins G.T.nolimit hg hobj hints (Nat.le_trans hlen (by decide)) hr (fun base => F w K mg GG base) (bt K mg GG) (fun H hO hS => ?_) fun H e s' ⟨_, _, _, _, _, _, _, _, _, _, _, _, h⟩ => h
    refine ⟨H, [], [.fls (ns.map .int)], fun d _ => d = .bl true, noX, ⟨Sub.refl _, (fun _ h => absurd h List.not_mem_nil), List.nodup_nil⟩, .cons (.fls hS (reps_ints ns)) .nil, ⟨_, rfl, ns, rfl, hlen, hbits, fun _ => rfl⟩, ?_, finX_no⟩
    rintro T' v H' d μ' rfl _ _ r
    exact r.bl_inv
end Ml

/-! Ml24: == and != of own instances with anything; xs[::-1]. -/
namespace Ml
open PySem L2 PySem.W PySem.Calls PyProof.Rows
structure Frn (K : Frag) (t : String) (C : Addr) : Prop where
  k : kitOne K (.type t) (.ref C) = some false
  s : subIn K (.type t) (.ref C) = some false
structure Nes (K : Frag) (C : Addr) : Prop where
  n : findIn K (.ref C) "__ne__" = some (some (.builtin "object.__ne__"))
  m : mroIn K C (.type "object") = some true
theorem Good.frn {fa : List Fc} {fn : List DefP} {K : Frag} {mg : Str → Option Value} (G : Good fa fn K mg) (i : Nat) {t : String} {C : Str} (h : fa[i]? = some (.frn t C)) : Frn K t (gA C K) := by
  obtain ⟨c1, c2⟩ := He.ba (show (_ && _) = true from G.fc i h)
  exact ⟨of_decide_eq_true c1, of_decide_eq_true c2⟩
theorem Good.nes {fa : List Fc} {fn : List DefP} {K : Frag} {mg : Str → Option Value} (G : Good fa fn K mg) (i : Nat) {C : Str} (h : fa[i]? = some (.nes C)) : Nes K (gA C K) := by
  obtain ⟨c1, c2⟩ := He.ba (show (_ && _) = true from G.fc i h)
  exact ⟨of_decide_eq_true (show decide _ = true from c1), of_decide_eq_true c2⟩
/-! ### != -/
section
variable {prog : Program} {w : World} {A : Around} {E : Value → Shared → Prop} {s : Shared} {K : Frag} {x C f : Addr} {ox : Obj} {od : Option Obj} {b : Value}
theorem ne_entry {Q : Fin → Shared → Prop} (hu : A.units < cLine) (X : K.In s.heap) (I : InstAt s.heap x ox C od) (he : findIn K (.ref C) "__eq__" = some (some (.ref f))) (hf : isFn K (.ref f) = true)
    (h : wpAny (model prog w) A (call (.ref f) [.ref x, b]) (fun v s' => ∃ z, v = .bool z ∧ Q (.done (.ret (.bool (!z)))) s') E s) : wpAny (model prog w) A (Builtin.«object.__ne__» ⟨[.ref x, b], []⟩) Q E s := by
  unfold Builtin.«object.__ne__»
  have inner : wpAny (model prog w) A (callSpecialIfBound? (.ref x) (Str.ofString "__eq__") [b]) (fun r s' => ∃ z, r = some (.bool z) ∧ Q (.done (.ret (.bool (!z)))) s') E s :=
    ifBound_K X I he hf (wpAny_mono h (fun v s' ⟨z, e, q⟩ => ⟨z, congrArg some e, q⟩) fun _ _ e => e)
  repeat (first
    | with_reducible refine wpAny_cRoomFor hu ?_
    | (refine wpAny_bind (m := callSpecialIfBound? (.ref x) (Str.ofString "__eq__") [b]) (wpAny_mono inner (fun r s' z => ?_) fun _ _ e => e); obtain ⟨z, rfl, q⟩ := z)
    | exact q
    | exact wpAny_pure q
    | exact wpAny_truthy_bool q
    | (refine wpAny_bind (m := truthy (.bool _)) (wpAny_truthy_bool ?_))
    | wp_step)
theorem cmp_ne {Q : Value → Shared → Prop} (hu : A.units + 1 < cLine) (X : K.In s.heap) (I : InstAt s.heap x ox C od) (hb : Looks (model prog w) s.heap (typeOf b) (.ref C)) (N : Nes K C) (he : findIn K (.ref C) "__eq__" = some (some (.ref f))) (hf : isFn K (.ref f) = true)
    (h : wpAny (model prog w) A.in1 (call (.ref f) [.ref x, b]) (fun v s' => ∃ z, v = .bool z ∧ Q (.bool (!z)) s') E s) : wpAny (model prog w) A (richCompare .NotEq (.ref x) b) Q E s := by
  have sp : Looks (model prog w) s.heap (specialOf (.ref x) "__ne__") (some (.builtin "object.__ne__")) := I.type.andThen (looks_findIn X N.n)
  have called : wpAny (model prog w) A (call (.builtin "object.__ne__") [.ref x, b]) (fun v s' => ∃ z, v = .bool z ∧ Q v s') E s := by
    refine wpAny_call (codeAny_call_builtin F.cmp_object.ne.plain F.cmpEntry_ne (check_slot F.cmpKind_ne F.cmpSplit_ne (I.type.andThen (looks_mroIn X N.m)) (F.cmpArgs_ne _ _) ?_))
    exact ne_entry (A := A.in1) hu X I he hf (wpAny_mono h (fun v s' ⟨z, e, q⟩ => ⟨z, e, ⟨!z, rfl, q⟩⟩) fun _ _ e => e)
  have tried : wpAny (model prog w) A (tryCompare (.ref x) (cmpInfo .NotEq).2.1 b) (fun r s' => ∃ v, r = some v ∧ Q v s') E s := by
    unfold tryCompare
    refine wpAny_bind (NtL.csib sp (F.cmp_object.ne.bind _) (wpAny_mono called (fun v s' ⟨z, e, q⟩ => ?_) fun _ _ e => e))
    subst e
    exact wpAny_pure ⟨_, rfl, q⟩
  have done : ∀ {k : Option Value → Sem Value}, (∀ v s', Q v s' → wpAny (model prog w) A (k (some v)) Q E s') → wpAny (model prog w) A (tryCompare (.ref x) (cmpInfo .NotEq).2.1 b >>= k) Q E s := fun hk =>
    wpAny_bind (wpAny_mono tried (fun r s' ⟨v, e, q⟩ => by subst e; exact hk v s' q) fun _ _ e => e)
  unfold richCompare
  simp only [oneThing_ref]
  refine wpAny_holding (wpAny_bind (wpAny_cRoomFor (Nat.lt_of_succ_lt hu) (wpAny_bind (I.type.here (wpAny_bind (hb.here ?_))))))
  split
  · rename_i q
    exact absurd q (by simp)
  · refine wpAny_bind (wpAny_pure ?_)
    simp only [Bool.false_eq_true, if_false]
    exact done fun v s' q => wpAny_pure q
end
def rNotOwn (K : Frag) (C : Addr) (sp : Sp) (E : XK) : R2 := fun x y H Q => ∃ a dx fs b dy gs, x = .ref a ∧ y = .ref b ∧ H a = some (.ins C dx fs) ∧ H b = some (.ins C dy gs) ∧ sp [x, y] H (fun v H' => ∃ z, v = .bl z ∧ Q (.bl (!z)) H') E
theorem op_notOwn {X : Cx} {CX : CXT} {C g : Addr} {fd : FuncData} {ps : List Str} {n : Nat} {sp : Sp} {E : XK} (hm : Meth X.K C "__eq__" g) (N : Nes X.K C)
    (F : FnOk X.prog X.w X.K X.mg X.base CX n g fd ps sp) (hr : Room (n + 1) X.A) (hb : L2.Binds X.K fd ps []) (hx : Passes CX X E) : OpR X (compareOp .NotEq) (rNotOwn X.K C sp E) := by
  rintro pins s σ H x y v u Q I rx ry ⟨a, dx, fs, b, dy, gs, rfl, rfl, ha, hb', q⟩
  cases rx
  cases ry
  obtain ⟨ox, od, J⟩ := inst_at I ha
  obtain ⟨oy, oe, J'⟩ := inst_at I hb'
  have hop : ∀ a b : Value, compareOp .NotEq a b = richCompare .NotEq a b := fun _ _ => rfl
  rw [hop]
  refine cmp_ne (by have := hr.un; omega) I.kIn J (InstAt.type J') N hm.at_ hm.fn ?_
  have b := hb s [.ref a, .ref b] I.kIn (by rw [List.append_nil]; have := F.len _ _ _ _ q; simpa using this)
  rw [List.append_nil] at b
  refine wpAny_call (codeAny_mono (F.run X.A.in1 X.stack s H ⟨[.ref a, .ref _], []⟩ [.ref a, .ref _] [.ref a, .ref _] _ E hr.in1 I.env0.in1 b (Paired.cons (show RelV (V.ref a) (Value.ref a) from rfl) (Paired.cons (show RelV (V.ref _) (Value.ref _) from rfl) Paired.nil)) q) ?_)
  intro r s' hq
  match r, hq with
  | .error e, hq => exact hx pins σ H s e s' I hq
  | .ok (.ret u), hq =>
    obtain ⟨z', H', I', rz, k, rfl, qz⟩ := I.after hq
    cases rz
    exact ⟨k, rfl, .bl (!k), H', I', rfl, qz⟩
  | .ok .next, hq => exact hq.elim
  | .ok .brk, hq => exact hq.elim
  | .ok .cont, hq => exact hq.elim
section
variable {K : Frag} {Y : Wish} {T T1 H H1 : Hp} {μ μ1 : Mem} {ρ : Ro} {σ : L2.St} {D : DE}
theorem rw_notOwn {C : Addr} {s : DSp} {E : XK} {a b : Addr} {i j : Nat} {fs gs : List (Str × Dt)} {W : Dt → Mem → Prop} (h1 : μ[i]? = some (a, .ins C fs)) (h2 : μ[j]? = some (b, .ins C gs)) (h : s [.ref a, .ref b] μ (fun d μ' => ∃ z, d = .bl z ∧ W (.bl (!z)) μ') noX) : RW2 K μ (rNotOwn K C (spD K s) E) (.ref a) (.ref b) W := fun T H x y M r1 r2 Q F => by
  obtain rfl := r1.ref_inv
  obtain rfl := r2.ref_inv
  obtain ⟨dx, us, e1, _⟩ := M.get h1
  obtain ⟨dy, vs, e2, _⟩ := M.get h2
  refine ⟨a, dx, us, b, dy, vs, rfl, rfl, e1, e2, T, μ, _, _, noX, M, .cons (.ref a) (.cons (.ref b) .nil), h, ?_, finX_no⟩
  rintro T' v H' d μ' ⟨z, rfl, w⟩ S' M' r
  exact ⟨z, r.bl_inv, F T' _ H' _ μ' w S' M' (.bl _)⟩
end
theorem reps_rev {K : Frag} {T : Hp} : ∀ {xs : List V} {ds : List Dt}, Reps K T xs ds → Reps K T xs.reverse ds.reverse
  | _, _, .nil => .nil
  | _, _, .cons h r => by rw [List.reverse_cons, List.reverse_cons]; exact (reps_rev r).append (Reps.one h)
/-! ### == with anything -/
/-- y is of the built-in type t -/
def rOwnA (K : Frag) (C : Addr) (sp : Sp) (E : XK) : R2 := fun x y H Q => ∃ a dx fs t, x = .ref a ∧ H a = some (.ins C dx fs) ∧ TyX K H y (.type t) ∧ Frn K t C ∧ sp [x, y] H Q E
theorem op_ownA {X : Cx} {CX : CXT} {C g : Addr} {fd : FuncData} {ps : List Str} {n : Nat} {sp : Sp} {E : XK} {op : CmpOp} (hop : ∀ a b : Value, compareOp op a b = richCompare op a b) {nm : Str} (hn : (cmpInfo op).2.1 = nm) (hm : Meth X.K C nm g)
    (F : FnOk X.prog X.w X.K X.mg X.base CX n g fd ps sp) (hr : Room n X.A) (hb : L2.Binds X.K fd ps []) (hx : Passes CX X E) : OpR X (compareOp op) (rOwnA X.K C sp E) := by
  rintro pins s σ H x y v u Q I rx ry ⟨a, dx, fs, t, rfl, ha, ty, fr, q⟩
  cases rx
  obtain ⟨ox, od, J⟩ := inst_at I ha
  obtain ⟨P, Z, p, hnb⟩ := kit_of I ry ty
  obtain ⟨m, hF⟩ := Inv.fr I
  rw [hop]
  refine cmp_K hr.units0 hF I.ok.mod.kin J (Z.ty _ _ I.kIn p) (by unfold notFirst; rw [fr.s]; simp) (by rw [hn]; exact hm.at_) hm.fn (wpAny_mono (run_fn F hr hb .nil hx I (Paired.cons (show RelV (V.ref a) (Value.ref a) from rfl) (Paired.cons ry Paired.nil)) (by rw [List.append_nil]; exact q)) ?_ fun _ _ z => z)
  rintro w s' ⟨z', H', I', rz, qz⟩
  exact SlX.cmpback rz ⟨z', H', I', rz, qz⟩
theorem pe_revLK (K : Frag) {X : Cx} {e : Expr} {te : TE} {k : Nat} {p1 p2 p3 pos : Pos} (he : PE X e te) (hK : X.K = K := by rfl) : PE X (.Subscript e (.Slice none none (some (.UnaryOp .USub (.Constant (.int 1) k p1) p2)) p3) pos) (tRevL K te) := hK ▸ pe_revL he
section
variable {K : Frag} {Y : Wish} {T T1 H H1 : Hp} {μ μ1 : Mem} {ρ : Ro} {σ : L2.St} {D : DE}
theorem rw_ownA {C : Addr} {s : DSp} {E : XK} {a : Addr} {i : Nat} {fs : List (Str × Dt)} {d : Dt} {t : String} {W : Dt → Mem → Prop} (h1 : μ[i]? = some (a, .ins C fs)) (ty : TyD μ d t) (fr : Frn K t C) (h : s [.ref a, d] μ W noX) : RW2 K μ (rOwnA K C (spD K s) E) (.ref a) d W := fun T H x y M r1 r2 Q F => by
  obtain rfl := r1.ref_inv
  obtain ⟨dx, us, e1, _⟩ := M.get h1
  exact ⟨a, dx, us, t, rfl, e1, ty.at M r2, fr, T, μ, _, W, noX, M, .cons (.ref a) (.cons r2 .nil), h, F, finX_no⟩
/-- isinstance(d, C): d is of a built-in type -/
theorem rw_isiF {C : Addr} {d : Dt} {t : String} {W : Dt → Mem → Prop} (ty : TyD μ d t) (fr : Frn K t C) (w : W (.bl false) μ) : RWL K μ (rIsi K) [d, .ref C] W := fun T H xs M r Q F => by
  obtain ⟨v, us, rfl, r1, r2⟩ := r.cons_inv
  obtain ⟨u, us', rfl, r3, r4⟩ := r2.cons_inv
  obtain rfl := r4.nil_inv
  obtain rfl := r3.ref_inv
  exact ⟨_, _, _, _, false, rfl, .own C, ty.at M r1, fr.k, F T _ H _ μ w (Step.refl _ _ _) M (.bl false)⟩
/-- xs[::-1] -/
theorem wp_revL {te : TE} {W : Dt → Mem → Prop} (h : WP K Y ρ μ te fun d μ1 => ∃ ds, IsLst μ1 d ds ∧ W (.lst ds.reverse) μ1) : WP K Y ρ μ (tRevL K te) W := fun T σ H M L N Q F =>
  h T σ H M L N _ fun T1 x H1 d μ1 ⟨ds, hl, w⟩ S1 M1 r1 => by
    obtain ⟨a, xs, rfl, ha, ra⟩ := hl.at M1 r1
    refine ⟨a, xs, rfl, SqL.of ha, fun p hp => ?_⟩
    obtain ⟨M2, S2⟩ := M1.lay (o := .lst xs.reverse) hp
    exact F _ _ _ _ μ1 w (S1.trans S2) M2 (.lst upd_same (Reps.mono S2.grow (reps_rev ra)))
/-- .. that will change -/
theorem wp_revLC {te : TE} {W : Dt → Mem → Prop} (h : WP K Y ρ μ te fun d μ1 => ∃ ds, IsLst μ1 d ds ∧ ∀ p, p ∉ dom μ1 → W (.ref p) ((p, .lst ds.reverse) :: μ1)) : WP K Y ρ μ (tRevL K te) W := fun T σ H M L N Q F =>
  h T σ H M L N _ fun T1 x H1 d μ1 ⟨ds, hl, w⟩ S1 M1 r1 => by
    obtain ⟨a, xs, rfl, ha, ra⟩ := hl.at M1 r1
    refine ⟨a, xs, rfl, SqL.of ha, fun p hp => ?_⟩
    obtain ⟨M2, S2⟩ := M1.cell (m := .lst ds.reverse) (o := .lst xs.reverse) hp ⟨_, upd_same, reps_rev ra⟩
    exact F _ _ _ _ _ (w p (M1.notin hp)) (S1.trans S2) M2 (.ref p)
end
end Ml

/-! Ml25: a comparison and its model side by side. -/
namespace Ml
open PySem L2 PySem.W PySem.Calls PyProof.Rows
/-- states of a comparison, or of a model: all valid, at most n -/
structure Twin (m : Nat) (sts : List Stt) (k n : Nat) : Prop where
  all : ∀ s ∈ sts, Val m s
  lt : k < sts.length
  few : sts.length ≤ n
theorem Twin.at {m k n : Nat} {sts : List Stt} (h : Twin m sts k n) : ∃ t, sts[k]? = some t ∧ Val m t := ⟨sts[k]'h.lt, List.getElem?_eq_getElem h.lt, h.all _ (List.getElem_mem h.lt)⟩
theorem Twin.le {m k n n' : Nat} {sts : List Stt} (h : Twin m sts k n) (hn : n ≤ n') : Twin m sts k n' := ⟨h.all, h.lt, Nat.le_trans h.few hn⟩
theorem Twin.one {m : Nat} {s : Stt} (h : Val m s) : Twin m [s] 0 1 := ⟨fun t ht => by simp at ht; subst ht; exact h, by simp, by simp⟩
theorem keepS_at {sts : List Stt} {k : Nat} {s : Stt} (h : k < sts.length) : (keepS sts k s)[k + 1]? = some s := by
  unfold keepS
  have e : (sts.take (k + 1)).length = k + 1 := by rw [List.length_take]; omega
  rw [List.getElem?_append_right (by omega), e]
  simp
theorem keepS_len {sts : List Stt} {k : Nat} {s : Stt} (h : k < sts.length) : (keepS sts k s).length = k + 2 := by
  unfold keepS
  rw [List.length_append, List.length_take]
  simp
  omega
theorem keepS_all {m : Nat} {sts : List Stt} {k : Nat} {s : Stt} (h : ∀ t ∈ sts, Val m t) (v : Val m s) : ∀ t ∈ keepS sts k s, Val m t := by
  intro t ht
  unfold keepS at ht
  rcases List.mem_append.mp ht with h1 | h1
  · exact h t (List.mem_of_mem_take h1)
  · simp at h1; subst h1; exact v
theorem Twin.keep {m k n : Nat} {sts : List Stt} {s : Stt} (h : Twin m sts k n) (v : Val m s) : Twin m (keepS sts k s) (k + 1) (n + 1) :=
  ⟨keepS_all h.all v, by rw [keepS_len h.lt]; omega, by rw [keepS_len h.lt]; have := h.few; have := h.lt; omega⟩
theorem Twin.step {m k n : Nat} {sts : List Stt} {t : Stt} {e : Deed} (h : Twin m sts k n) (ht : sts[k]? = some t) (o : DeedOk m sts k t e) : Twin m (stepB sts k t e).1 (stepB sts k t e).2 (n + 1) := by
  have v : Val m t := h.all t (List.mem_of_getElem? ht)
  cases e with
  | undo => exact ⟨h.all, by show k - 1 < sts.length; have := h.lt; omega, by show sts.length ≤ n + 1; have := h.few; omega⟩
  | redo => exact ⟨h.all, o, by show sts.length ≤ n + 1; have := h.few; omega⟩
  | _ => exact h.keep (val_step v o)
theorem StrAt.push {μ : Mem} {c : Nat} {a : Addr} {y : Addr × Mo} (h : StrAt μ c a) : StrAt (y :: μ) (c + 1) a := by
  obtain ⟨dg, sd, h1, h2⟩ := h.ex
  exact ⟨dg, sd, h1, h2⟩
theorem Val.le8 {m : Nat} {s : Stt} (v : Val m s) (hm : m ≤ 60) : s.own.length ≤ 60 ∧ s.other.length ≤ 60 ∧ s.fixed.length ≤ 60 := ⟨Nat.le_trans v.l1 hm, Nat.le_trans v.l2 hm, Nat.le_trans v.few hm⟩
theorem Twin.cmp {K : Frag} {μ : Mem} {c : Nat} {a : Addr} {m k n : Nat} {sts : List Stt} {t : Stt} (h : Twin m sts k n) (ht : sts[k]? = some t) (hm : m ≤ 60) (hn : n ≤ 100000) (hc : μ[c]? = some (a, cmpMo K sts k)) : CmpAt K μ c a sts k t := by
  obtain ⟨h1, h2, h3⟩ := (h.all t (List.mem_of_getElem? ht)).le8 hm
  exact ⟨hc, ht, Nat.le_trans h.few hn, by omega, by omega, by omega⟩
/-- a valid state stays as it is when sorted -/
theorem Val.canon {m : Nat} {s : Stt} (v : Val m s) : Ml.canon s = s := by
  unfold Ml.canon
  rw [v.so, v.st, v.sf]
def q_law_begun (m : Nat) (K : Frag) (s : Dt) : Post := fun μ W _ => ∃ (c : Nat) (a : Addr), s = .ref a ∧ StrAt μ c a ∧ ∀ x p b sts k, p ∉ dom μ → b ∉ dom μ → p ≠ b → Twin m sts k 11 → StrAt (μ.set c (a, x)) c a → W (.tup [.ref p, .ref b]) ((b, boxMo sts k) :: (p, cmpMo K sts k) :: μ.set c (a, x))
def q_law_same (K : Frag) (x y : Dt) : Post := fun μ W _ => ∃ (c : Nat) (a : Addr) (sts : List Stt) (k : Nat) (t : Stt) (c' : Nat) (a' : Addr) (sts' : List Stt) (k' : Nat) (s : Stt), x = .ref a ∧ CmpAt K μ c a sts k t ∧ y = .ref a' ∧ μ[c']? = some (a', boxMo sts' k') ∧ sts'[k']? = some s ∧ W (.bl (decide (t = s))) μ
section
variable {K : Frag} {Y : Wish} {T T1 H H1 : Hp} {μ μ1 : Mem} {ρ : Ro} {σ : L2.St} {D : DE}
/-- a conditional expression of whole numbers -/
theorem wp_ifI {c : TT} {p : Bool} {ta tb : TE} {x y : Int} {W : Dt → Mem → Prop} (h : PT1 K Y ρ μ c p) (ha : p = true → WP K Y ρ μ ta fun d μ' => d = .int x ∧ μ' = μ) (hb : p = false → WP K Y ρ μ tb fun d μ' => d = .int y ∧ μ' = μ) (w : W (.int (if p = true then x else y)) μ) : WP K Y ρ μ (tIf c ta tb) W := wp_if (WPT.imp h fun b μ' ⟨e, e2⟩ => by
  subst e e2
  cases b with
  | true => exact itT rfl (WP.imp (ha rfl) fun d μ'' ⟨e, e2⟩ => by subst e e2; exact w)
  | false => exact itF rfl (WP.imp (hb rfl) fun d μ'' ⟨e, e2⟩ => by subst e e2; exact w))
/-- cells forgotten -/
theorem wpg_drop {gone μ' : Mem} {g : TG} {d : Dt} {W : Ro → Mem → Prop} (h : WPG K Y ρ μ' g d W) : WPG K Y ρ (gone ++ μ') g d W := fun T σ H v M L N r Q F => by
  obtain ⟨M2, S2⟩ := M.drop (foot := μ') (rest := gone) List.perm_append_comm
  exact h T σ H v M2 (L.mono S2.grow) (N.go S2) (r.mono S2.grow) Q (F.go S2 fun _ _ w => w)
theorem wps_drop' {gone μ' : Mem} {ts : TS} (h : WPS K Y ρ μ' ts D) : WPS K Y ρ (gone ++ μ') ts D := wps_weak (ρ' := ρ) (rest := gone) List.perm_append_comm rfl (fun _ _ e => e) h
theorem py_ts (s : Stt) : (tsD s).py = some (.tuple [.list (s.own.map lnP), .list (s.other.map lnP), .int s.cap, .list (s.fixed.map prP)]) := by
  simp only [tsD, Dt.py, Dt.pys, pys_map lnD lnP (fun _ => rfl), pys_map prD prP (fun _ => rfl), Option.map]
theorem eqv_ts (s t : Stt) : PyData.eqv (.tuple [.list (s.own.map lnP), .list (s.other.map lnP), .int s.cap, .list (s.fixed.map prP)]) (.tuple [.list (t.own.map lnP), .list (t.other.map lnP), .int t.cap, .list (t.fixed.map prP)]) = decide (s = t) := by
  rw [eqv_tup]
  simp only [PyData.eqvAll, eqv_lns, eqv_prs, eqv_int]
  cases s; cases t; simp
theorem low_lns (xs : List Ln) : Low (.list (xs.map lnP)) 2 := low_list (n := 1) fun x hx => by obtain ⟨y, _, rfl⟩ := List.mem_map.mp hx; exact low_lnP y
theorem low_prs (xs : List Pr) : Low (.list (xs.map prP)) 2 := low_list (n := 1) fun x hx => by obtain ⟨y, _, rfl⟩ := List.mem_map.mp hx; exact low_prP y
theorem Low.le {d : PyData} {n m : Nat} (h : Low d n) (k : n ≤ m) : Low d m := ⟨h.1, Nat.le_trans h.2 k⟩
theorem sh_ts (s : Stt) : SeqAt.shaped (.tuple [.list (s.own.map lnP), .list (s.other.map lnP), .int s.cap, .list (s.fixed.map prP)]) = true := (low_tup (n := 2) fun x hx => by
  simp at hx
  rcases hx with rfl | rfl | rfl | rfl
  · exact low_lns _
  · exact low_lns _
  · exact (low_int _).le (by decide)
  · exact low_prs _).shaped (by decide)
theorem rw_eqTS {s t : Stt} {W : Dt → Mem → Prop} (w : W (.bl (decide (s = t))) μ) : RW2 K μ (rEqD K) (tsD s) (tsD t) W := rw_eqD (.inl (py_ts s)) (.inl (py_ts t)) (sh_ts s) (sh_ts t) (by rw [eqv_ts]; exact w)
/-- lists of lines, pairs, states that hold small numbers, shown -/
theorem lineOk_small {l : Ln} (h : lineOk l.1 l.2.1 l.2.2 = true) : l.1.natAbs < 10 ^ 38 ∧ l.2.1.natAbs < 10 ^ 38 ∧ l.2.2.natAbs < 10 ^ 38 := by
  rw [lineOk_iff] at h
  have e : (10 : Nat) ^ 38 = 100000000000000000000000000000000000000 := by decide
  rw [e]
  omega
theorem shw_ln {l : Ln} (h : lineOk l.1 l.2.1 l.2.2 = true) : Shw (lnP l) 1 (3 * 129) := shw_tup (k := 3) (fun x hx => by
  obtain ⟨h1, h2, h3⟩ := lineOk_small h
  simp at hx
  rcases hx with rfl | rfl | rfl
  · exact shw_int h1
  · exact shw_int h2
  · exact shw_int h3) (by simp)
theorem shw_pr {p : Pr} (h1 : p.1.natAbs < 10 ^ 38) (h2 : p.2.natAbs < 10 ^ 38) : Shw (prP p) 1 (3 * 129) := (shw_tup (k := 2) (fun x hx => by
  simp at hx
  rcases hx with rfl | rfl
  · exact shw_int h1
  · exact shw_int h2) (by simp)).le (by decide) (by decide)
theorem shw_lns {ls : List Ln} (h : ∀ l ∈ ls, lineOk l.1 l.2.1 l.2.2 = true) (hl : ls.length ≤ 60) : Shw (.list (ls.map lnP)) 2 (60 * (3 * 129 + 1)) := shw_list (fun x hx => by
  obtain ⟨l, hl, rfl⟩ := List.mem_map.mp hx
  exact shw_ln (h l hl)) (by rw [List.length_map]; exact hl)
theorem shw_prs {ls : List Pr} (h : ∀ p ∈ ls, p.1.natAbs < 10 ^ 38 ∧ p.2.natAbs < 10 ^ 38) (hl : ls.length ≤ 60) : Shw (.list (ls.map prP)) 2 (60 * (3 * 129 + 1)) := shw_list (fun x hx => by
  obtain ⟨l, hl, rfl⟩ := List.mem_map.mp hx
  exact shw_pr (h l hl).1 (h l hl).2) (by rw [List.length_map]; exact hl)
theorem Val.pairs_small {m : Nat} {s : Stt} (v : Val m s) : ∀ p ∈ s.fixed, p.1.natAbs < 10 ^ 38 ∧ p.2.natAbs < 10 ^ 38 := fun p hp => by
  obtain ⟨l, hl, e⟩ := List.mem_map.mp (v.in1 p hp)
  obtain ⟨l', hl', e'⟩ := List.mem_map.mp (v.in2 p hp)
  have e : l.1 = p.1 := e
  have e' : l'.1 = p.2 := e'
  rw [← e, ← e']
  exact ⟨(lineOk_small (v.own l hl)).1, (lineOk_small (v.other l' hl')).1⟩
end
def tTryAs (K : Frag) (c : Value) (i : Nat) (ts : Addr → Value → Option Addr → TS) (Wout : WX) (tb : WX → TS) : TS := fun D σ H => tb (wAs K c i ts Wout D) D σ H
theorem asTry (K : Frag) {X : Cx} {s : Stmt} {c : Value} {i : Nat} {ts : Addr → Value → Option Addr → TS} {Wout : WX} {tb : WX → TS} (h : PS X s (fun D σ H => tb (wAs X.K c i ts Wout D) D σ H)) (hK : X.K = K := by rfl) : PS X s (tTryAs K c i ts Wout tb) := hK ▸ h
theorem wps_tryA {K : Frag} {Y : Wish} {μ : Mem} {ρ : Ro} {D : DE} {c : Value} {i : Nat} {ts : Addr → Value → Option Addr → TS} {tb : WX → TS} {Wout : WX} (hW : ∀ cls d σ H, Y.W cls d σ H → Wout cls d σ H) (h : ∀ W : WX, WPS K ⟨W, Caught K Y c i ts D⟩ ρ μ (tb W) D) : WPS K Y ρ μ (tTryAs K c i ts Wout tb) D := wps_tryas hW h
section
variable {K : Frag} {Y : Wish} {T T1 H H1 : Hp} {μ μ1 : Mem} {ρ : Ro} {σ : L2.St} {D : DE}
def XfAt (μ : Mem) (d : Dt) (a dx : Addr) (f : Str) (W : Dt → Prop) : Prop := ∃ (c : Nat) (fs : List (Str × Dt)) (e : Dt), d = .ref a ∧ μ[c]? = some (dx, .xd fs) ∧ fs.lookup f = some e ∧ W e
theorem xfat {a dx : Addr} {f : Str} {W : Dt → Prop} {c : Nat} {fs : List (Str × Dt)} {e : Dt} (hc : μ[c]? = some (dx, .xd fs)) (hl : fs.lookup f = some e) (w : W e) : XfAt μ (.ref a) a dx f W := ⟨c, fs, e, rfl, hc, hl, w⟩
theorem wp_xfE {a dx C : Addr} {f : Str} {te : TE} {W : Dt → Mem → Prop} (h : WP K Y ρ μ te fun d μ1 => XfAt μ1 d a dx f fun e => W e μ1) : WP K Y ρ μ (tXf a (.ref C) (some dx) C f te) W := fun T σ H M L N Q F =>
  h T σ H M L N _ fun T1 x H1 d μ1 ⟨c, fs, e, ed, hc, hl, w⟩ S1 M1 r1 => by
    subst ed
    obtain rfl := r1.ref_inv
    obtain ⟨us, h1, h2⟩ := M1.get hc
    obtain ⟨v, h3, h4⟩ := (lookup_prep h2 f).2 e hl
    exact ⟨rfl, rfl, dx, us, v, rfl, h1, h3, F T1 v H1 e μ1 w S1 M1 h4⟩
theorem bmC {c : Nat} {a : Addr} {ds : List Dt} {P : Prop} (hc : μ[c]? = some (a, .lst ds)) (w : P) : (∃ ds, IsLst μ (.ref a) ds) ∧ P := ⟨⟨ds, islC c hc⟩, w⟩
theorem bmL {ds : List Dt} {P : Prop} (w : P) : (∃ es, IsLst μ (.lst ds) es) ∧ P := ⟨⟨ds, isl⟩, w⟩
theorem rwm_appA {a : Addr} {c : Nat} {ds : List Dt} {e : Dt} {W : Dt → Mem → Prop} (hc : μ[c]? = some (a, .lst ds)) (w : W .non (μ.set c (a, .lst (ds ++ [e])))) (hl : ds.length < 1000000) : RWM K μ rAppend (.ref a) [e] W := rwm_append hc hl w
end
theorem pe_bmK (K : Frag) {X : Cx} {e : Expr} {T : String} {r : V → List V → Hp → VK → Prop} {to : TE} {t : TA} (h : PE X e (tBM X.K T r to t)) (hK : X.K = K := by rfl) : PE X e (tBM K T r to t) := hK ▸ h
theorem pe_xfK (K : Frag) {X : Cx} {a C : Addr} {oe : Obj} {cls : Value} {d : Option Addr} {pn : List (Addr × Obj)} {e : Expr} {te : TE} {pos : Pos} {n : Str} (T : XfC K C) (hno : NoAttr K C n)
    (hz : Zc cls d oe) (hf : ∃ vs, oe.data = .fields vs) (he : PE (X.suite a ((a, oe) :: pn)) e te) (hK : X.K = K := by rfl) (hb : attributeBase e n X.env (eval e X.env) = eval e X.env := by rfl) :
    PE (X.suite a ((a, oe) :: pn)) (.Attribute e n pos) (tXf a cls d C n te) := by
  subst hK
  exact L2.pe_xf T hno hz hf he hb
theorem sortF_unique {α : Type} (f : α → List Int) (hf : ∀ a b, f a = f b → a = b) {l m : List α} (p : l.Perm m) (h : sortF f m = m) : sortF f l = m :=
  List.Perm.eq_of_pairwise (le := fun a b => lexLe (f a) (f b) = true) (fun a b _ _ h1 h2 => hf a b (lexLe_antisymm h1 h2)) (sortF_pw f l) ((sortF_iff f).mp h) ((sortF_perm f l).trans p)
theorem lnL_inj (a b : Ln) (h : lnL a = lnL b) : a = b := by
  obtain ⟨a1, a2, a3⟩ := a
  obtain ⟨b1, b2, b3⟩ := b
  simp [lnL] at h
  simp [h]
theorem prL_inj (a b : Pr) (h : prL a = prL b) : a = b := by
  obtain ⟨a1, a2⟩ := a
  obtain ⟨b1, b2⟩ := b
  simp [prL] at h
  simp [h]
theorem sortLn_of {l m : List Ln} (p : l.Perm m) (h : sortLn m = m) : sortLn l = m := sortF_unique lnL lnL_inj p h
theorem sortPr_of {l m : List Pr} (p : l.Perm m) (h : sortPr m = m) : sortPr l = m := sortF_unique prL prL_inj p h
theorem pyins_map {μ : Mem} {α : Type} (enc : α → Dt) (py : α → PyData) (h : ∀ a, (enc a).py = some (py a)) : ∀ xs : List α, PyIns μ (xs.map enc) (xs.map py)
  | [] => .nil
  | x :: xs => .cons (.py (h x)) (pyins_map enc py h xs)
theorem pyins_rev {μ : Mem} {α : Type} (enc : α → Dt) (py : α → PyData) (h : ∀ a, (enc a).py = some (py a)) (xs : List α) : PyIns μ (xs.map enc).reverse (xs.reverse.map py) := by
  have := pyins_map (μ := μ) enc py h xs.reverse
  rwa [List.map_reverse] at this
section
variable {K : Frag} {μ : Mem}
theorem rw_ixL1 {d e : Dt} {ds : List Dt} {W : Dt → Mem → Prop} (w : W e μ) : RW2 K μ (rIxL K) (.lst (d :: e :: ds)) (.int 1) W := rw_ixL (atI_get (k := 1) rfl) w
theorem rw_ixL2 {d e f : Dt} {ds : List Dt} {W : Dt → Mem → Prop} (w : W f μ) : RW2 K μ (rIxL K) (.lst (d :: e :: f :: ds)) (.int 2) W := rw_ixL (atI_get (k := 2) rfl) w
theorem CmpAt.one {c : Nat} {a : Addr} {m : Nat} {t : Stt} (v : Val m t) (hm : m ≤ 60) (hc : μ[c]? = some (a, cmpMo K [t] 0)) : CmpAt K μ c a [t] 0 t := (Twin.one v).cmp rfl hm (by decide) hc
end
theorem cut_drop {α : Type} {xs : List α} {k : Nat} : cutD xs (some (k : Int)) none = xs.drop k := by
  unfold cutD
  have e2 : HT.sIx xs.length xs.length none = xs.length := rfl
  have e1 : HT.sIx xs.length 0 (some (k : Int)) = min k xs.length := by
    simp only [HT.sIx]
    split <;> omega
  rw [e1, e2]
  by_cases h : k ≤ xs.length
  · rw [Nat.min_eq_left h, List.take_of_length_le (by rw [List.length_drop]; omega)]
  · rw [Nat.min_eq_right (by omega), List.drop_of_length_le (by omega), List.drop_of_length_le (by omega)]
    simp
/-! ### a loop over a written list, turn by turn -/
def ForD (K : Frag) (Y : Wish) (g : TG) (tb : TS) (D : DE) : List Dt → Ro → Mem → Prop
  | [], ρ, μ => D.nx ρ μ
  | y :: ys, ρ, μ => WPG K Y ρ μ g y fun ρ2 μ2 => WPS K Y ρ2 μ2 tb { D with nx := ForD K Y g tb D ys, ct := ForD K Y g tb D ys, bk := D.nx }
section
variable {K : Frag} {Y : Wish} {T T1 H H1 : Hp} {μ μ1 : Mem} {ρ : Ro} {σ : L2.St} {D : DE}
theorem wps_forL {wi : TI} {g : TG} {tb : TS} (h : WPI K Y ρ μ wi fun ys μ1 => ForD K Y g tb D ys ρ μ1) : WPS K Y ρ μ (tFor wi g tb) D :=
  wps_for fun T σ H M L N R F => h T σ H M L N R fun T' J H' ys μ' w => F T' J H' ys μ' ⟨fun i ρ μ => ForD K Y g tb D (ys.drop i) ρ μ, w, fun i y ρ' μ' hy q => by
    have e : ys.drop i = y :: ys.drop (i + 1) := by
      obtain ⟨hi, e⟩ := List.getElem?_eq_some_iff.mp hy
      rw [List.drop_eq_getElem_cons hi, e]
    have q : ForD K Y g tb D (ys.drop i) ρ' μ' := q
    rw [e] at q
    exact q, fun ρ' μ' q => by
    have q : ForD K Y g tb D (ys.drop ys.length) ρ' μ' := q
    rw [List.drop_length] at q
    exact q⟩
theorem forNil {g : TG} {tb : TS} (w : D.nx ρ μ) : ForD K Y g tb D [] ρ μ := w
theorem forCons {g : TG} {tb : TS} {y : Dt} {ys : List Dt} (w : WPG K Y ρ μ g y fun ρ2 μ2 => WPS K Y ρ2 μ2 tb { D with nx := ForD K Y g tb D ys, ct := ForD K Y g tb D ys, bk := D.nx }) : ForD K Y g tb D (y :: ys) ρ μ := w
end
section
variable {K : Frag} {μ : Mem}
theorem rwm_clearN {a : Addr} {c : Nat} {ds : List Dt} {μ' : Mem} {W : Dt → Mem → Prop} (hc : μ[c]? = some (a, .lst ds)) (e : μ.set c (a, .lst []) = μ') (w : W .non μ') : RWM K μ rClear (.ref a) [] W := rwm_clear hc (e ▸ w)
theorem rwm_appN {a : Addr} {c : Nat} {ds : List Dt} {d : Dt} {μ' : Mem} {W : Dt → Mem → Prop} (hc : μ[c]? = some (a, .lst ds)) (e : μ.set c (a, .lst (ds ++ [d])) = μ') (w : W .non μ') (hl : ds.length < 1000000) : RWM K μ rAppend (.ref a) [d] W := rwm_append hc hl (e ▸ w)
end
section
variable {K : Frag} {Y : Wish} {T T1 H H1 : Hp} {μ μ1 : Mem} {ρ : Ro} {σ : L2.St} {D : DE}
/-- ways joined behind a statement -/
theorem wps_cut {t u : TS} (J : Ro → Mem → Prop) (h : WPS K Y ρ μ t { D with nx := J }) (g : ∀ ρ' μ', J ρ' μ' → WPS K Y ρ' μ' u D) : WPS K Y ρ μ (tSeq t u) D := wps_seq (WPS.imp h (fun r m j => g r m j) (fun _ _ w => w) (fun _ _ w => w) (fun _ _ w => w))
theorem StrAt.at {c : Nat} {a : Addr} (h : StrAt μ c a) {μ' : Mem} {c' : Nat} (e : μ[c]? = μ'[c']?) : StrAt μ' c' a := by
  obtain ⟨dg, sd, h1, h2⟩ := h.ex
  exact ⟨dg, sd, by rw [← e]; exact h1, h2⟩
theorem range_at {n : Nat} {i : Nat} {y : Dt} {f : Nat → Dt} (h : ((List.range n).map f)[i]? = some y) : i < n ∧ y = f i := by
  rw [List.getElem?_map] at h
  by_cases hi : i < n
  · rw [List.getElem?_range hi] at h
    exact ⟨hi, (Option.some.inj h).symm⟩
  · rw [List.getElem?_eq_none (by simpa using hi)] at h
    cases h
end
end Ml

/-! Ml26: the head's run cut in pieces. -/
namespace Ml
open PySem L2 PySem.W PySem.Calls PyProof.Rows
theorem obsP_cut {fa : List Fc} {fn : List DefP} {K : Frag} (k : Nat) (h1 : obsP (fa.take k) fn K = valP fn) (h2 : obsP (fa.drop k) [] K = valP []) : obsP fa fn K = valP fn := by
  unfold obsP valP at h1 h2 ⊢
  simp only [Prod.mk.injEq, List.all_nil, Bool.and_true, Bool.and_eq_true] at h1 h2 ⊢
  refine ⟨⟨?_, h1.1.2⟩, h1.2⟩
  rw [← List.take_append_drop k fa, List.all_append, h1.1.1, h2.1]
  rfl
theorem run_cut {r : OpenRow} {q : Program} {n : Nat} {fa : List Fc} {fn : List DefP} {M : Nat} {loose : List Str} {w : World} (k : Nat)
    (h1 : HandSHeadRun.RunEq r q (hookP n (fa.take k) fn) (obP n (fa.take k) fn) M loose w)
    (h2 : HandSHeadRun.RunEq r q (hookP n (fa.drop k) []) (obP n (fa.drop k) []) M loose w) : HandSHeadRun.RunEq r q (hookP n fa fn) (obP n fa fn) M loose w := fun os => by
  have e1 := h1 os
  have e2 := h2 os
  revert e1 e2
  generalize HandSHeadRun.endF (HandSHeadRun.stepQ (HandSHeadRun.denQ HandSHeadRun.tabQ) r.prog w) M r.prog w os = x
  cases x with
  | none => intro e1; cases e1
  | some s =>
    intro e1 e2
    have e1' := Option.some.inj e1
    have e2' := Option.some.inj e2
    obtain ⟨a1, a2⟩ := Prod.mk.inj e1'
    obtain ⟨a3, a4⟩ := Prod.mk.inj a2
    obtain ⟨b1, b2⟩ := Prod.mk.inj e2'
    obtain ⟨b3, b4⟩ := Prod.mk.inj b2
    have c : obP n fa fn s = valP fn := obsP_cut k a4 b4
    show some (_, _, obP n fa fn s) = some (true, openGood q loose, valP fn)
    rw [a1, a3, c]
theorem obsP_cutF {fa : List Fc} {fn : List DefP} {K : Frag} (k : Nat) (h1 : obsP fa (fn.take k) K = valP (fn.take k)) (h2 : obsP [] (fn.drop k) K = valP (fn.drop k)) : obsP fa fn K = valP fn := by
  unfold obsP valP at h1 h2 ⊢
  simp only [Prod.mk.injEq, List.all_nil, Bool.true_and, Bool.and_eq_true] at h1 h2 ⊢
  refine ⟨⟨h1.1.1, ?_⟩, ?_⟩
  · rw [← List.take_append_drop k fn, List.all_append, h1.1.2, h2.1]
    rfl
  · rw [← List.take_append_drop k fn, List.map_append, List.map_append, h1.2, h2.2]
theorem run_cutF {r : OpenRow} {q : Program} {n : Nat} {fa : List Fc} {fn : List DefP} {M : Nat} {loose : List Str} {w : World} (k : Nat)
    (h1 : HandSHeadRun.RunEq r q (hookP n fa (fn.take k)) (obP n fa (fn.take k)) M loose w)
    (h2 : HandSHeadRun.RunEq r q (hookP n [] (fn.drop k)) (obP n [] (fn.drop k)) M loose w) : HandSHeadRun.RunEq r q (hookP n fa fn) (obP n fa fn) M loose w := fun os => by
  have e1 := h1 os
  have e2 := h2 os
  revert e1 e2
  generalize HandSHeadRun.endF (HandSHeadRun.stepQ (HandSHeadRun.denQ HandSHeadRun.tabQ) r.prog w) M r.prog w os = x
  cases x with
  | none => intro e1; cases e1
  | some s =>
    intro e1 e2
    have e1' := Option.some.inj e1
    have e2' := Option.some.inj e2
    obtain ⟨a1, a2⟩ := Prod.mk.inj e1'
    obtain ⟨a3, a4⟩ := Prod.mk.inj a2
    obtain ⟨b1, b2⟩ := Prod.mk.inj e2'
    obtain ⟨b3, b4⟩ := Prod.mk.inj b2
    have c : obP n fa fn s = valP fn := obsP_cutF k a4 b4
    show some (_, _, obP n fa fn s) = some (true, openGood q loose, valP fn)
    rw [a1, a3, c]
end Ml

/-! Ml27: dicts that are walked: locked for good; the items of a dict with tuple keys. -/
namespace L2
open PySem PySem.W PySem.Calls PyProof.Rows PyProof.V PySem.Spec
/-- the pairs (key's tuple, value), each a new tuple -/
def ItiT (d : Addr) (o : Obj) (kvs : List (List Key × V)) : It :=
  ⟨fun i H => H d = some (.frz o (.dT kvs)) ∧ i < kvs.length, fun i H x H' => ∃ (T q : Addr) (k : List Key) (v : V), kvs[i]? = some (k, v) ∧ H q = some (.tup (k.map kV)) ∧ x = .ref T ∧ H T = none ∧ H' = upd H T (.tup [.ref q, v]), fun i H => H d = some (.frz o (.dT kvs)) ∧ kvs.length ≤ i⟩
section
variable {X : Cx} {pins : List (Addr × Obj)} {σ : St} {H : Hp} {s : Shared} {d : Addr} {o : Obj}
theorem Inv.frzTV {kvs : List (List Key × V)} (I : Inv X pins σ H s) (h : H d = some (.frz o (.dT kvs))) :
    (d == sysModules) = false ∧ s.heap.get? d = some o ∧ o.ExactDict ∧ ∃ (es : Array DictEntry) (ep : Nat), o.data = .dict es ep ∧ es.size = kvs.length ∧
      ∀ (i : Nat) (k : List Key) (v : V), kvs[i]? = some (k, v) → ∃ (en : DictEntry) (q : Addr), es[i]? = some en ∧ en.key = .ref q ∧ H q = some (.tup (k.map kV)) ∧ RelV v en.val := by
  obtain ⟨hd, z, hs, xs, pr, o', es, ep, ho, hx, hdt, he, _⟩ := I.hok d _ h
  rw [hd] at ho
  cases ho
  refine ⟨hs, hd, hx, es, ep, hdt, ?_, fun i k v e => ?_⟩
  · have l1 : es.size = xs.length := size_of_entries he
    have l2 : kvs.length = xs.length := Paired.length pr
    omega
  · obtain ⟨b, hb, e1, e2, e3⟩ := paired_get pr e
    have q := entry_at he i
    rw [hb] at q
    exact ⟨_, b.2.1, q, rfl, e2, e3⟩
end
section
variable {P : Program} {w : World} {K : PySem.W.Frag} {d : Addr} {o : Obj} {es : Array DictEntry} {ep : Nat}
theorem turn_itemsT {kvs : List (List Key × V)} {elts : List Expr} {kk : Nat} {tpos : Pos} (it : Addr) (hod : o.data = .dict es ep) :
    Turn P w K (.Tuple elts kk tpos) (ItiT d o kvs) [it] it (fun i h => ∃ ok ov, IsItemIter h it d i kvs.length ep ok ov) where
  mem := by simp
  obj := fun i h st b hb => by
    have e : b = it := by simpa using hb
    subst e
    obtain ⟨ok, ov, e⟩ := st
    exact ⟨_, e, fun v z => nomatch z⟩
  keep := fun i h h' st k => let ⟨ok, ov, e⟩ := st; ⟨ok, ov, k it (by simp) _ e⟩
  item := by
    intro X hP hw hK hc i pins s σ H E I hf st hg
    subst hP hw hK
    obtain ⟨hd, hi⟩ := hg
    obtain ⟨hs, hgd, hx, es', ep', hdt, hsz, ent⟩ := I.frzTV hd
    obtain ⟨rfl, rfl⟩ := dict_ep hod hdt
    obtain ⟨⟨k, v⟩, hkv⟩ : ∃ p, kvs[i]? = some p := ⟨kvs[i], List.getElem?_eq_getElem hi⟩
    obtain ⟨en, q, hen, hkey, hq, rv⟩ := ent i k v hkv
    obtain ⟨ok, ov, he⟩ := st
    rw [← hsz] at he
    have hi' : i < es'.size := by rw [hsz]; exact hi
    have een : es'[i] = en := by
      have e1 := Array.getElem?_eq_getElem hi'
      rw [hen] at e1
      exact (Option.some.inj e1).symm
    have hlt : it < s.heap.objs.size := Heap.lt_size he
    refine DT.nextI he ⟨o, hgd, hx, hdt⟩ hi' fun h' ho hT hz hk => ?_
    rw [een] at ho hT
    refine ⟨_, rfl, wpAny_letOwnedTupleGo_items (s := { s with heap := h' }) ho fun h'' he' sb => ?_⟩
    have hT2 : h''.get? s.heap.objs.size = some { cls := .type "tuple", data := .seq #[en.key, en.val] } := (sb.2 _ (Nat.ne_of_gt hlt)).trans hT
    have new : ObjOk X.prog X.w (upd H s.heap.objs.size (.tup [.ref q, v])) h'' s.heap.objs.size (.tup [.ref q, v]) :=
      ⟨by show 2 ≤ sizeLine; decide, [en.key, en.val], .cons (show RelV (.ref q) en.key from hkey) (.cons rv .nil), ⟨_, hT2, rfl, _, rfl⟩⟩
    have I1 : Inv X pins σ (upd H s.heap.objs.size (.tup [.ref q, v])) { s with heap := h'' } :=
      I.turnedNew (t' := s.toks) (ch := [it]) (fun b ob hb e => (sb.2 b (by simpa using hb)).trans (hk b ob (by simpa using hb) e)) hf (Nat.le_refl _) new
    refine ⟨.ref s.heap.objs.size, _, I1, rfl, ⟨_, q, k, v, hkv, hq, rfl, I.hok.fresh (Nat.le_refl _), rfl⟩, ⟨en.key, en.val, ?_⟩, fun b hb => ?_⟩
    · rw [← hsz]; exact he'
    · have e : b = it := by simpa using hb
      rw [e, upd_ne (Nat.ne_of_lt hlt)]
      exact (hf it (by simp)).1
  done := by
    intro X hP hw hK hc i pins s σ H E I hf st hg
    subst hP hw hK
    obtain ⟨hd, hi⟩ := hg
    obtain ⟨f0, f1, f2, f3, f4, f5⟩ := hf it (by simp)
    obtain ⟨hs, hgd, hx, es', ep', hdt, hsz, ent⟩ := I.frzTV hd
    obtain ⟨rfl, rfl⟩ := dict_ep hod hdt
    obtain ⟨ok, ov, he⟩ := st
    rw [← hsz] at he
    exact DT.endI (I.ok.hd hc) he ⟨o, hgd, hx, hdt⟩ (by rw [hsz]; exact hi) fun h' eb => ⟨rfl, I.turned (t' := s.toks) (fun b ob hb e => eb b ob hb e) f0 f1 f3 f4 f5⟩
  self := fun A i s Q E st h => let ⟨_, _, e⟩ := st; PySem.W.kcp_self e h
end
def iItemsT (td : TE) : TI := fun σ H R => td σ H fun x H1 => ∃ d o kvs, x = .ref d ∧ H1 d = some (.frz o (.dT kvs)) ∧ R (ItiT d o kvs) H1
/-- the value of e, a dict, is never written again -/
def tFrzE (t : TE) : TE := fun σ H Q => t σ H fun x H1 => ∃ d u, x = .ref d ∧ H1 d = some u ∧ Mut (some u) ∧ ∀ od, Q (.ref d) (upd H1 d (.frz od u))
/-- .. ahead of a statement -/
def tFrzS (t : TS) : TS := fun D σ H => ∃ d u, H d = some u ∧ Mut (some u) ∧ ∀ od, t D σ (upd H d (.frz od u))
section
variable {X : Cx} {tg e : Expr} {td : TE} {apos cpos : Pos}
theorem pe_frz {t : TE} (h : PE X e t) : PE X e (tFrzE t) := by
  refine ⟨fun pins s σ H Q I hw => ?_⟩
  refine thn (h.run pins s σ H _ I hw) fun v s1 ⟨x, H1, I1, r, d, u, ex, hd, mu, q⟩ => ?_
  subst ex
  obtain ⟨od, I2⟩ := I1.lock hd mu
  exact ⟨.ref d, _, I2, r, q od⟩
theorem ps_frz {st : Stmt} {t : TS} (h : PS X st t) : PS X st (tFrzS t) := by
  refine ⟨fun pins s σ H D I hw => ?_⟩
  obtain ⟨d, u, hd, mu, hw⟩ := hw
  obtain ⟨od, I1⟩ := I.lock hd mu
  exact h.run pins s σ _ _ I1 (hw od)
theorem pi_itemsT {elts : List Expr} {kk : Nat} {tpos : Pos} (he : PE X e td) (hbase : attributeBase e "items" X.env (eval e X.env) = eval e X.env := by rfl) (hline : (apos.endLine == cpos.line) = true := by rfl) :
    PI X (.Tuple elts kk tpos) (.Call (.Attribute e "items" apos) [] [] cpos) (iItemsT td) := by
  refine ⟨fun pins s σ H R I h => ?_⟩
  refine wpAny_Call_method (T := "dict") (id := "dict.items") hbase rfl hline F.plainAttrs_dict F.slot_dict_items F.type_dict_items (thn (he.run pins s σ H _ I h) fun u s1 ⟨x, H1, I1, rx, d, o, kvs, ex, hd, q⟩ => ?_)
  subst ex
  obtain rfl : u = Value.ref d := rx
  obtain ⟨hs, hgd, hx, es, ep, hdt, hsz, ent⟩ := I1.frzTV hd
  have hR : DT.Raw s1.heap d es ep := ⟨o, hgd, hx, hdt⟩
  refine ⟨hR.typeIs, fun a ea => ⟨o, by cases ea; exact hgd, hx.2.1⟩, ?_⟩
  have I2 : Inv X pins σ H1 { s1 with heap := s1.heap.push { cls := .type "dict_items", data := .fields #[.ref d] } } := I1.kept (t' := s1.toks) fun b ob q => Heap.get?_push_of_some _ q
  have fin : wpAny (model X.prog X.w) X.A (pyIter (.ref s1.heap.objs.size)) (PIE X pins σ (.Tuple elts kk tpos) R) X.xe { s1 with heap := s1.heap.push { cls := .type "dict_items", data := .fields #[.ref d] } } := by
    refine DT.iterI (d := d) (es := es) (ep := ep) ⟨_, Heap.get?_push_size _ rfl, rfl, rfl⟩ (hR.push _) (pi_one (tk := s1.toks) I2 _ (turn_itemsT _ hdt) ⟨.none, .none, ?_⟩ q)
    rw [hsz]
    exact Heap.get?_push_size _ rfl
  show wpAny _ _ (callWith cpos (.builtin "dict.items") [.ref d] [] []) _ X.xe s1
  exact method_meetsIn F.slot_dict_items F.entry_dict_items rfl (PySem.evalArgs_none ⟨rfl, hR.typeIs, F.args_dict_items_1 _, _, DT.meetsItems (es := es) (ep := ep) hs, hR, fin⟩)
end
end L2

/-! Ml28: dicts over data: locked, walked, made by comprehensions. -/
namespace Ml
open PySem L2 PySem.W PySem.Calls PyProof.Rows
section
variable {K : Frag} {Y : Wish} {T T1 H H1 : Hp} {μ μ1 : Mem} {ρ : Ro} {σ : L2.St} {D : DE}
/-- a cell is locked and data from here on -/
theorem Mst.lock {rest : Mem} {a : Addr} {m : Mo} {u : HO} {od : Obj} (M : Mst K T μ H) (p : μ.Perm ((a, m) :: rest)) (h : H a = some u) : Mst K (upd T a (.frz od u)) rest (upd H a (.frz od u)) ∧ Step T μ H (upd T a (.frz od u)) rest (upd H a (.frz od u)) := by
  have hm : (a, m) ∈ μ := p.mem_iff.mpr List.mem_cons_self
  have ta : T a = none := (M.mem _ hm).1
  have hnd : (dom ((a, m) :: rest)).Nodup := (p.map (·.1)).nodup_iff.mp M.nd
  obtain ⟨n1, n2⟩ := List.nodup_cons.mp hnd
  have g : Sub T (upd T a (.frz od u)) := fun b u e => by rw [upd_ne (ne_of_none e ta)]; exact e
  have da : a ∈ dom μ := List.mem_map.mpr ⟨_, hm, rfl⟩
  have hr : ∀ q ∈ rest, q ∈ μ := fun q hq => p.mem_iff.mpr (List.mem_cons_of_mem _ hq)
  refine ⟨⟨fun b o e => ?_, fun q hq => ?_, n2⟩, ⟨g, fun b o h n => ?_, fun b o e _ t n => ?_, fun b o e n hb => ?_⟩⟩
  · by_cases hb : b = a
    · subst hb; rw [upd_same] at e ⊢; exact e
    · rw [upd_ne hb] at e ⊢; exact M.sub _ _ e
  · obtain ⟨h1, h2⟩ := M.mem q (hr q hq)
    have hne : q.1 ≠ a := fun e => n1 (e ▸ List.mem_map.mpr ⟨q, hq, rfl⟩)
    exact ⟨by rw [upd_ne hne]; exact h1, h2.mono g fun _ e => by rw [upd_ne hne]; exact e⟩
  · have hne : b ≠ a := fun e => n (e ▸ da)
    rw [upd_ne hne]; exact h
  · have hne : b ≠ a := fun e => n (e ▸ da)
    rw [upd_ne hne]; exact t
  · obtain ⟨q, hq, e⟩ := List.mem_map.mp hb
    exact n (List.mem_map.mpr ⟨q, hr q hq, e⟩)
/-- a tuple that stands is data -/
theorem Mst.adopt {q : Addr} {xs : List V} (M : Mst K T μ H) (h : H q = some (.tup xs)) : ∃ T2, Step T μ H T2 μ H ∧ Mst K T2 μ H ∧ T2 q = some (.tup xs) := by
  cases e : T q with
  | some o =>
    have := M.sub _ _ e
    rw [h] at this
    cases this
    exact ⟨T, Step.refl _ _ _, M, e⟩
  | none =>
    have nq : q ∉ dom μ := fun hq => by
      obtain ⟨p, hp, rfl⟩ := List.mem_map.mp hq
      exact (M.mem p hp).2.notTup h _ rfl
    have g : Sub T (upd T q (.tup xs)) := fun b u e' => by rw [upd_ne (ne_of_none e' e)]; exact e'
    refine ⟨upd T q (.tup xs), ⟨g, fun _ _ h _ => h, fun b o eb z t _ => ?_, fun _ _ _ n => n⟩, ⟨fun b o eb => ?_, fun p hp => ?_, M.nd⟩, upd_same⟩
    · have hne : b ≠ q := fun y => by subst y; rw [h] at eb; cases eb; exact z _ rfl
      rw [upd_ne hne]; exact t
    · by_cases hb : b = q
      · subst hb; rw [upd_same] at eb; cases eb; exact h
      · rw [upd_ne hb] at eb; exact M.sub _ _ eb
    · obtain ⟨h1, h2⟩ := M.mem p hp
      have hne : p.1 ≠ q := fun e => nq (e ▸ List.mem_map.mpr ⟨p, hp, rfl⟩)
      exact ⟨by rw [upd_ne hne]; exact h1, h2.mono g fun _ e => e⟩
theorem prep_keys {α : Type} {us : List (α × V)} {kvs : List (α × Dt)} (h : Paired (PRep K T) us kvs) : us.map (·.1) = kvs.map (·.1) ∧ Reps K T (us.map (·.2)) (kvs.map (·.2)) := by
  induction h with
  | nil => exact ⟨rfl, .nil⟩
  | @cons p q ps qs r t ih => exact ⟨by rw [List.map_cons, List.map_cons, ih.1, r.1], .cons r.2 ih.2⟩
theorem rep_fdK {a : Addr} {od : Obj} {us : List (Key × V)} {kvs : List (Key × Dt)} (h : T a = some (.frz od (.dK us))) (r : Paired (PRep K T) us kvs) : Rep K T (.ref a) (.fdK (kvs.map (·.1)) (kvs.map (·.2))) := by
  obtain ⟨e1, e2⟩ := prep_keys r
  rw [← e1]
  exact .fdK h e2
theorem rep_fdT {a : Addr} {od : Obj} {us : List (List Key × V)} {kvs : List (List Key × Dt)} (h : T a = some (.frz od (.dT us))) (r : Paired (PRep K T) us kvs) : Rep K T (.ref a) (.fdT (kvs.map (·.1)) (kvs.map (·.2))) := by
  obtain ⟨e1, e2⟩ := prep_keys r
  rw [← e1]
  exact .fdT h e2
theorem wp_frzK {te : TE} {W : Dt → Mem → Prop} (h : WP K Y ρ μ te fun d μ1 => ∃ (a : Addr) (kvs : List (Key × Dt)) (rest : Mem), d = .ref a ∧ μ1.Perm ((a, .dK kvs) :: rest) ∧ W (.fdK (kvs.map (·.1)) (kvs.map (·.2))) rest) : WP K Y ρ μ (tFrzE te) W := fun T σ H M L N Q F =>
  h T σ H M L N _ fun T1 x H1 d μ1 ⟨a, kvs, rest, ed, p, w⟩ S1 M1 r1 => by
    subst ed
    obtain rfl := r1.ref_inv
    obtain ⟨us, h1, h2⟩ := (M1.mem (a, .dK kvs) (p.mem_iff.mpr List.mem_cons_self)).2
    refine ⟨a, .dK us, rfl, h1, trivial, fun od => ?_⟩
    obtain ⟨M2, S2⟩ := M1.lock (od := od) p h1
    exact F _ _ _ _ rest w (S1.trans S2) M2 (rep_fdK upd_same (PRep.mono S2.grow h2))
/-- .. at a statement: slots that held it hold data -/
theorem wps_frzT {ts : TS} {a : Addr} {kvs : List (List Key × Dt)} {rest : Mem} {ρ' : Ro} (p : μ.Perm ((a, .dT kvs) :: rest)) (hl : ρ'.length = ρ.length)
    (k : ∀ (i : Nat) (d : Dt), ρ'[i]? = some (some d) → ρ[i]? = some (some d) ∨ (ρ[i]? = some (some (Dt.ref a)) ∧ d = .fdT (kvs.map (·.1)) (kvs.map (·.2)))) (h : WPS K Y ρ' rest ts D) : WPS K Y ρ μ (tFrzS ts) D := fun T σ H M L N E F => by
  obtain ⟨us, h1, h2⟩ := (M.mem (a, .dT kvs) (p.mem_iff.mpr List.mem_cons_self)).2
  refine ⟨a, .dT us, h1, trivial, fun od => ?_⟩
  obtain ⟨M', S'⟩ := M.lock (od := od) p h1
  refine h _ σ _ M' ((L.mono S'.grow).imp hl fun i d e => ?_) (N.go S') E (F.go S')
  rcases k i d e with e' | ⟨e', rfl⟩
  · exact ⟨d, e', fun _ r => r⟩
  · exact ⟨_, e', fun v r => by
      obtain rfl := r.ref_inv
      exact rep_fdT upd_same (PRep.mono S'.grow h2)⟩
/-! ### walks -/
theorem src_keysF {a : Addr} {o : Obj} {us : List (Key × V)} (h : T a = some (.frz o (.dK us))) : Src0 K T (Itk a o us) (us.map fun u => kD u.1) where
  go := fun T' H' i s1 s2 hi => ⟨s2 _ _ (s1 _ _ h), by simpa using hi⟩
  stop := fun T' H' s1 s2 => ⟨s2 _ _ (s1 _ _ h), by simp⟩
  yld := fun T' H' i x H'' y s1 s2 hy q => by
    obtain ⟨e, k, v, hk, rfl⟩ := q
    rw [List.getElem?_map, hk] at hy
    cases hy
    refine .inl ⟨e, ?_⟩
    cases k with
    | inl n => exact .int n
    | inr x => exact .str x
theorem Rep.fdK_inv {v : V} {ks : List Key} {ds : List Dt} (h : Rep K T v (.fdK ks ds)) : ∃ (a : Addr) (o : Obj) (us : List (Key × V)), v = .ref a ∧ T a = some (.frz o (.dK us)) ∧ us.map (·.1) = ks ∧ Reps K T (us.map (·.2)) ds := by
  cases h with | fdK h r => exact ⟨_, _, _, rfl, h, rfl, r⟩
theorem Rep.fdT_inv {v : V} {ks : List (List Key)} {ds : List Dt} (h : Rep K T v (.fdT ks ds)) : ∃ (a : Addr) (o : Obj) (us : List (List Key × V)), v = .ref a ∧ T a = some (.frz o (.dT us)) ∧ us.map (·.1) = ks ∧ Reps K T (us.map (·.2)) ds := by
  cases h with | fdT h r => exact ⟨_, _, _, rfl, h, rfl, r⟩
theorem wpi_keysF {te : TE} {W : List Dt → Mem → Prop} (h : WP K Y ρ μ te fun d μ1 => ∃ ks ds, d = .fdK ks ds ∧ W (ks.map kD) μ1) : WPI K Y ρ μ (iKeys te) W := fun T σ H M L N R F =>
  h T σ H M L N _ fun T1 x H1 d μ1 ⟨ks, ds, e, w⟩ S1 M1 r1 => by
    subst e
    obtain ⟨a, o, us, rfl, ha, ek, _⟩ := r1.fdK_inv
    have e2 : ks.map kD = us.map fun u => kD u.1 := by rw [← ek, List.map_map]; rfl
    rw [e2] at w
    exact ⟨a, o, rfl, .inl ⟨us, M1.sub _ _ ha, F T1 _ H1 _ μ1 w S1 M1 (src_keysF ha).up⟩⟩
/-- a dict just made, walked -/
theorem wpi_keysC {te : TE} {W : List Dt → Mem → Prop} (h : WP K Y ρ μ te fun d μ1 => ∃ (a : Addr) (kvs : List (Key × Dt)) (rest : Mem), d = .ref a ∧ μ1 = (a, .dK kvs) :: rest ∧ W (kvs.map fun kv => kD kv.1) rest) : WPI K Y ρ μ (iKeys (tFrzE te)) W :=
  wpi_keysF (wp_frzK (WP.imp h fun d μ1 ⟨a, kvs, rest, e1, e2, w⟩ => ⟨a, kvs, rest, e1, by rw [e2], _, _, rfl, by rw [List.map_map]; exact w⟩))
theorem reps_keys : ∀ k : List Key, Reps K T (k.map kV) (k.map kD)
  | [] => .nil
  | .inl n :: k => .cons (.int n) (reps_keys k)
  | .inr x :: k => .cons (.str x) (reps_keys k)
theorem src_itemsT {a : Addr} {o : Obj} {us : List (List Key × V)} {ds : List Dt} (h : T a = some (.frz o (.dT us))) (r : Reps K T (us.map (·.2)) ds) : Src K T (ItiT a o us) (((us.map (·.1)).zip ds).map fun p => .tup [.tup (p.1.map kD), p.2]) where
  go := fun T' H' i s1 s2 hi => ⟨s2 _ _ (s1 _ _ h), by simp only [List.length_map, List.length_zip] at hi; omega⟩
  stop := fun T' H' s1 s2 => ⟨s2 _ _ (s1 _ _ h), by have := r.length; simp only [List.length_map, List.length_zip] at this ⊢; omega⟩
  yld := fun T' H' i x H'' y μ s1 M hy q => by
    obtain ⟨t, q, k, v, hk, hq, rfl, ht, rfl⟩ := q
    rw [List.getElem?_map] at hy
    cases e : ((us.map (·.1)).zip ds)[i]? with
    | none => rw [e] at hy; cases hy
    | some pr =>
      rw [e] at hy
      cases hy
      obtain ⟨e1, e2⟩ := List.getElem?_zip_eq_some.mp e
      obtain ⟨v', h3, r3⟩ := r.get e2
      rw [List.getElem?_map, hk] at e1 h3
      have e1 : k = pr.1 := Option.some.inj e1
      have h3 : v = v' := Option.some.inj h3
      subst h3
      show ∃ T2, _ ∧ _ ∧ Rep K T2 (.ref t) (.tup [.tup (pr.1.map kD), pr.2])
      rw [← e1]
      obtain ⟨T2, S2, M2, tq⟩ := M.adopt hq
      obtain ⟨M3, S3⟩ := M2.lay (o := .tup [.ref q, v]) ht
      exact ⟨_, S2.trans S3, M3, .tup upd_same (.cons (Rep.mono S3.grow (.tup tq (reps_keys k))) (.cons (r3.mono (s1.trans (S2.grow.trans S3.grow))) .nil))⟩
theorem wpi_itemsT {te : TE} {W : List Dt → Mem → Prop} (h : WP K Y ρ μ te fun d μ1 => ∃ ks ds, d = .fdT ks ds ∧ W ((ks.zip ds).map fun p => .tup [.tup (p.1.map kD), p.2]) μ1) : WPI K Y ρ μ (iItemsT te) W := fun T σ H M L N R F =>
  h T σ H M L N _ fun T1 x H1 d μ1 ⟨ks, ds, e, w⟩ S1 M1 r1 => by
    subst e
    obtain ⟨a, o, us, rfl, ha, rfl, r⟩ := r1.fdT_inv
    exact ⟨a, o, us, rfl, M1.sub _ _ ha, F T1 _ H1 _ μ1 w S1 M1 (src_itemsT ha r)⟩
end
end Ml

/-! Ml29: dict comprehensions, dict(..), sorted(dict), min, abs over data. -/
namespace Ml
open PySem L2 PySem.W PySem.Calls PyProof.Rows
section
variable {K : Frag} {Y : Wish} {T T1 H H1 : Hp} {μ μ1 : Mem} {ρ : Ro} {σ : L2.St} {D : DE}
theorem mergeD_app (kvs a b : List (Key × Dt)) : mergeD kvs (a ++ b) = mergeD (mergeD kvs a) b := List.foldl_append ..
theorem putKD_len {κ : Type} [DecidableEq κ] (kvs : List (κ × Dt)) (k : κ) (v : Dt) : (putKD kvs k v).length ≤ kvs.length + 1 := by
  unfold putKD
  split
  · rw [List.length_map]; omega
  · rw [List.length_append]; simp
theorem mergeD_len : ∀ (a kvs : List (Key × Dt)), (mergeD kvs a).length ≤ kvs.length + a.length
  | [], kvs => Nat.le_refl _
  | p :: a, kvs => by
    have h1 := mergeD_len a (putKD kvs p.1 p.2)
    have h2 := putKD_len kvs p.1 p.2
    show (mergeD (putKD kvs p.1 p.2) a).length ≤ _
    rw [List.length_cons]; omega
/-- {k: v for ..}, elements that change nothing -/
theorem wp_dcP {wi : TI} {g : TG} {tt : TT} {tk tv : TE} {vs : List Nat} {W : Dt → Mem → Prop} (hg : Onto g vs) (hm : MonoG g) (h : WPI K Y ρ μ wi fun ys μ1 => ys.length ≤ 1000000 ∧ ∃ (f : Dt → Bool) (kf : Dt → Key) (vf : Dt → Dt),
    (∀ y ∈ ys, Elem K Y ρ vs g tt y μ1 (fun ρ2 μ3 => f y = true ∧ WP K Y ρ2 μ3 tk fun d μ4 => d = kD (kf y) ∧ WP K Y ρ2 μ4 tv fun e μ5 => e = vf y ∧ μ5 = μ1) fun μ3 => f y = false ∧ μ3 = μ1) ∧
    ∀ p, p ∉ dom μ1 → W (.ref p) ((p, .dK (mergeD [] ((ys.filter f).map fun y => (kf y, vf y)))) :: μ1)) : WP K Y ρ μ (tDc wi g tt tk tv vs) W := fun T σ H M L N Q F => by
  refine h T σ H M L N _ fun T1 J H1 ys μ1 ⟨hlen, f, kf, vf, turn, hfin⟩ S1 M1 src D hD => ?_
  have L1 := L.mono S1.grow
  let R : Nat → List (Key × Dt) := fun i => mergeD [] (((ys.take i).filter f).map fun y => (kf y, vf y))
  have rlen : ∀ i, (R i).length ≤ i := fun i => by
    refine Nat.le_trans (mergeD_len _ _) ?_
    rw [List.length_nil, Nat.zero_add, List.length_map]
    refine Nat.le_trans (List.length_filter_le _ _) ?_
    rw [List.length_take]; omega
  let P : Nat → Hp → Prop := fun i H' => ∃ T' us, Step T1 μ1 H1 T' μ1 H' ∧ Mst K T' μ1 H' ∧ H' D = some (.dK us) ∧ T' D = none ∧ Paired (PRep K T') us (R i)
  have nD := M1.notin hD
  have p0 : P 0 (upd H1 D (.dK [])) := by
    have ht := M1.fresh hD
    refine ⟨T1, [], ⟨Sub.refl _, fun b o e _ => by rw [upd_ne (ne_of_none e hD)]; exact e, fun b o _ _ t _ => t, fun b o _ n => n⟩, ⟨fun b o e => ?_, fun q hq => ?_, M1.nd⟩, upd_same, ht, .nil⟩
    · rw [upd_ne (ne_of_none e ht)]; exact M1.sub _ _ e
    · obtain ⟨h1, h2⟩ := M1.mem q hq
      have hne : q.1 ≠ D := fun e => nD (e ▸ List.mem_map.mpr ⟨q, hq, rfl⟩)
      exact ⟨h1, h2.mono (Sub.refl _) fun u e => by rw [upd_ne hne]; exact e⟩
  refine ⟨fun i m H' => m = ys.length - i ∧ i ≤ ys.length ∧ P i H', ⟨_, rfl, Nat.zero_le _, p0⟩, ?_⟩
  rintro i m H' ⟨rfl, hi, T', us, S', M', hD', tD', rx⟩
  by_cases hlt : i < ys.length
  · refine .inr ⟨src.go T' H' i S'.grow M'.sub hlt, P (i + 1), fun H2 q => ⟨ys.length - (i + 1), by omega, rfl, hlt, q⟩, fun x H2 yq => ?_⟩
    have hy : ys[i]? = some ys[i] := List.getElem?_eq_getElem hlt
    have tk1 : ys.take (i + 1) = ys.take i ++ [ys[i]] := by rw [List.take_add_one, hy]; rfl
    obtain ⟨T2, S2, M2, r2⟩ := src.yld T' H' i x H2 _ μ1 S'.grow M' hy yq
    have LW : Locs K T2 (wipeR ρ vs) (L2.wipe σ vs) := (L1.mono (S'.grow.trans S2.grow)).wipe vs
    have S02 : Step T1 μ1 H1 T2 μ1 H2 := S'.trans S2
    have D2 : H2 D = some (.dK us) := S2.kept _ _ hD' nD
    have t2 : T2 D = none := S2.new _ _ hD' (fun _ z => nomatch z) tD' nD
    refine hm _ _ _ _ _ ?_ (hg _ _ _ _ (turn _ (List.getElem_mem hlt) T2 (L2.wipe σ vs) H2 x M2 LW ((N.go S1).go S02) r2 (fun σ2 H3 => tt σ2 H3 fun b H4 => if b = true then tk σ2 H4 fun y H5 => tv σ2 H5 fun z H6 => ∃ kvs k, y = kV k ∧ H6 D = some (.dK kvs) ∧ kvs.length < sizeLine ∧ P (i + 1) (upd H6 D (.dK (putK kvs k z))) else P (i + 1) H4) ?_))
    · rintro σ2 H3 ⟨q, e⟩
      exact ⟨e.trans (wipe_idem σ vs), q⟩
    · intro T3 σ3 H3 ρ3 μ3 w3 S3 M3 L3
      have D3 : H3 D = some (.dK us) := S3.kept _ _ D2 nD
      have t3 : T3 D = none := S3.new _ _ D2 (fun _ z => nomatch z) t2 nD
      have n3 : D ∉ dom μ3 := S3.cells _ _ D2 nD
      refine w3 T3 σ3 H3 M3 L3 ((N.go S1).go (S02.trans S3)) _ fun T4 b H4 μ4 w4 S4 M4 => ?_
      have D4 : H4 D = some (.dK us) := S4.kept _ _ D3 n3
      have t4 : T4 D = none := S4.new _ _ D3 (fun _ z => nomatch z) t3 n3
      have n4 : D ∉ dom μ4 := S4.cells _ _ D3 n3
      have S24 : Step T1 μ1 H1 T4 μ4 H4 := (S02.trans S3).trans S4
      have g4 : Sub T' T4 := S2.grow.trans (S3.grow.trans S4.grow)
      cases b with
      | false =>
        obtain ⟨hf, rfl⟩ := w4
        refine ⟨T4, us, S24, M4, D4, t4, ?_⟩
        have : R (i + 1) = R i := by
          show mergeD [] _ = mergeD [] _
          rw [tk1, List.filter_append, List.filter_cons, if_neg (by rw [hf]; decide)]
          simp
        rw [this]
        exact PRep.mono g4 rx
      | true =>
        obtain ⟨hf, w4⟩ := w4
        refine w4 T4 σ3 H4 M4 (L3.mono S4.grow) ((N.go S1).go S24) _ fun T5 y H5 d μ5 w5 S5 M5 r5 => ?_
        obtain ⟨rfl, w5⟩ := w5
        have D5 : H5 D = some (.dK us) := S5.kept _ _ D4 n4
        have t5 : T5 D = none := S5.new _ _ D4 (fun _ z => nomatch z) t4 n4
        have n5 : D ∉ dom μ5 := S5.cells _ _ D4 n4
        have S25 : Step T1 μ1 H1 T5 μ5 H5 := S24.trans S5
        refine w5 T5 σ3 H5 M5 (L3.mono (S4.grow.trans S5.grow)) ((N.go S1).go S25) _ fun T6 z H6 e μ6 w6 S6 M6 r6 => ?_
        obtain ⟨rfl, rfl⟩ := w6
        have D6 : H6 D = some (.dK us) := S6.kept _ _ D5 n5
        have t6 : T6 D = none := S6.new _ _ D5 (fun _ z => nomatch z) t5 n5
        have S26 : Step T1 μ6 H1 T6 μ6 H6 := S25.trans S6
        have ul : us.length ≤ i := by rw [Paired.length rx]; exact rlen i
        refine ⟨us, kf ys[i], kD_rep r5, D6, Nat.lt_of_lt_of_le (show us.length < 1000001 by omega) (by decide), T6, putK us (kf ys[i]) z, ⟨S26.grow, fun b o e n => ?_, S26.new, S26.cells⟩, ⟨fun b o e => ?_, fun q hq => ?_, M6.nd⟩, upd_same, t6, ?_⟩
        · have hb : b ≠ D := ne_of_none e hD
          rw [upd_ne hb]; exact S26.kept b o e n
        · rw [upd_ne (ne_of_none e t6)]; exact M6.sub _ _ e
        · obtain ⟨h1, h2⟩ := M6.mem q hq
          have hne : q.1 ≠ D := fun e => nD (e ▸ List.mem_map.mpr ⟨q, hq, rfl⟩)
          exact ⟨h1, h2.mono (Sub.refl _) fun u e => by rw [upd_ne hne]; exact e⟩
        · have : R (i + 1) = putKD (R i) (kf ys[i]) (vf ys[i]) := by
            show mergeD [] _ = putKD (mergeD [] _) _ _
            rw [tk1, List.filter_append, List.map_append, mergeD_app, List.filter_cons, if_pos hf]
            rfl
          rw [this]
          exact putKD_rep (PRep.mono (g4.trans (S5.grow.trans S6.grow)) rx) _ r6
  · have e : i = ys.length := by omega
    subst e
    refine .inl ⟨src.stop T' H' S'.grow M'.sub, ?_⟩
    refine F T' _ H' _ _ (hfin D nD) ⟨(S1.trans S').grow, (S1.trans S').kept, (S1.trans S').new, fun b o e n hb => ?_⟩ ⟨M'.sub, fun q hq => ?_, List.nodup_cons.mpr ⟨nD, M'.nd⟩⟩ (.ref D)
    · rcases List.mem_cons.mp (show b ∈ D :: dom μ1 from hb) with hb | hb
      · subst hb
        have := S1.kept b o e n
        rw [hD] at this; cases this
      · exact (S1.trans S').cells b o e n hb
    · rcases List.mem_cons.mp hq with rfl | hq
      · refine ⟨tD', us, hD', ?_⟩
        have : R ys.length = mergeD [] ((ys.filter f).map fun y => (kf y, vf y)) := by show mergeD [] _ = _; rw [List.take_length]
        rw [← this]
        exact rx
      · exact M'.mem q hq
/-! ### dict(list of pairs) -/
def rDictP (K : Frag) : List V → Hp → VK → Prop := fun xs H Q => ∃ (a : Addr) (ps : List Addr) (kvs : List (Key × V)), xs = [.ref a] ∧ SqL K H a (ps.map V.ref) ∧ Paired (fun p kv => SqT K H p [kV kv.1, kv.2]) ps kvs ∧
    ∀ p, H p = none → Q (.ref p) (upd H p (.dK (mergeK [] kvs)))
theorem pairs_rep {α : Type} {kf : α → Key} {vf : α → Dt} (s : Sub T H) : ∀ {xs : List α} {vs : List V}, Reps K T vs (xs.map fun x => .tup [kD (kf x), vf x]) → ∃ (ps : List Addr) (kvs : List (Key × V)), vs = ps.map V.ref ∧ Paired (fun p kv => SqT K H p [kV kv.1, kv.2]) ps kvs ∧ Paired (PRep K T) kvs (xs.map fun x => (kf x, vf x))
  | [], vs, r => by
    rw [List.map_nil] at r
    cases r
    exact ⟨[], [], rfl, .nil, .nil⟩
  | x :: xs, vs, r => by
    rw [List.map_cons] at r
    obtain ⟨v, us, rfl, r1, r2⟩ := r.cons_inv
    obtain ⟨ps, kvs, rfl, h1, h2⟩ := pairs_rep s r2
    obtain ⟨a, ys, rfl, ha, ry⟩ := r1.tup_inv
    obtain ⟨y1, ys1, rfl, r3, r4⟩ := ry.cons_inv
    obtain ⟨y2, ys2, rfl, r5, r6⟩ := r4.cons_inv
    obtain rfl := r6.nil_inv
    obtain rfl := kD_rep r3
    exact ⟨a :: ps, (kf x, y2) :: kvs, rfl, .cons (SqT.of (s _ _ ha)) h1, .cons ⟨rfl, r5⟩ h2⟩
theorem rw_dictP {α : Type} {kf : α → Key} {vf : α → Dt} {xs : List α} {d : Dt} {ds : List Dt} {W : Dt → Mem → Prop} (h : IsLst μ d ds) (e : ds = xs.map fun x => .tup [kD (kf x), vf x]) (w : ∀ p, p ∉ dom μ → W (.ref p) ((p, .dK (mergeD [] (xs.map fun x => (kf x, vf x)))) :: μ)) : RWL K μ (rDictP K) [d] W := fun T H vs M r Q F => by
  subst e
  obtain ⟨v, us, rfl, r1, r2⟩ := r.cons_inv
  obtain rfl := r2.nil_inv
  obtain ⟨a, ys, rfl, ha, ra⟩ := h.at M r1
  obtain ⟨ps, kvs, rfl, h1, h2⟩ := pairs_rep M.sub ra
  refine ⟨a, ps, kvs, rfl, SqL.of ha, h1, fun p hp => ?_⟩
  obtain ⟨M2, S2⟩ := M.cell (m := .dK (mergeD [] (xs.map fun x => (kf x, vf x)))) (o := .dK (mergeK [] kvs)) hp ⟨_, upd_same, mergeD_rep h2 .nil⟩
  exact F _ _ _ _ _ (w p (M.notin hp)) S2 M2 (.ref p)
/-! ### sorted(dict of ints) -/
def rSortDI (_ : Frag) : List V → Hp → VK → Prop := fun xs H Q => ∃ (a : Addr) (kvs : List (Key × V)) (ks : List Int), xs = [.ref a] ∧ Rd H a (.dK kvs) ∧ kvs.map (·.1) = ks.map Sum.inl ∧ ks.length < 64 ∧
    ∀ (ys : List Int) (p : Addr), ys.Perm ks → ys.Pairwise (· ≤ ·) → H p = none → Q (.ref p) (upd H p (.lst (ys.map V.int)))
def sortI (ns : List Int) : List Int := ns.mergeSort fun a b => decide (a ≤ b)
theorem sortI_perm (ns : List Int) : (sortI ns).Perm ns := List.mergeSort_perm ..
theorem sortI_sorted (ns : List Int) : (sortI ns).Pairwise (· ≤ ·) := by
  have h := List.pairwise_mergeSort (le := fun a b : Int => decide (a ≤ b)) (fun a b c h1 h2 => by simp at h1 h2 ⊢; omega) (fun a b => by simp; omega) ns
  exact h.imp fun h => by simpa using h
theorem sortI_eq {ns ys : List Int} (h : ys.Perm ns) (s : ys.Pairwise (· ≤ ·)) : ys = sortI ns :=
  (h.trans (sortI_perm ns).symm).eq_of_pairwise (fun a b _ _ h1 h2 => Int.le_antisymm h1 h2) s (sortI_sorted ns)
theorem wp_sortDc {te : TE} {W : Dt → Mem → Prop} (h : WP K Y ρ μ te fun d μ1 => ∃ (a : Addr) (kvs : List (Key × Dt)) (c : Nat) (gone rest : Mem) (ks : List Int), d = .ref a ∧ μ1[c]? = some (a, .dK kvs) ∧ μ1.Perm (rest ++ gone) ∧ kvs.map (·.1) = ks.map Sum.inl ∧ ks.length < 64 ∧ W (.lst ((sortI ks).map .int)) rest) : WP K Y ρ μ (tCB (rSortDI K) (tCons te tNil)) W := by
  refine wp_cb (wpa_cons (WP.imp h ?_))
  rintro d μ1 ⟨a, kvs, c, gone, rest, ks, rfl, hc, pm, hk, hl, w⟩
  refine wpa_nil ?_
  intro T H xs M r Q F
  obtain ⟨v, us, rfl, r1, r2⟩ := r.cons_inv
  obtain rfl := r2.nil_inv
  obtain rfl := r1.ref_inv
  obtain ⟨us, h1, h2⟩ := M.get hc
  obtain ⟨M0, S0⟩ := M.drop (foot := rest) (rest := gone) pm
  refine ⟨a, us, ks, rfl, .inl h1, by rw [(prep_keys h2).1]; exact hk, hl, fun ys p hp hs hn => ?_⟩
  obtain rfl := sortI_eq hp hs
  obtain ⟨M2, S2⟩ := M0.lay (o := .lst ((sortI ks).map V.int)) hn
  refine F _ _ _ _ _ w (S0.trans S2) M2 (.lst upd_same ?_)
  exact reps_ints _
/-! ### min, abs, products in place -/
def rMin2 : List V → Hp → VK → Prop := fun xs H Q => ∃ i j, xs = [.int i, .int j] ∧ Q (.int (if j < i then j else i)) H
theorem rw_min2 {i j : Int} {W : Dt → Mem → Prop} (w : W (.int (min i j)) μ) : RWL K μ rMin2 [.int i, .int j] W := fun T H xs M r Q F => by
  obtain ⟨v, us, rfl, r1, r2⟩ := r.cons_inv
  obtain ⟨u, us', rfl, r3, r4⟩ := r2.cons_inv
  obtain rfl := r4.nil_inv
  obtain rfl := r1.int_inv
  obtain rfl := r3.int_inv
  refine ⟨i, j, rfl, F T _ H _ μ w (Step.refl _ _ _) M ?_⟩
  have : (if j < i then j else i) = min i j := by
    rw [Int.min_def]; split <;> split <;> omega
  rw [this]
  exact .int _
def rAbs : List V → Hp → VK → Prop := fun xs H Q => ∃ i, xs = [.int i] ∧ Q (.int (if i < 0 then -i else i)) H
theorem rw_abs {i : Int} {W : Dt → Mem → Prop} (w : W (.int (if i < 0 then -i else i)) μ) : RWL K μ rAbs [.int i] W := fun T H xs M r Q F => by
  obtain ⟨v, us, rfl, r1, r2⟩ := r.cons_inv
  obtain rfl := r2.nil_inv
  obtain rfl := r1.int_inv
  exact ⟨i, rfl, F T _ H _ μ w (Step.refl _ _ _) M (.int _)⟩
theorem wps_augM {i : Nat} {te : TE} {n : Int} (hi : ρ[i]? = some (some (.int n))) (h : WP K Y ρ μ te fun d μ1 => ∃ k, d = .int k ∧ CMul n k ∧ D.nx (ρ.set i (some (.int (n * k)))) μ1) : WPS K Y ρ μ (tAug i te (rI CMul fun i j => .int (i * j))) D := fun T σ H M L N E F => by
  obtain ⟨v, h1, h2⟩ := L.get i _ hi
  obtain rfl := h2.int_inv
  refine ⟨_, h1, h T σ H M L N _ fun T1 y H1 d μ1 ⟨k, e, hc, w⟩ S1 M1 r1 => ?_⟩
  subst e
  exact ⟨n, k, rfl, r1.int_inv, hc, F.nx T1 _ H1 _ μ1 w S1 M1 ((L.mono S1.grow).set (.int _) i)⟩
theorem rw_mul {i j : Int} {W : Dt → Mem → Prop} (w : W (.int (i * j)) μ) (hc : CMul i j) : RW2 K μ (rI CMul fun i j => V.int (i * j)) (.int i) (.int j) W := rw_I hc (fun _ => .int _) w
theorem rw_divW {i m : Int} {W : Dt → Mem → Prop} (w : W (.int (i / m)) μ) (hm : CDivW i m) : RW2 K μ (rI CDivW fun i j => V.int (i / j)) (.int i) (.int m) W := rw_I hm (fun _ => .int _) w
end
end Ml

/-! Mx1: matchings, exchange, the least costs of so many pairs. -/
namespace Ml
namespace St
section
variable {U V : Type}
/-- a matching: no own line twice, no other line twice -/
structure IsM (A : List U) (B : List V) (M : List (U × V)) : Prop where
  n1 : (M.map (·.1)).Nodup
  n2 : (M.map (·.2)).Nodup
  s1 : ∀ p ∈ M, p.1 ∈ A
  s2 : ∀ p ∈ M, p.2 ∈ B
def cost (c : U → V → Int) (M : List (U × V)) : Int := (M.map fun p => c p.1 p.2).sum
theorem cost_perm {c : U → V → Int} {M N : List (U × V)} (h : M.Perm N) : cost c M = cost c N := by
  unfold cost
  induction h with
  | nil => rfl
  | cons x _ ih => simp [ih]
  | swap x y l => simp; omega
  | trans _ _ h1 h2 => exact h1.trans h2
theorem cost_cons {c : U → V → Int} {p : U × V} {M : List (U × V)} : cost c (p :: M) = c p.1 p.2 + cost c M := by simp [cost]
theorem cost_append {c : U → V → Int} {M N : List (U × V)} : cost c (M ++ N) = cost c M + cost c N := by simp [cost]
theorem IsM.perm {A : List U} {B : List V} {M N : List (U × V)} (h : IsM A B M) (p : M.Perm N) : IsM A B N :=
  ⟨(p.map _).nodup_iff.mp h.n1, (p.map _).nodup_iff.mp h.n2, fun q hq => h.s1 q (p.mem_iff.mpr hq), fun q hq => h.s2 q (p.mem_iff.mpr hq)⟩
theorem IsM.tail {A : List U} {B : List V} {p : U × V} {M : List (U × V)} (h : IsM A B (p :: M)) : IsM A B M :=
  ⟨(List.nodup_cons.mp h.n1).2, (List.nodup_cons.mp h.n2).2, fun q hq => h.s1 q (List.mem_cons_of_mem _ hq), fun q hq => h.s2 q (List.mem_cons_of_mem _ hq)⟩
theorem IsM.nil {A : List U} {B : List V} : IsM A B [] := ⟨List.nodup_nil, List.nodup_nil, (fun _ h => by cases h), (fun _ h => by cases h)⟩
theorem IsM.cons {A : List U} {B : List V} {p : U × V} {M : List (U × V)} (h : IsM A B M) (h1 : p.1 ∈ A) (h2 : p.2 ∈ B) (n1 : p.1 ∉ M.map (·.1)) (n2 : p.2 ∉ M.map (·.2)) : IsM A B (p :: M) :=
  ⟨List.nodup_cons.mpr ⟨n1, h.n1⟩, List.nodup_cons.mpr ⟨n2, h.n2⟩, fun q hq => by
    rcases List.mem_cons.mp hq with rfl | hq
    · exact h1
    · exact h.s1 q hq, fun q hq => by
    rcases List.mem_cons.mp hq with rfl | hq
    · exact h2
    · exact h.s2 q hq⟩
theorem IsM.sub {A A' : List U} {B B' : List V} {M : List (U × V)} (h : IsM A B M) (h1 : ∀ p ∈ M, p.1 ∈ A') (h2 : ∀ p ∈ M, p.2 ∈ B') : IsM A' B' M := ⟨h.n1, h.n2, h1, h2⟩
end
section
variable {U V : Type} [DecidableEq U] [DecidableEq V]
theorem mem_perm_head {α : Type} {x : α} {l : List α} (h : x ∈ l) : ∃ t, l.Perm (x :: t) := by
  obtain ⟨s, t, rfl⟩ := List.append_of_mem h
  exact ⟨s ++ t, List.perm_middle⟩
/-- what an exchange gives -/
structure Ex (A B : List (U × V)) where
  A' : List (U × V)
  B' : List (U × V)
  x : U
  y : V
  all : (A' ++ B').Perm (A ++ B)
  a1 : (A'.map (·.1)).Perm (x :: A.map (·.1))
  a2 : (A'.map (·.2)).Perm (y :: A.map (·.2))
  b1 : (B.map (·.1)).Perm (x :: B'.map (·.1))
  b2 : (B.map (·.2)).Perm (y :: B'.map (·.2))
  xn : x ∉ A.map (·.1)
  yn : y ∉ A.map (·.2)
theorem pick {l m : List U} (hl : l.Nodup) (hm : m.Nodup) (h : l.length < m.length) : ∃ x ∈ m, x ∉ l := by
  apply Classical.byContradiction
  intro no
  have : m ⊆ l := fun x hx => Classical.byContradiction fun hn => no ⟨x, hx, hn⟩
  have := List.Nodup.length_le_of_subset hm this
  omega
theorem exchange : ∀ (n : Nat) (A B : List (U × V)), A.length = n → (A.map (·.1)).Nodup → (A.map (·.2)).Nodup → (B.map (·.1)).Nodup → (B.map (·.2)).Nodup → A.length < B.length → Nonempty (Ex A B) := by
  intro n
  induction n with
  | zero =>
    intro A B hn a1 a2 b1 b2 hl
    cases A with
    | cons => simp at hn
    | nil =>
      cases B with
      | nil => simp at hl
      | cons p B => exact ⟨⟨[p], B, p.1, p.2, by simp, by simp, by simp, by simp, by simp, by simp, by simp⟩⟩
  | succ n ih =>
    intro A B hn a1 a2 b1 b2 hl
    obtain ⟨u, hu, hun⟩ := pick a1 b1 (by simpa using hl)
    obtain ⟨⟨u', v⟩, hp, rfl⟩ := List.mem_map.mp hu
    obtain ⟨B1, pB⟩ := mem_perm_head hp
    have pB1 := pB.map (·.1)
    have pB2 := pB.map (·.2)
    have nB1 := pB1.nodup_iff.mp b1
    have nB2 := pB2.nodup_iff.mp b2
    by_cases hv : v ∈ A.map (·.2)
    · obtain ⟨⟨w, v'⟩, hq, e⟩ := List.mem_map.mp hv
      have e : v' = v := e
      subst e
      obtain ⟨A1, pA⟩ := mem_perm_head hq
      have pA1 := pA.map (·.1)
      have pA2 := pA.map (·.2)
      have nA1 := pA1.nodup_iff.mp a1
      have nA2 := pA2.nodup_iff.mp a2
      have lA := pA.length_eq
      have lB := pB.length_eq
      rw [List.length_cons] at lA lB
      obtain ⟨E⟩ := ih A1 B1 (by omega) (List.nodup_cons.mp nA1).2 (List.nodup_cons.mp nA2).2 (List.nodup_cons.mp nB1).2 (List.nodup_cons.mp nB2).2 (by omega)
      have vA1 : v' ∉ A1.map (·.2) := (List.nodup_cons.mp nA2).1
      have vB1 : v' ∉ B1.map (·.2) := (List.nodup_cons.mp nB2).1
      have uB1 : u' ∉ B1.map (·.1) := (List.nodup_cons.mp nB1).1
      have wA1 : w ∉ A1.map (·.1) := (List.nodup_cons.mp nA1).1
      have uA : u' ∉ A.map (·.1) := hun
      have uw : u' ≠ w := fun e => uA (e ▸ pA1.mem_iff.mpr List.mem_cons_self)
      have yv : E.y ≠ v' := fun e => vB1 (e ▸ E.b2.mem_iff.mpr List.mem_cons_self)
      have xB : E.x ∈ B1.map (·.1) := E.b1.mem_iff.mpr List.mem_cons_self
      have xu : E.x ≠ u' := fun e => uB1 (e ▸ xB)
      have yn : E.y ∉ A.map (·.2) := fun h => by
        rcases List.mem_cons.mp (pA2.mem_iff.mp h) with h | h
        · exact yv h
        · exact E.yn h
      by_cases hx : E.x = w
      · -- the new own line is the one whose pair was taken out
        refine ⟨⟨(u', v') :: E.A', (w, v') :: E.B', u', E.y, ?_, ?_, ?_, ?_, ?_, uA, yn⟩⟩
        · have h1 : ((u', v') :: E.A' ++ (w, v') :: E.B').Perm ((u', v') :: (w, v') :: (E.A' ++ E.B')) := by
            rw [List.cons_append]
            exact List.Perm.cons _ List.perm_middle
          have h2 : (A ++ B).Perm ((u', v') :: (w, v') :: (A1 ++ B1)) := by
            refine (pA.append pB).trans ?_
            rw [List.cons_append]
            exact (List.Perm.cons _ List.perm_middle).trans (List.Perm.swap _ _ _)
          exact h1.trans (((E.all.cons _).cons _).trans h2.symm)
        · refine (List.Perm.cons u' E.a1).trans ?_
          refine (List.Perm.cons u' ?_)
          rw [hx]
          exact pA1.symm
        · refine (List.Perm.cons v' E.a2).trans ((List.Perm.swap _ _ _).trans (List.Perm.cons _ pA2.symm))
        · refine pB1.trans (List.Perm.cons u' ?_)
          refine E.b1.trans ?_
          rw [hx]
          exact List.Perm.refl _
        · exact pB2.trans ((List.Perm.cons v' E.b2).trans (List.Perm.swap _ _ _))
      · refine ⟨⟨(w, v') :: E.A', (u', v') :: E.B', E.x, E.y, ?_, ?_, ?_, ?_, ?_, ?_, yn⟩⟩
        · have h1 : ((w, v') :: E.A' ++ (u', v') :: E.B').Perm ((w, v') :: (u', v') :: (E.A' ++ E.B')) := by
            rw [List.cons_append]
            exact List.Perm.cons _ List.perm_middle
          have h2 : (A ++ B).Perm ((w, v') :: (u', v') :: (A1 ++ B1)) := by
            refine (pA.append pB).trans ?_
            rw [List.cons_append]
            exact List.Perm.cons _ List.perm_middle
          exact h1.trans (((E.all.cons _).cons _).trans h2.symm)
        · exact (List.Perm.cons w E.a1).trans ((List.Perm.swap _ _ _).trans (List.Perm.cons _ pA1.symm))
        · exact (List.Perm.cons v' E.a2).trans ((List.Perm.swap _ _ _).trans (List.Perm.cons _ pA2.symm))
        · exact pB1.trans ((List.Perm.cons u' E.b1).trans (List.Perm.swap _ _ _))
        · exact pB2.trans ((List.Perm.cons v' E.b2).trans (List.Perm.swap _ _ _))
        · intro h
          rcases List.mem_cons.mp (pA1.mem_iff.mp h) with h | h
          · exact hx h
          · exact E.xn h
    · refine ⟨⟨(u', v) :: A, B1, u', v, ?_, List.Perm.refl _, List.Perm.refl _, pB1, pB2, hun, hv⟩⟩
      rw [List.cons_append]
      exact List.perm_middle.symm.trans ((List.Perm.refl A).append pB.symm)
/-! ### the least cost of so many pairs -/
/-- v is the least cost of the matchings of m pairs; none: there is none of m pairs -/
def Opt (A : List U) (B : List V) (c : U → V → Int) (m : Nat) : Option Int → Prop
  | none => ∀ M, IsM A B M → M.length ≠ m
  | some v => (∃ M, IsM A B M ∧ M.length = m ∧ cost c M = v) ∧ ∀ M, IsM A B M → M.length = m → v ≤ cost c M
def minO : Option Int → Option Int → Option Int
  | none, o => o
  | o, none => o
  | some a, some b => some (min a b)
def lesser (x y : List Int) : List Int := (List.zipWith min x y) ++ (if x.length > y.length then x else y).drop (min x.length y.length)
theorem lesser_get (x y : List Int) (m : Nat) : (lesser x y)[m]? = minO x[m]? y[m]? := by
  unfold lesser
  by_cases h : m < min x.length y.length
  · rw [List.getElem?_append_left (by rw [List.length_zipWith]; exact h), List.getElem?_zipWith]
    have h1 : m < x.length := by omega
    have h2 : m < y.length := by omega
    rw [List.getElem?_eq_getElem h1, List.getElem?_eq_getElem h2]
    rfl
  · rw [List.getElem?_append_right (by rw [List.length_zipWith]; omega), List.getElem?_drop, List.length_zipWith]
    have e : min x.length y.length + (m - min x.length y.length) = m := by omega
    rw [e]
    split
    · rename_i hl
      rw [List.getElem?_eq_none (l := y) (by omega)]
      cases x[m]? <;> rfl
    · rename_i hl
      rw [List.getElem?_eq_none (l := x) (by omega)]
      rfl
theorem lesser_length (x y : List Int) : (lesser x y).length = max x.length y.length := by
  unfold lesser
  rw [List.length_append, List.length_zipWith, List.length_drop]
  split <;> omega
/-- the least costs, of reversed lists -/
def dp (c : U → V → Int) : List U → List V → List Int
  | [], _ => [0]
  | _ :: _, [] => [0]
  | a :: A, b :: B => lesser (lesser (dp c A (b :: B)) (dp c (a :: A) B)) (0 :: (dp c A B).map (· + c a b))
termination_by A B => A.length + B.length
theorem opt_none {A : List U} {B : List V} {c : U → V → Int} (h : A = [] ∨ B = []) (m : Nat) : Opt A B c m ([(0 : Int)][m]?) := by
  have key : ∀ M, IsM A B M → M = [] := fun M hM => by
    cases M with
    | nil => rfl
    | cons p M =>
      rcases h with rfl | rfl
      · exact absurd (hM.s1 p List.mem_cons_self) List.not_mem_nil
      · exact absurd (hM.s2 p List.mem_cons_self) List.not_mem_nil
  cases m with
  | zero => exact ⟨⟨[], IsM.nil, rfl, rfl⟩, fun M hM _ => by rw [key M hM]; exact Int.le_refl _⟩
  | succ m => exact fun M hM e => by rw [key M hM] at e; cases e
/-- crossed pairs cost no less -/
def Un (c : U → V → Int) (a : U) (b : V) (A : List U) (B : List V) : Prop := ∀ a' ∈ A, ∀ b' ∈ B, c a b + c a' b' ≤ c a b' + c a' b
theorem Opt.ge {A : List U} {B : List V} {c : U → V → Int} {m : Nat} {o : Option Int} (h : Opt A B c m o) {M : List (U × V)} (hM : IsM A B M) (hl : M.length = m) : ∃ v, o = some v ∧ v ≤ cost c M := by
  cases o with
  | none => exact absurd hl (h M hM)
  | some v => exact ⟨v, rfl, h.2 M hM hl⟩
theorem minO_le1 {o p : Option Int} {v : Int} (h : o = some v) : ∃ w, minO o p = some w ∧ w ≤ v := by
  subst h
  cases p with
  | none => exact ⟨v, rfl, Int.le_refl _⟩
  | some u => exact ⟨_, rfl, Int.min_le_left _ _⟩
theorem minO_le2 {o p : Option Int} {v : Int} (h : p = some v) : ∃ w, minO o p = some w ∧ w ≤ v := by
  subst h
  cases o with
  | none => exact ⟨v, rfl, Int.le_refl _⟩
  | some u => exact ⟨_, rfl, Int.min_le_right _ _⟩
theorem minO_some {o p : Option Int} {v : Int} (h : minO o p = some v) : o = some v ∨ p = some v := by
  cases o with
  | none => exact .inr h
  | some a =>
    cases p with
    | none => exact .inl h
    | some b =>
      have h : min a b = v := Option.some.inj h
      rcases Int.le_total a b with q | q
      · rw [Int.min_eq_left q] at h; exact .inl (congrArg some h)
      · rw [Int.min_eq_right q] at h; exact .inr (congrArg some h)
theorem dp_opt {c : U → V → Int} : ∀ (n : Nat) (A : List U) (B : List V), A.length + B.length = n → A.Nodup → B.Nodup → (∀ a A' b B', (a :: A').IsSuffix A → (b :: B').IsSuffix B → Un c a b A' B') → ∀ m, Opt A B c m (dp c A B)[m]? := by
  intro n
  induction n using Nat.strongRecOn with
  | _ n ih =>
    intro A B hn hA hB un m
    cases A with
    | nil => rw [dp]; exact opt_none (.inl rfl) m
    | cons a A =>
      cases B with
      | nil => rw [dp]; exact opt_none (.inr rfl) m
      | cons b B =>
        rw [dp, lesser_get, lesser_get]
        obtain ⟨na, hA'⟩ := List.nodup_cons.mp hA
        obtain ⟨nb, hB'⟩ := List.nodup_cons.mp hB
        rw [List.length_cons, List.length_cons] at hn
        have sA : ∀ x X, (x :: X).IsSuffix A → (x :: X).IsSuffix (a :: A) := fun x X h => h.trans (List.suffix_cons a A)
        have sB : ∀ x X, (x :: X).IsSuffix B → (x :: X).IsSuffix (b :: B) := fun x X h => h.trans (List.suffix_cons b B)
        have i1 := ih (A.length + (b :: B).length) (by rw [List.length_cons]; omega) A (b :: B) rfl hA' hB (fun x X y Y h1 h2 => un x X y Y (sA _ _ h1) h2) m
        have i2 := ih ((a :: A).length + B.length) (by rw [List.length_cons]; omega) (a :: A) B rfl hA hB' (fun x X y Y h1 h2 => un x X y Y h1 (sB _ _ h2)) m
        have i3 := fun m => ih (A.length + B.length) (by omega) A B rfl hA' hB' (fun x X y Y h1 h2 => un x X y Y (sA _ _ h1) (sB _ _ h2)) m
        have unab : Un c a b A B := un a A b B (List.suffix_refl _) (List.suffix_refl _)
        generalize e1 : (dp c A (b :: B))[m]? = o1 at i1 ⊢
        generalize e2 : (dp c (a :: A) B)[m]? = o2 at i2 ⊢
        -- what o3 is
        have h3 : ∀ M, IsM A B M → M.length + 1 = m → ∃ v, (0 :: (dp c A B).map (· + c a b))[m]? = some v ∧ v ≤ cost c M + c a b := by
          intro M hM hl
          obtain ⟨v, hv, hle⟩ := (i3 M.length).ge hM rfl
          refine ⟨v + c a b, ?_, by omega⟩
          rw [← hl, List.getElem?_cons_succ, List.getElem?_map, hv]
          rfl
        have w3 : ∀ v, (0 :: (dp c A B).map (· + c a b))[m]? = some v → ∃ M, IsM (a :: A) (b :: B) M ∧ M.length = m ∧ cost c M = v := by
          intro v hv
          cases m with
          | zero => exact ⟨[], IsM.nil, rfl, by simpa [cost] using hv⟩
          | succ m =>
            rw [List.getElem?_cons_succ, List.getElem?_map] at hv
            have i := i3 m
            cases q : (dp c A B)[m]? with
            | none => rw [q] at hv; cases hv
            | some u =>
              rw [q] at hv i
              obtain ⟨⟨M, hM, hl, hc⟩, _⟩ := i
              have hv : u + c a b = v := Option.some.inj hv
              refine ⟨(a, b) :: M, ?_, by rw [List.length_cons, hl], by rw [cost_cons, hc]; show c a b + u = v; omega⟩
              refine IsM.cons (hM.sub (fun p hp => List.mem_cons_of_mem _ (hM.s1 p hp)) fun p hp => List.mem_cons_of_mem _ (hM.s2 p hp)) List.mem_cons_self List.mem_cons_self ?_ ?_
              · intro h; obtain ⟨p, hp, e⟩ := List.mem_map.mp h; have e : p.1 = a := e; exact na (e ▸ hM.s1 p hp)
              · intro h; obtain ⟨p, hp, e⟩ := List.mem_map.mp h; have e : p.2 = b := e; exact nb (e ▸ hM.s2 p hp)
        generalize e3 : (0 :: (dp c A B).map (· + c a b))[m]? = o3 at h3 w3 ⊢
        have low : ∀ M, IsM (a :: A) (b :: B) M → M.length = m → ∃ v, minO (minO o1 o2) o3 = some v ∧ v ≤ cost c M := by
          intro M hM hl
          by_cases ha : a ∈ M.map (·.1)
          · by_cases hb : b ∈ M.map (·.2)
            · obtain ⟨⟨a', b'⟩, hp, ea⟩ := List.mem_map.mp ha
              have ea : a' = a := ea
              subst ea
              obtain ⟨M1, p1⟩ := mem_perm_head hp
              have hM1 := hM.perm p1
              have n1 := List.nodup_cons.mp hM1.n1
              have n2 := List.nodup_cons.mp hM1.n2
              have l1 := p1.length_eq
              rw [List.length_cons] at l1
              have c1 := cost_perm (c := c) p1
              rw [cost_cons] at c1
              by_cases eb : b' = b
              · subst eb
                have hM2 : IsM A B M1 := hM1.tail.sub (fun p hp => by
                  rcases List.mem_cons.mp (hM1.tail.s1 p hp) with e | h
                  · exact absurd (e ▸ List.mem_map.mpr ⟨p, hp, rfl⟩) n1.1
                  · exact h) (fun p hp => by
                  rcases List.mem_cons.mp (hM1.tail.s2 p hp) with e | h
                  · exact absurd (e ▸ List.mem_map.mpr ⟨p, hp, rfl⟩) n2.1
                  · exact h)
                obtain ⟨v, hv, hle⟩ := h3 M1 hM2 (by omega)
                obtain ⟨w, hw, hwle⟩ := minO_le2 (o := minO o1 o2) hv
                exact ⟨w, hw, by have : c (a', b').1 (a', b').2 = c a' b' := rfl; omega⟩
              · have hb1 : b ∈ M1.map (·.2) := by
                  rcases List.mem_cons.mp ((p1.map (·.2)).mem_iff.mp hb) with e | h
                  · exact absurd e.symm eb
                  · exact h
                obtain ⟨⟨x, b2⟩, hq, e2'⟩ := List.mem_map.mp hb1
                have e2' : b2 = b := e2'
                subst e2'
                obtain ⟨M2, p2⟩ := mem_perm_head hq
                have hM2 := hM1.tail.perm p2
                have m1 := List.nodup_cons.mp hM2.n1
                have m2 := List.nodup_cons.mp hM2.n2
                have l2 := p2.length_eq
                rw [List.length_cons] at l2
                have c2 := cost_perm (c := c) p2
                rw [cost_cons] at c2
                have xa : x ≠ a' := fun e => n1.1 (e ▸ (p2.map (·.1)).mem_iff.mpr List.mem_cons_self)
                have aM2 : a' ∉ M2.map (·.1) := fun h => n1.1 ((p2.map (·.1)).mem_iff.mpr (List.mem_cons_of_mem _ h))
                have bM2 : b' ∉ M2.map (·.2) := fun h => n2.1 ((p2.map (·.2)).mem_iff.mpr (List.mem_cons_of_mem _ h))
                have inA : ∀ p ∈ M2, p.1 ∈ A := fun p hp => by
                  rcases List.mem_cons.mp (hM2.tail.s1 p hp) with e | h
                  · exact absurd (e ▸ List.mem_map.mpr ⟨p, hp, rfl⟩) aM2
                  · exact h
                have inB : ∀ p ∈ M2, p.2 ∈ B := fun p hp => by
                  rcases List.mem_cons.mp (hM2.tail.s2 p hp) with e | h
                  · exact absurd (e ▸ List.mem_map.mpr ⟨p, hp, rfl⟩) m2.1
                  · exact h
                have xA : x ∈ A := by
                  rcases List.mem_cons.mp (hM2.s1 (x, b2) List.mem_cons_self) with e | h
                  · exact absurd e xa
                  · exact h
                have bB : b' ∈ B := by
                  rcases List.mem_cons.mp (hM1.s2 (a', b') List.mem_cons_self) with e | h
                  · exact absurd e eb
                  · exact h
                have hM3 : IsM A B ((x, b') :: M2) := IsM.cons (hM2.tail.sub inA inB) xA bB m1.1 bM2
                obtain ⟨v, hv, hle⟩ := h3 _ hM3 (by rw [List.length_cons]; omega)
                obtain ⟨w, hw, hwle⟩ := minO_le2 (o := minO o1 o2) hv
                refine ⟨w, hw, ?_⟩
                have u := unab x xA b' bB
                rw [cost_cons] at hle
                have q1 : c (a', b').1 (a', b').2 = c a' b' := rfl
                have q2 : c (x, b2).1 (x, b2).2 = c x b2 := rfl
                have q3 : c (x, b').1 (x, b').2 = c x b' := rfl
                omega
            · obtain ⟨v, hv, hle⟩ := i2.ge (hM.sub hM.s1 fun p hp => by
                rcases List.mem_cons.mp (hM.s2 p hp) with e | h
                · exact absurd (e ▸ List.mem_map.mpr ⟨p, hp, rfl⟩) hb
                · exact h) hl
              obtain ⟨w, hw, hwle⟩ := minO_le2 (o := o1) hv
              obtain ⟨z, hz, hzle⟩ := minO_le1 (p := o3) hw
              exact ⟨z, hz, by omega⟩
          · obtain ⟨v, hv, hle⟩ := i1.ge (hM.sub (fun p hp => by
                rcases List.mem_cons.mp (hM.s1 p hp) with e | h
                · exact absurd (e ▸ List.mem_map.mpr ⟨p, hp, rfl⟩) ha
                · exact h) hM.s2) hl
            obtain ⟨w, hw, hwle⟩ := minO_le1 (p := o2) hv
            obtain ⟨z, hz, hzle⟩ := minO_le1 (p := o3) hw
            exact ⟨z, hz, by omega⟩
        generalize eo : minO (minO o1 o2) o3 = o at low
        cases o with
        | none => exact fun M hM hl => by obtain ⟨v, hv, _⟩ := low M hM hl; cases hv
        | some v =>
          refine ⟨?_, fun M hM hl => by obtain ⟨w, hw, hle⟩ := low M hM hl; cases hw; exact hle⟩
          rcases minO_some eo with h | h
          · rcases minO_some h with h | h
            · subst h
              obtain ⟨M, hM, hl, hc⟩ := i1.1
              exact ⟨M, hM.sub (fun p hp => List.mem_cons_of_mem _ (hM.s1 p hp)) hM.s2, hl, hc⟩
            · subst h
              obtain ⟨M, hM, hl, hc⟩ := i2.1
              exact ⟨M, hM.sub hM.s1 (fun p hp => List.mem_cons_of_mem _ (hM.s2 p hp)), hl, hc⟩
          · subst h
            exact w3 v rfl
theorem dp_length {c : U → V → Int} : ∀ (n : Nat) (A : List U) (B : List V), A.length + B.length = n → (dp c A B).length = min A.length B.length + 1 := by
  intro n
  induction n using Nat.strongRecOn with
  | _ n ih =>
    intro A B hn
    cases A with
    | nil => rw [dp]; simp
    | cons a A =>
      cases B with
      | nil => rw [dp]; simp
      | cons b B =>
        rw [List.length_cons, List.length_cons] at hn
        rw [dp, lesser_length, lesser_length, List.length_cons, List.length_map, ih (A.length + (b :: B).length) (by rw [List.length_cons]; omega) A (b :: B) rfl, ih ((a :: A).length + B.length) (by rw [List.length_cons]; omega) (a :: A) B rfl, ih (A.length + B.length) (by omega) A B rfl]
        simp only [List.length_cons]
        omega
end
end St
end Ml

/-! Mx2: one amount: each more pair joins one line of each book; convexity; bits. -/
namespace Ml
namespace St
section
variable {U V : Type}
def sumU (p : U → Int) (l : List U) : Int := (l.map p).sum
theorem sum_perm {l m : List Int} (h : l.Perm m) : l.sum = m.sum := by
  induction h with
  | nil => rfl
  | cons x _ ih => simp [ih]
  | swap x y l => simp; omega
  | trans _ _ h1 h2 => exact h1.trans h2
theorem sumU_perm {p : U → Int} {l m : List U} (h : l.Perm m) : sumU p l = sumU p m := sum_perm (h.map p)
theorem sumU_cons {p : U → Int} {x : U} {l : List U} : sumU p (x :: l) = p x + sumU p l := by simp [sumU]
/-- days apart times the unit, and the lines' own weights -/
def cw (δ : U → V → Int) (p : U → Int) (q : V → Int) (unit : Int) (a : U) (b : V) : Int := δ a b * unit + p a + q b
theorem cost_cw {δ : U → V → Int} {p : U → Int} {q : V → Int} {unit : Int} (M : List (U × V)) : cost (cw δ p q unit) M = cost δ M * unit + sumU p (M.map (·.1)) + sumU q (M.map (·.2)) := by
  induction M with
  | nil => simp [cost, sumU]
  | cons x M ih =>
    rw [cost_cons, cost_cons, List.map_cons, List.map_cons, sumU_cons, sumU_cons, ih, Int.add_mul]
    show δ x.1 x.2 * unit + p x.1 + q x.2 + _ = _
    omega
end
section
variable {U V : Type} [DecidableEq U] [DecidableEq V]
/-- the conditions of a table of least costs -/
structure Tab (A : List U) (B : List V) (c : U → V → Int) : Prop where
  nA : A.Nodup
  nB : B.Nodup
  un : ∀ a A' b B', (a :: A').IsSuffix A → (b :: B').IsSuffix B → Un c a b A' B'
variable {A : List U} {B : List V} {c : U → V → Int}
theorem Tab.opt (t : Tab A B c) (m : Nat) : Opt A B c m (dp c A B)[m]? := dp_opt _ A B rfl t.nA t.nB t.un m
theorem len_dp : (dp c A B).length = min A.length B.length + 1 := dp_length _ A B rfl
theorem Tab.at (t : Tab A B c) {m : Nat} (h : m ≤ min A.length B.length) : ∃ v, (dp c A B)[m]? = some v ∧ (∃ M, IsM A B M ∧ M.length = m ∧ cost c M = v) ∧ ∀ M, IsM A B M → M.length = m → v ≤ cost c M := by
  have hl : m < (dp c A B).length := by rw [len_dp]; omega
  have := t.opt m
  rw [List.getElem?_eq_getElem hl] at this
  exact ⟨_, List.getElem?_eq_getElem hl, this⟩
theorem IsM.le (h : IsM A B M) : M.length ≤ min A.length B.length := by
  have h1 : (M.map (·.1)).length ≤ A.length := List.Nodup.length_le_of_subset h.n1 fun x hx => by
    obtain ⟨p, hp, rfl⟩ := List.mem_map.mp hx
    exact h.s1 p hp
  have h2 : (M.map (·.2)).length ≤ B.length := List.Nodup.length_le_of_subset h.n2 fun x hx => by
    obtain ⟨p, hp, rfl⟩ := List.mem_map.mp hx
    exact h.s2 p hp
  simp at h1 h2
  omega
/-- both matchings behind an exchange -/
theorem Ex.isM {M N : List (U × V)} (E : Ex M N) (hM : IsM A B M) (hN : IsM A B N) : IsM A B E.A' ∧ IsM A B E.B' := by
  have s : ∀ p, p ∈ E.A' ++ E.B' → p.1 ∈ A ∧ p.2 ∈ B := fun p hp => by
    rcases List.mem_append.mp (E.all.mem_iff.mp hp) with h | h
    · exact ⟨hM.s1 p h, hM.s2 p h⟩
    · exact ⟨hN.s1 p h, hN.s2 p h⟩
  refine ⟨⟨E.a1.nodup_iff.mpr (List.nodup_cons.mpr ⟨E.xn, hM.n1⟩), E.a2.nodup_iff.mpr (List.nodup_cons.mpr ⟨E.yn, hM.n2⟩), fun p hp => (s p (List.mem_append_left _ hp)).1, fun p hp => (s p (List.mem_append_left _ hp)).2⟩, ⟨?_, ?_, fun p hp => (s p (List.mem_append_right _ hp)).1, fun p hp => (s p (List.mem_append_right _ hp)).2⟩⟩
  · exact (List.nodup_cons.mp (E.b1.nodup_iff.mp hN.n1)).2
  · exact (List.nodup_cons.mp (E.b2.nodup_iff.mp hN.n2)).2
theorem Ex.cost {M N : List (U × V)} (E : Ex M N) : St.cost c E.A' + St.cost c E.B' = St.cost c M + St.cost c N := by rw [← cost_append, ← cost_append]; exact cost_perm E.all
theorem Ex.lenA {M N : List (U × V)} (E : Ex M N) : E.A'.length = M.length + 1 := by have := E.a1.length_eq; simpa using this
theorem Ex.lenB {M N : List (U × V)} (E : Ex M N) : E.B'.length + 1 = N.length := by have := E.b1.length_eq; simp at this; omega
theorem ex_of {M N : List (U × V)} (hM : IsM A B M) (hN : IsM A B N) (h : M.length < N.length) : Nonempty (Ex M N) := exchange _ M N rfl hM.n1 hM.n2 hN.n1 hN.n2 h
/-- the best matching of one pair more has all lines of a best one -/
theorem Tab.nest (t : Tab A B c) {M : List (U × V)} (hM : IsM A B M) (hb : (dp c A B)[M.length]? = some (cost c M)) (hl : M.length < min A.length B.length) :
    ∃ M' x y, IsM A B M' ∧ M'.length = M.length + 1 ∧ (dp c A B)[M.length + 1]? = some (cost c M') ∧ (M'.map (·.1)).Perm (x :: M.map (·.1)) ∧ (M'.map (·.2)).Perm (y :: M.map (·.2)) ∧ x ∉ M.map (·.1) ∧ y ∉ M.map (·.2) ∧ x ∈ A ∧ y ∈ B := by
  obtain ⟨v, hv, ⟨N, hN, lN, cN⟩, mN⟩ := t.at (m := M.length + 1) (by omega)
  obtain ⟨v0, hv0, _, m0⟩ := t.at (m := M.length) (by omega)
  rw [hb] at hv0
  cases hv0
  obtain ⟨E⟩ := ex_of hM hN (by omega)
  obtain ⟨h1, h2⟩ := E.isM hM hN
  have c1 := E.cost (c := c)
  have l1 := E.lenA
  have l2 := E.lenB
  have g1 := mN E.A' h1 (by omega)
  have g2 := m0 E.B' h2 (by omega)
  refine ⟨E.A', E.x, E.y, h1, by omega, ?_, E.a1, E.a2, E.xn, E.yn, ?_, ?_⟩
  · rw [hv]
    exact congrArg some (by omega)
  · obtain ⟨p, hp, e⟩ := List.mem_map.mp (E.a1.mem_iff.mpr List.mem_cons_self)
    exact e ▸ h1.s1 p hp
  · obtain ⟨p, hp, e⟩ := List.mem_map.mp (E.a2.mem_iff.mpr List.mem_cons_self)
    exact e ▸ h1.s2 p hp
/-- the costs of one pair more never fall -/
theorem Tab.convex (t : Tab A B c) {m : Nat} {u v w : Int} (h1 : (dp c A B)[m]? = some u) (h2 : (dp c A B)[m + 1]? = some v) (h3 : (dp c A B)[m + 2]? = some w) : v - u ≤ w - v := by
  have o1 := t.opt m
  have o2 := t.opt (m + 1)
  have o3 := t.opt (m + 2)
  rw [h1] at o1
  rw [h2] at o2
  rw [h3] at o3
  obtain ⟨⟨M, hM, lM, cM⟩, _⟩ := o1
  obtain ⟨⟨N, hN, lN, cN⟩, _⟩ := o3
  obtain ⟨E⟩ := ex_of hM hN (by omega)
  obtain ⟨g1, g2⟩ := E.isM hM hN
  have c1 := E.cost (c := c)
  have l1 := E.lenA
  have l2 := E.lenB
  have k1 := o2.2 E.A' g1 (by omega)
  have k2 := o2.2 E.B' g2 (by omega)
  omega
/-- the steps of one amount: days, the own and the other line that join -/
structure Joins (A : List U) (B : List V) (δ : U → V → Int) (p : U → Int) (q : V → Int) (unit : Int) (J : List (Int × U × V)) : Prop where
  n1 : (J.map (·.2.1)).Nodup
  n2 : (J.map (·.2.2)).Nodup
  s1 : ∀ j ∈ J, j.2.1 ∈ A
  s2 : ∀ j ∈ J, j.2.2 ∈ B
  best : ∀ k ≤ J.length, ∃ M, IsM A B M ∧ (M.map (·.1)).Perm ((J.take k).map (·.2.1)) ∧ (M.map (·.2)).Perm ((J.take k).map (·.2.2)) ∧ cost δ M = ((J.take k).map (·.1)).sum ∧ (dp (cw δ p q unit) A B)[k]? = some (cost (cw δ p q unit) M)
variable {δ : U → V → Int} {p : U → Int} {q : V → Int} {unit : Int}
theorem joins_upto (t : Tab A B (cw δ p q unit)) : ∀ k, k ≤ min A.length B.length → ∃ J : List (Int × U × V), J.length = k ∧ Joins A B δ p q unit J := by
  intro k
  induction k with
  | zero =>
    intro _
    refine ⟨[], rfl, by simp, by simp, by simp, by simp, ?_⟩
    intro k hk
    have hk : k = 0 := by simpa using hk
    subst hk
    refine ⟨[], IsM.nil, by simp, by simp, rfl, ?_⟩
    obtain ⟨v, hv, ⟨M, hM, lM, cM⟩, _⟩ := t.at (m := 0) (by omega)
    have : M = [] := List.length_eq_zero_iff.mp lM
    subst this
    rw [hv, ← cM]
  | succ k ih =>
    intro hk
    obtain ⟨J, lJ, hJ⟩ := ih (by omega)
    obtain ⟨M, hM, p1, p2, cd, hb⟩ := hJ.best k (by omega)
    rw [← lJ, List.take_length] at p1 p2 cd
    have lM : M.length = k := by have := p1.length_eq; simp at this; omega
    obtain ⟨M', x, y, hM', lM', hb', a1, a2, xn, yn, xA, yB⟩ := t.nest hM (by rw [lM]; exact hb) (by omega)
    have xJ : x ∉ J.map (·.2.1) := fun h => xn (p1.mem_iff.mpr h)
    have yJ : y ∉ J.map (·.2.2) := fun h => yn (p2.mem_iff.mpr h)
    refine ⟨J ++ [(cost δ M' - cost δ M, x, y)], by simp [lJ], ?_, ?_, ?_, ?_, ?_⟩
    · rw [List.map_append, List.nodup_append]
      exact ⟨hJ.n1, by simp, fun a ha b hb e => by simp at hb; subst hb; subst e; exact xJ ha⟩
    · rw [List.map_append, List.nodup_append]
      exact ⟨hJ.n2, by simp, fun a ha b hb e => by simp at hb; subst hb; subst e; exact yJ ha⟩
    · intro j hj
      rcases List.mem_append.mp hj with h | h
      · exact hJ.s1 j h
      · simp at h; subst h; exact xA
    · intro j hj
      rcases List.mem_append.mp hj with h | h
      · exact hJ.s2 j h
      · simp at h; subst h; exact yB
    · intro i hi
      by_cases e : i ≤ J.length
      · rw [List.take_append_of_le_length e]
        exact hJ.best i e
      · have e : i = J.length + 1 := by simp at hi; omega
        subst e
        rw [List.take_of_length_le (by simp)]
        refine ⟨M', hM', ?_, ?_, ?_, ?_⟩
        · rw [List.map_append]
          exact a1.trans ((List.Perm.cons x p1).trans (by simpa using (List.perm_append_singleton x (J.map (·.2.1))).symm))
        · rw [List.map_append]
          exact a2.trans ((List.Perm.cons y p2).trans (by simpa using (List.perm_append_singleton y (J.map (·.2.2))).symm))
        · rw [List.map_append, List.sum_append, ← cd]
          simp
          omega
        · rw [lJ, ← lM]; exact hb'
theorem Joins.step (h : Joins A B δ p q unit J) {k : Nat} {j : Int × U × V} (hj : J[k]? = some j) : ∃ u v, (dp (cw δ p q unit) A B)[k]? = some u ∧ (dp (cw δ p q unit) A B)[k + 1]? = some v ∧ v - u = j.1 * unit + p j.2.1 + q j.2.2 := by
  have hk := (List.getElem?_eq_some_iff.mp hj).1
  obtain ⟨M, hM, p1, p2, cd, hb⟩ := h.best k (by omega)
  obtain ⟨N, hN, q1, q2, ce, hc⟩ := h.best (k + 1) (by omega)
  refine ⟨_, _, hb, hc, ?_⟩
  have tk : J.take (k + 1) = J.take k ++ [j] := by rw [List.take_add_one, hj]; rfl
  rw [tk] at q1 q2 ce
  rw [cost_cw, cost_cw, sumU_perm p1, sumU_perm p2, sumU_perm q1, sumU_perm q2, cd, ce]
  simp only [List.map_append, sumU, List.sum_append, List.map_cons, List.map_nil, List.sum_cons, List.sum_nil, Int.add_zero, Int.add_mul]
  omega
/-- the differences of neighbours -/
def diffs (ns : List Int) : List Int := List.zipWith (fun a b => b - a) ns ns.tail
theorem Joins.diffs (h : Joins A B δ p q unit J) (hl : J.length = min A.length B.length) : diffs (dp (cw δ p q unit) A B) = J.map fun j => j.1 * unit + p j.2.1 + q j.2.2 := by
  apply List.ext_getElem?
  intro k
  unfold St.diffs
  rw [List.getElem?_zipWith, List.getElem?_map, List.getElem?_tail]
  cases e : J[k]? with
  | none =>
    have hk : J.length ≤ k := List.getElem?_eq_none_iff.mp e
    rw [List.getElem?_eq_none (l := dp (cw δ p q unit) A B) (i := k + 1) (by rw [len_dp]; omega)]
    cases (dp (cw δ p q unit) A B)[k]? <;> rfl
  | some j =>
    obtain ⟨u, v, h1, h2, h3⟩ := h.step e
    rw [h1, h2]
    exact congrArg some h3
end
/-! ### bits -/
theorem two_bits {i j k : Nat} (h : i ≠ j) : (2 ^ i + 2 ^ j) / 2 ^ k % 2 = 1 ↔ k = i ∨ k = j := by
  have key : ∀ a b : Nat, b < a → ((2 ^ a + 2 ^ b) / 2 ^ k % 2 = 1 ↔ k = a ∨ k = b) := by
    intro a b hab
    have e : 2 ^ a + 2 ^ b = 2 ^ a ||| 2 ^ b := by
      have := Nat.two_pow_add_eq_or_of_lt (i := a) (b := 2 ^ b) (Nat.pow_lt_pow_right (by decide) hab) 1
      simpa using this
    have t := Nat.testBit_eq_decide_div_mod_eq (x := 2 ^ a + 2 ^ b) (i := k)
    rw [e, Nat.testBit_or, Nat.testBit_two_pow, Nat.testBit_two_pow] at t
    rw [e]
    have t2 : ((2 ^ a ||| 2 ^ b) / 2 ^ k % 2 = 1) ↔ (decide (a = k) || decide (b = k)) = true := by rw [t]; simp
    rw [t2, Bool.or_eq_true, decide_eq_true_eq, decide_eq_true_eq]
    exact ⟨fun h => h.imp Eq.symm Eq.symm, fun h => h.imp Eq.symm Eq.symm⟩
  rcases Nat.lt_or_gt_of_ne h with g | g
  · rw [Nat.add_comm]
    exact (key j i g).trans or_comm
  · exact key i j g
theorem two_lt {i j n : Nat} (h : i ≠ j) (hi : i < n) (hj : j < n) : 2 ^ i + 2 ^ j < 2 ^ n := by
  rcases Nat.lt_or_gt_of_ne h with g | g
  · have h1 : 2 ^ i < 2 ^ j := Nat.pow_lt_pow_right (by decide) g
    have h2 : 2 ^ (j + 1) ≤ 2 ^ n := Nat.pow_le_pow_right (by decide) hj
    rw [Nat.pow_succ] at h2
    omega
  · have h1 : 2 ^ j < 2 ^ i := Nat.pow_lt_pow_right (by decide) g
    have h2 : 2 ^ (i + 1) ≤ 2 ^ n := Nat.pow_le_pow_right (by decide) hi
    rw [Nat.pow_succ] at h2
    omega
/-- the parts of an exact number -/
theorem exact_parts {d : Int} {i j n : Nat} (h : i ≠ j) (hi : i < n) (hj : j < n) : (d * 2 ^ n + 2 ^ i + 2 ^ j) / (2 ^ n : Int) = d ∧ ∀ k, (d * 2 ^ n + 2 ^ i + 2 ^ j) % (2 ^ n : Int) / 2 ^ k % 2 = 1 ↔ k = i ∨ k = j := by
  have lt := two_lt h hi hj
  have e1 : d * 2 ^ n + 2 ^ i + 2 ^ j = ((2 ^ i + 2 ^ j : Nat) : Int) + d * ((2 ^ n : Nat) : Int) := by push_cast; omega
  have pos : (0 : Int) < ((2 ^ n : Nat) : Int) := by have := Nat.two_pow_pos n; omega
  have e2 : ((2 : Int) ^ n) = ((2 ^ n : Nat) : Int) := by push_cast; rfl
  rw [e2] at e1 ⊢
  have e3 : (d * ((2 ^ n : Nat) : Int) + 2 ^ i + 2 ^ j) = ((2 ^ i + 2 ^ j : Nat) : Int) + d * ((2 ^ n : Nat) : Int) := by push_cast; omega
  rw [e3]
  have nn : (0 : Int) ≤ ((2 ^ i + 2 ^ j : Nat) : Int) := Int.natCast_nonneg _
  have lt' : ((2 ^ i + 2 ^ j : Nat) : Int) < ((2 ^ n : Nat) : Int) := Int.ofNat_lt.mpr lt
  refine ⟨?_, fun k => ?_⟩
  · rw [Int.add_mul_ediv_right _ _ (by omega), Int.ediv_eq_zero_of_lt nn lt']
    omega
  · rw [Int.add_mul_emod_self_right, Int.emod_eq_of_lt nn lt']
    rw [← two_bits h (k := k)]
    have e4 : ((2 ^ i + 2 ^ j : Nat) : Int) / 2 ^ k % 2 = (((2 ^ i + 2 ^ j) / 2 ^ k % 2 : Nat) : Int) := by push_cast; rfl
    rw [e4]
    omega
end St
end Ml

/-! Ml32: what the steps' functions compute, in plain words; nested tuples sorted. -/
namespace Ml
open PySem L2 PySem.W PySem.Calls PyProof.Rows
/-- a line with its book: true: the own one -/
abbrev Sl := Bool × Ln
def wd (s : Bool) : Str := if s = true then "own" else "other"
def sdI (s : Bool) : Int := if s = true then 0 else 1
def slK (x : Sl) : List Int := [x.2.2.1, sdI x.1, x.2.1, x.2.1, x.2.2.1, x.2.2.2]
def rkD (x : Sl) : Dt := .tup [.int x.2.2.1, .int (sdI x.1), .int x.2.1, lnD x.2]
def slD (x : Sl) : Dt := .tup [.str (wd x.1), lnD x.2]
def rkP (x : Sl) : PyData := .tuple [.int x.2.2.1, .int (sdI x.1), .int x.2.1, lnP x.2]
theorem pyd_rk (x : Sl) : pyd (rkD x) = rkP x := rfl
theorem lex_int (a b : Int) (X Y' : List PyData) : PyProof.Rows.lexLt itemOrd (keyToksAll (.int a :: X)) (keyToksAll (.int b :: Y')) = if a = b then PyProof.Rows.lexLt itemOrd (keyToksAll X) (keyToksAll Y') else decide (a < b) := by
  by_cases e : a = b
  · subst e
    rw [if_pos rfl]
    exact dataLt_all_yes (by rfl) (by simp [PyData.eqv])
  · rw [if_neg e, dataLt_all_no (by rfl) (by simp [PyData.eqv, e]), dataLt_int]
theorem lex_lnP (a b : Ln) : PyProof.Rows.lexLt itemOrd (keyToksAll [lnP a]) (keyToksAll [lnP b]) = !lexLe (lnL b) (lnL a) := by
  have key := toks_lt (lnL a) (lnL b)
  by_cases e : a = b
  · subst e
    rw [dataLt_all_yes (by rfl) (by rw [eqv_lnP]; simp)]
    have h : lexLe (lnL a) (lnL a) = true := by simp [lnL, lexLe]
    rw [h]
    decide
  · rw [dataLt_all_no (by rfl) (by rw [eqv_lnP]; simp [e])]
    show dataLt (.tuple ((lnL a).map .int)) (.tuple ((lnL b).map .int)) = _
    rw [dataLt_tuple, key]
theorem dataLe_rk (a b : Sl) : dataLe false pyd (rkD a) (rkD b) = lexLe (slK a) (slK b) := by
  rw [dataLe_eq]
  show (!dataLt (pyd (rkD b)) (pyd (rkD a))) = _
  rw [pyd_rk, pyd_rk]
  unfold rkP
  rw [dataLt_tuple, lex_int, lex_int, lex_int, lex_lnP]
  unfold slK lnL
  simp only [lexLe]
  by_cases h1 : a.2.2.1 = b.2.2.1
  · rw [if_pos h1, if_pos h1.symm]
    by_cases h2 : sdI a.1 = sdI b.1
    · rw [if_pos h2, if_pos h2.symm]
      by_cases h3 : a.2.1 = b.2.1
      · simp [h3, h1]
      · rw [if_neg h3, if_neg (Ne.symm h3)]
        by_cases g : a.2.1 < b.2.1
        · have g2 : ¬ b.2.1 < a.2.1 := by omega
          simp [g, g2, h1]
        · have g2 : b.2.1 < a.2.1 := by omega
          simp [g, g2, h1]
    · rw [if_neg h2, if_neg (Ne.symm h2)]
      by_cases g : sdI a.1 < sdI b.1
      · have g2 : ¬ sdI b.1 < sdI a.1 := by omega
        simp [g, g2, h1]
      · have g2 : sdI b.1 < sdI a.1 := by omega
        simp [g, g2, h1]
  · rw [if_neg h1, if_neg (Ne.symm h1)]
    by_cases g : a.2.2.1 < b.2.2.1
    · have g2 : ¬ b.2.2.1 < a.2.2.1 := by omega
      simp [g, g2, h1]
    · have g2 : b.2.2.1 < a.2.2.1 := by omega
      simp [g, g2, h1]
theorem sorts_rk (xs : List Sl) (h : xs.length ≤ 1000000) : Sorts (xs.map rkD) where
  py := fun d hd => by obtain ⟨x, _, rfl⟩ := List.mem_map.mp hd; rfl
  al := by rw [List.map_map]; exact AllAlike.of (enc := fun x => pyd (rkD x)) fun _ _ => rfl
  ok := .inl fun d hd => by
    obtain ⟨e, he, rfl⟩ := List.mem_map.mp hd
    obtain ⟨x, _, rfl⟩ := List.mem_map.mp he
    exact ⟨_, _, rfl⟩
  dp := fun d hd => by
    obtain ⟨x, _, rfl⟩ := List.mem_map.mp hd
    show (rkP x).depth ≤ 50
    simp [rkP, lnP, PyData.depth, PyData.depthAll]
  len := by rw [List.length_map]; exact h
def sortSl (xs : List Sl) : List Sl := xs.mergeSort fun a b => lexLe (slK a) (slK b)
theorem sortD_rk (xs : List Sl) : sortD (xs.map rkD) = (sortSl xs).map rkD := sortD_map _ _ fun a _ b _ => (dataLe_rk a b).symm
/-- the lines of both books in their sequence -/
def seqF (own other : List Ln) : List Sl := sortSl (own.map (fun l => (true, l)) ++ other.map (fun l => (false, l)))
/-- the key of a line -/
def ky (x : Sl) : List Key := [.inr (wd x.1), .inl x.2.1]
/-- the weights, as a dict -/
def wkvs (sq : List Sl) : List (List Key × Dt) := sq.zipIdx.map fun p => (ky p.1, .int (2 ^ p.2))
/-- a line's weight -/
def wOf (sq : List Sl) (s : Bool) (i : Int) : Int := match valD (wkvs sq) [.inr (wd s), .inl i] with
  | some (.int n) => n
  | _ => 0
/-- distinct, in the sequence of their first places -/
def ddI (ns : List Int) : List Int := ns.foldl (fun acc n => if n ∈ acc then acc else acc ++ [n]) []
def amtsF (own other : List Ln) : List Int := sortI (ddI ((own.filter fun l => decide (l.2.2 ∈ other.map (·.2.2))).map (·.2.2)))
def linesF (book : List Ln) (a : Int) : List Ln := (sortPr ((book.filter fun l => decide (l.2.2 = a)).map fun l => (l.2.1, l.1))).map fun p => (p.2, p.1, a)
def absI (i : Int) : Int := if i < 0 then -i else i
/-- the exact cost of two lines (day, weight) -/
def cst (unit : Int) (x y : Pr) : Int := absI (x.1 - y.1) * unit + x.2 + y.2
def sideW (sq : List Sl) (s : Bool) (book : List Ln) (a : Int) : List Pr := (linesF book a).map fun l => (l.2.1, wOf sq s l.1)
def numsF (own other : List Ln) (a : Int) : List Int := St.dp (cst (2 ^ (seqF own other).length)) (sideW (seqF own other) true own a).reverse (sideW (seqF own other) false other a).reverse
def exactF (own other : List Ln) : List Int := sortI ((amtsF own other).flatMap fun a => St.diffs (numsF own other a))
/-- the lines whose bits a number has -/
def keysOf (sq : List Sl) (n : Int) : List Sl := (sq.zipIdx.filter fun p => decide (n % 2 ^ sq.length / 2 ^ p.2 % 2 = 1)).map (·.1)
def dec : List Sl → Int × Int
  | [(true, a), (false, b)] => (a.1, b.1)
  | [(false, b), (true, a)] => (a.1, b.1)
  | _ => (0, 0)
def stepsF (own other : List Ln) : List Ln := (exactF own other).map fun n => (n / 2 ^ (seqF own other).length, dec (keysOf (seqF own other) n))
def chosenF (book : List Ln) (is : List Int) : List Ln := book.filter fun l => decide (l.1 ∈ is)
def unpF (owns others : List Ln) : Option Int := (sortI (ddI ((owns ++ others).map (·.2.2)))).find? fun a => !decide ((linesF owns a).length = (linesF others a).length)
def inSeqF (owns others : List Ln) : List Pr := sortPr ((ddI (owns.map (·.2.2))).flatMap fun a => ((linesF owns a).zip (linesF others a)).map fun p => (p.1.1, p.2.1))
def pairsAtF (own other : List Ln) (cap : Int) : Nat := ((stepsF own other).filter fun r => decide (r.1 ≤ cap)).length
def bestF (own other : List Ln) (n : Nat) : List Pr := inSeqF (chosenF own (((stepsF own other).take n).map (·.2.1))) (chosenF other (((stepsF own other).take n).map (·.2.2)))
def openOwn (s : Stt) : List Ln := s.own.filter fun l => !decide (l.1 ∈ s.fixed.map (·.1))
def openOther (s : Stt) : List Ln := s.other.filter fun l => !decide (l.1 ∈ s.fixed.map (·.2))
def matchedF (s : Stt) : List Pr := bestF (openOwn s) (openOther s) (pairsAtF (openOwn s) (openOther s) s.cap)
/-! ### dicts of distinct keys -/
theorem putKD_new {κ : Type} [DecidableEq κ] {kvs : List (κ × Dt)} {k : κ} {v : Dt} (h : k ∉ kvs.map (·.1)) : putKD kvs k v = kvs ++ [(k, v)] := by
  unfold putKD
  rw [if_neg]
  intro e
  obtain ⟨p, hp, e2⟩ := List.any_eq_true.mp e
  exact h (List.mem_map.mpr ⟨p, hp, of_decide_eq_true e2⟩)
theorem merge_dd (v : Dt) : ∀ (ns acc : List Int), mergeD (acc.map fun n => ((.inl n : Key), v)) (ns.map fun n => ((.inl n : Key), v)) = (ns.foldl (fun acc n => if n ∈ acc then acc else acc ++ [n]) acc).map fun n => ((.inl n : Key), v)
  | [], acc => rfl
  | n :: ns, acc => by
    show mergeD (putKD (acc.map _) (.inl n) v) (ns.map _) = _
    rw [List.foldl_cons]
    by_cases h : n ∈ acc
    · rw [if_pos h, ← merge_dd v ns acc]
      congr 1
      unfold putKD
      rw [if_pos (List.any_eq_true.mpr ⟨(.inl n, v), List.mem_map.mpr ⟨n, h, rfl⟩, by simp⟩), List.map_map]
      apply List.map_congr_left
      intro m _
      show (if (Sum.inl m : Key) = .inl n then (Sum.inl m, v) else (Sum.inl m, v)) = _
      split <;> rfl
    · rw [if_neg h, ← merge_dd v ns (acc ++ [n]), putKD_new, List.map_append]
      · rfl
      · rw [List.map_map]
        intro z
        obtain ⟨m, hm, e⟩ := List.mem_map.mp z
        cases e
        exact h hm
theorem merge_ddI (v : Dt) (ns : List Int) : mergeD [] (ns.map fun n => ((.inl n : Key), v)) = (ddI ns).map fun n => ((.inl n : Key), v) := merge_dd v ns []
theorem dd_go : ∀ (ns acc : List Int), acc.Nodup → (ns.foldl (fun acc n => if n ∈ acc then acc else acc ++ [n]) acc).Nodup ∧ ∀ x, x ∈ ns.foldl (fun acc n => if n ∈ acc then acc else acc ++ [n]) acc ↔ x ∈ acc ∨ x ∈ ns
  | [], acc, h => ⟨h, fun x => by simp⟩
  | n :: ns, acc, h => by
    rw [List.foldl_cons]
    by_cases e : n ∈ acc
    · rw [if_pos e]
      obtain ⟨h1, h2⟩ := dd_go ns acc h
      refine ⟨h1, fun x => ?_⟩
      rw [h2, List.mem_cons]
      constructor
      · rintro (h | h)
        · exact .inl h
        · exact .inr (.inr h)
      · rintro (h | rfl | h)
        · exact .inl h
        · exact .inl e
        · exact .inr h
    · rw [if_neg e]
      obtain ⟨h1, h2⟩ := dd_go ns (acc ++ [n]) (List.nodup_append.mpr ⟨h, by simp, fun a ha b hb => by
        rw [List.mem_singleton] at hb
        subst hb
        exact fun z => e (z ▸ ha)⟩)
      refine ⟨h1, fun x => ?_⟩
      rw [h2, List.mem_cons, List.mem_append, List.mem_singleton, or_assoc]
theorem ddI_nodup (ns : List Int) : (ddI ns).Nodup := (dd_go ns [] List.nodup_nil).1
theorem mem_ddI {ns : List Int} {x : Int} : x ∈ ddI ns ↔ x ∈ ns := by
  have := (dd_go ns [] List.nodup_nil).2 x
  simpa [ddI] using this
theorem ddI_len (ns : List Int) : (ddI ns).length ≤ ns.length := (ddI_nodup ns).length_le_of_subset fun x h => mem_ddI.mp h
theorem valD_app {κ : Type} [DecidableEq κ] {a b : List (κ × Dt)} {k : κ} (h : k ∉ a.map (·.1)) : valD (a ++ b) k = valD b k := by
  unfold valD
  rw [List.find?_append]
  have : (a.find? fun kv => decide (kv.1 = k)) = none := List.find?_eq_none.mpr fun p hp e => h (List.mem_map.mpr ⟨p, hp, of_decide_eq_true e⟩)
  rw [this]
  rfl
theorem wkvs_keys (sq : List Sl) : (wkvs sq).map (·.1) = sq.map ky := by
  unfold wkvs
  rw [List.map_map]
  show sq.zipIdx.map (ky ∘ (·.1)) = _
  rw [← List.map_map, List.zipIdx_map_fst]
theorem wkvs_take {sq : List Sl} {i : Nat} {x : Sl} (h : sq[i]? = some x) : wkvs (sq.take (i + 1)) = wkvs (sq.take i) ++ [(ky x, .int (2 ^ i))] := by
  unfold wkvs
  have hi := (List.getElem?_eq_some_iff.mp h).1
  rw [List.take_add_one, h, List.zipIdx_append, List.map_append]
  have : (sq.take i).length = i := by rw [List.length_take]; omega
  simp [this]
theorem valD_wkvs {sq : List Sl} (hn : (sq.map ky).Nodup) {i : Nat} {x : Sl} (h : sq[i]? = some x) : valD (wkvs sq) (ky x) = some (.int (2 ^ i)) := by
  have e : wkvs sq = wkvs (sq.take i) ++ ((ky x, .int (2 ^ i)) :: ((sq.drop (i + 1)).zipIdx (i + 1)).map fun p => (ky p.1, .int (2 ^ p.2))) := by
    have hi := (List.getElem?_eq_some_iff.mp h).1
    have hx : sq[i] = x := (List.getElem?_eq_some_iff.mp h).2
    have es : sq = sq.take i ++ (x :: sq.drop (i + 1)) := by
      rw [← hx, List.getElem_cons_drop, List.take_append_drop]
    have hl : (sq.take i).length = i := by rw [List.length_take]; omega
    unfold wkvs
    conv => lhs; rw [es]
    rw [List.zipIdx_append, List.map_append, hl, Nat.zero_add, List.zipIdx_cons, List.map_cons]
  have hk : ky x ∉ (wkvs (sq.take i)).map (·.1) := by
    rw [wkvs_keys]
    intro z
    have hi := (List.getElem?_eq_some_iff.mp h).1
    have hx : sq[i] = x := (List.getElem?_eq_some_iff.mp h).2
    have es : sq = sq.take i ++ (x :: sq.drop (i + 1)) := by
      rw [← hx, List.getElem_cons_drop, List.take_append_drop]
    rw [es, List.map_append, List.map_cons, List.nodup_append] at hn
    exact hn.2.2 _ z _ List.mem_cons_self rfl
  rw [e, valD_app hk]
  unfold valD
  simp
theorem wOf_at {sq : List Sl} (hn : (sq.map ky).Nodup) {i : Nat} {s : Bool} {l : Ln} (h : sq[i]? = some (s, l)) : wOf sq s l.1 = 2 ^ i := by
  unfold wOf
  have := valD_wkvs hn h
  unfold ky at this
  rw [this]
end Ml

/-! Ml33: the steps are well made: each joins one own and one other line. -/
namespace Ml
open PySem L2 PySem.W PySem.Calls PyProof.Rows
structure StOk (own other : List Ln) : Prop where
  n1 : (ids own).Nodup
  n2 : (ids other).Nodup
  l1 : own.length ≤ 63
  l2 : other.length ≤ 63
  d1 : ∀ l ∈ own, -(2 ^ 59) ≤ l.2.1 ∧ l.2.1 ≤ 2 ^ 59
  d2 : ∀ l ∈ other, -(2 ^ 59) ≤ l.2.1 ∧ l.2.1 ≤ 2 ^ 59
theorem seq_len {own other : List Ln} : (seqF own other).length = own.length + other.length := by
  unfold seqF sortSl
  rw [(List.mergeSort_perm _ _).length_eq, List.length_append, List.length_map, List.length_map]
theorem seq_perm {own other : List Ln} : (seqF own other).Perm (own.map (fun l => (true, l)) ++ other.map (fun l => (false, l))) := List.mergeSort_perm _ _
theorem ky_nodup {own other : List Ln} (h1 : (ids own).Nodup) (h2 : (ids other).Nodup) : ((seqF own other).map ky).Nodup := by
  rw [(seq_perm.map ky).nodup_iff, List.map_append, List.map_map, List.map_map]
  have inj : ∀ (s : Bool) (ls : List Ln), (ids ls).Nodup → (ls.map (ky ∘ fun l => (s, l))).Nodup := fun s ls h => by
    have e : ls.map (ky ∘ fun l => (s, l)) = (ids ls).map fun i => ([.inr (wd s), .inl i] : List Key) := by
      unfold ids
      rw [List.map_map]; rfl
    rw [e]
    exact List.Pairwise.map _ (fun a b hab z => hab (by simpa using z)) h
  refine List.nodup_append.mpr ⟨inj true own h1, inj false other h2, fun a ha b hb => ?_⟩
  obtain ⟨x, _, rfl⟩ := List.mem_map.mp ha
  obtain ⟨y, _, rfl⟩ := List.mem_map.mp hb
  intro z
  have z' : ([.inr (wd true), .inl x.1] : List Key) = [.inr (wd false), .inl y.1] := z
  have : wd true = wd false := by simpa using (List.cons.inj z').1
  exact absurd this (by decide)
theorem seq_mem {own other : List Ln} {s : Bool} {l : Ln} : (s, l) ∈ seqF own other ↔ (if s = true then l ∈ own else l ∈ other) := by
  rw [seq_perm.mem_iff, List.mem_append, List.mem_map, List.mem_map]
  cases s with
  | true => simp
  | false => simp
theorem mem_linesF {book : List Ln} {a : Int} {l : Ln} : l ∈ linesF book a ↔ l ∈ book ∧ l.2.2 = a := by
  unfold linesF
  rw [List.mem_map]
  constructor
  · rintro ⟨p, hp, rfl⟩
    rw [(sortPr_perm _).mem_iff, List.mem_map] at hp
    obtain ⟨m, hm, rfl⟩ := hp
    rw [List.mem_filter] at hm
    have e : m.2.2 = a := of_decide_eq_true hm.2
    have : ((m.2.1, m.1).2, (m.2.1, m.1).1, a) = m := by rw [← e]
    rw [this]
    exact ⟨hm.1, e⟩
  · rintro ⟨h1, h2⟩
    refine ⟨(l.2.1, l.1), ?_, by rw [← h2]⟩
    rw [(sortPr_perm _).mem_iff, List.mem_map]
    exact ⟨l, List.mem_filter.mpr ⟨h1, by simp [h2]⟩, rfl⟩
theorem linesF_len {book : List Ln} {a : Int} : (linesF book a).length ≤ book.length := by
  unfold linesF
  rw [List.length_map, (sortPr_perm _).length_eq, List.length_map]
  exact List.length_filter_le _ _
theorem wOf_own {own other : List Ln} (h : StOk own other) {l : Ln} (hl : l ∈ own) : valD (wkvs (seqF own other)) [.inr (wd true), .inl l.1] = some (.int (wOf (seqF own other) true l.1)) := by
  obtain ⟨i, hi⟩ := List.mem_iff_getElem?.mp (seq_mem (own := own) (other := other) (s := true) (l := l) |>.mpr hl)
  rw [wOf_at (ky_nodup h.n1 h.n2) hi]
  exact valD_wkvs (ky_nodup h.n1 h.n2) hi
theorem wOf_other {own other : List Ln} (h : StOk own other) {l : Ln} (hl : l ∈ other) : valD (wkvs (seqF own other)) [.inr (wd false), .inl l.1] = some (.int (wOf (seqF own other) false l.1)) := by
  obtain ⟨i, hi⟩ := List.mem_iff_getElem?.mp (seq_mem (own := own) (other := other) (s := false) (l := l) |>.mpr hl)
  rw [wOf_at (ky_nodup h.n1 h.n2) hi]
  exact valD_wkvs (ky_nodup h.n1 h.n2) hi
theorem wkvs_len (sq : List Sl) : (wkvs sq).length = sq.length := by simp [wkvs]
theorem ky_fresh {sq : List Sl} (hn : (sq.map ky).Nodup) {i : Nat} {x : Sl} (h : sq[i]? = some x) : ky x ∉ (wkvs (sq.take i)).map (·.1) := by
  rw [wkvs_keys]
  intro z
  have hi := (List.getElem?_eq_some_iff.mp h).1
  have hx : sq[i] = x := (List.getElem?_eq_some_iff.mp h).2
  have es : sq = sq.take i ++ (x :: sq.drop (i + 1)) := by
    rw [← hx, List.getElem_cons_drop, List.take_append_drop]
  rw [es, List.map_append, List.map_cons, List.nodup_append] at hn
  exact hn.2.2 _ z _ List.mem_cons_self rfl
theorem amts_len {own other : List Ln} : (amtsF own other).length ≤ own.length := by
  unfold amtsF
  rw [(sortI_perm _).length_eq]
  refine Nat.le_trans (ddI_len _) ?_
  rw [List.length_map]
  exact List.length_filter_le _ _
theorem diffs_len (ns : List Int) : (St.diffs ns).length ≤ ns.length := by
  unfold St.diffs
  rw [List.length_zipWith]
  omega
theorem nums_len {own other : List Ln} {a : Int} : (numsF own other a).length ≤ own.length + 1 := by
  unfold numsF
  rw [St.dp_length _ _ _ rfl, List.length_reverse]
  unfold sideW
  rw [List.length_map]
  have := linesF_len (book := own) (a := a)
  omega
theorem zip_diffs (ns : List Int) : (ns.zip (ns.drop 1)).map (fun p => p.2 - p.1) = St.diffs ns := by
  rw [List.drop_one, List.zip, List.map_zipWith]
  rfl
theorem flat_len {own other : List Ln} (as : List Int) : (as.flatMap fun a => St.diffs (numsF own other a)).length ≤ as.length * (own.length + 1) := by
  induction as with
  | nil => simp
  | cons a as ih =>
    have h1 := diffs_len (numsF own other a)
    have h2 := nums_len (own := own) (other := other) (a := a)
    rw [List.flatMap_cons, List.length_append, List.length_cons, Nat.succ_mul]
    omega
theorem exact_len {own other : List Ln} (h : StOk own other) : (exactF own other).length ≤ 4032 := by
  unfold exactF
  rw [(sortI_perm _).length_eq]
  have h1 := flat_len (own := own) (other := other) (amtsF own other)
  have h2 := amts_len (own := own) (other := other)
  have l1 := h.l1
  have h4 := Nat.mul_le_mul (show (amtsF own other).length ≤ 63 by omega) (show own.length + 1 ≤ 64 by omega)
  omega
theorem steps_len {own other : List Ln} (h : StOk own other) : (stepsF own other).length ≤ 4032 := by
  unfold stepsF
  rw [List.length_map]
  exact exact_len h
theorem dp_map {U V U' V' : Type} (c : U' → V' → Int) (f : U → U') (g : V → V') : ∀ (n : Nat) (A : List U) (B : List V), A.length + B.length = n → St.dp c (A.map f) (B.map g) = St.dp (fun a b => c (f a) (g b)) A B := by
  intro n
  induction n using Nat.strongRecOn with
  | _ n ih =>
    intro A B hn
    cases A with
    | nil => rw [List.map_nil, St.dp, St.dp]
    | cons a A =>
      cases B with
      | nil => rw [List.map_nil, List.map_cons, St.dp, St.dp]
      | cons b B =>
        rw [List.map_cons, List.map_cons, St.dp, St.dp]
        simp only [List.length_cons] at hn
        have i1 := ih (A.length + (B.length + 1)) (by omega) A (b :: B) (by simp)
        have i2 := ih (A.length + 1 + B.length) (by omega) (a :: A) B (by simp)
        have i3 := ih (A.length + B.length) (by omega) A B rfl
        rw [List.map_cons] at i1 i2
        rw [i1, i2, i3]
theorem linesF_perm {book : List Ln} {a : Int} : (linesF book a).Perm (book.filter fun l => decide (l.2.2 = a)) := by
  unfold linesF
  refine ((sortPr_perm _).map _).trans ?_
  rw [List.map_map]
  have : ((book.filter fun l => decide (l.2.2 = a)).map ((fun p : Pr => (p.2, p.1, a)) ∘ fun l : Ln => (l.2.1, l.1))) = book.filter fun l => decide (l.2.2 = a) := by
    conv => rhs; rw [← List.map_id (book.filter _)]
    apply List.map_congr_left
    intro l hl
    have e : l.2.2 = a := of_decide_eq_true (List.mem_filter.mp hl).2
    show (l.1, l.2.1, a) = l
    rw [← e]
  rw [this]
theorem ln_nodup {book : List Ln} (h : (ids book).Nodup) : book.Nodup := (show List.Pairwise (fun a b : Ln => a.1 ≠ b.1) book from List.pairwise_map.mp h).imp fun {a b} hab e => hab (by rw [e])
theorem linesF_nodup {book : List Ln} (h : (ids book).Nodup) {a : Int} : (linesF book a).Nodup := (linesF_perm.nodup_iff).mpr ((ln_nodup h).filter _)
theorem linesF_days {book : List Ln} {a : Int} : (linesF book a).Pairwise fun x y => x.2.1 ≤ y.2.1 := by
  unfold linesF
  rw [List.pairwise_map]
  refine (sortF_pw prL _).imp ?_
  intro x y hxy
  simp only [prL, lexLe] at hxy
  show x.1 ≤ y.1
  split at hxy
  · omega
  · have := of_decide_eq_true hxy; omega
theorem absI_monge {x y a b : Int} (h1 : a ≤ x) (h2 : b ≤ y) : absI (x - y) + absI (a - b) ≤ absI (x - b) + absI (a - y) := by
  unfold absI
  split <;> split <;> split <;> split <;> omega
abbrev dlt (l m : Ln) : Int := absI (l.2.1 - m.2.1)
theorem tab_of {own other : List Ln} (h1 : (ids own).Nodup) (h2 : (ids other).Nodup) (a : Int) (p q : Ln → Int) (N : Nat) : St.Tab (linesF own a).reverse (linesF other a).reverse (St.cw dlt p q (2 ^ N)) where
  nA := ((List.reverse_perm _).nodup_iff).mpr (linesF_nodup h1)
  nB := ((List.reverse_perm _).nodup_iff).mpr (linesF_nodup h2)
  un := fun x A' y B' hx hy a' ha b' hb => by
    have px : (x :: A').Pairwise fun u v => v.2.1 ≤ u.2.1 := (List.pairwise_reverse.mpr linesF_days).sublist hx.sublist
    have py : (y :: B').Pairwise fun u v => v.2.1 ≤ u.2.1 := (List.pairwise_reverse.mpr linesF_days).sublist hy.sublist
    have g1 := (List.pairwise_cons.mp px).1 a' ha
    have g2 := (List.pairwise_cons.mp py).1 b' hb
    have m := absI_monge g1 g2
    have pos : (0 : Int) ≤ 2 ^ N := Int.le_of_lt (Int.pow_pos (by decide))
    have m2 := Int.mul_le_mul_of_nonneg_right m pos
    rw [Int.add_mul, Int.add_mul] at m2
    unfold St.cw dlt
    omega
/-- the number of a step -/
def valJ (sq : List Sl) (j : Int × Ln × Ln) : Int := j.1 * 2 ^ sq.length + wOf sq true j.2.1.1 + wOf sq false j.2.2.1
theorem joins_amt {own other : List Ln} (h : StOk own other) (a : Int) : ∃ J : List (Int × Ln × Ln), St.diffs (numsF own other a) = J.map (valJ (seqF own other)) ∧ (J.map (·.2.1)).Nodup ∧ (J.map (·.2.2)).Nodup ∧ (∀ j ∈ J, j.2.1 ∈ linesF own a) ∧ ∀ j ∈ J, j.2.2 ∈ linesF other a := by
  have t := tab_of h.n1 h.n2 a (fun l => wOf (seqF own other) true l.1) (fun l => wOf (seqF own other) false l.1) (seqF own other).length
  obtain ⟨J, hl, hJ⟩ := St.joins_upto t _ (Nat.le_refl _)
  have d := hJ.diffs hl
  have e : numsF own other a = St.dp (St.cw dlt (fun l => wOf (seqF own other) true l.1) (fun l => wOf (seqF own other) false l.1) (2 ^ (seqF own other).length)) (linesF own a).reverse (linesF other a).reverse := by
    unfold numsF sideW
    rw [← List.map_reverse, ← List.map_reverse]
    exact dp_map _ _ _ _ _ _ rfl
  refine ⟨J, by rw [e]; exact d, hJ.n1, hJ.n2, fun j hj => List.mem_reverse.mp (hJ.s1 j hj), fun j hj => List.mem_reverse.mp (hJ.s2 j hj)⟩
theorem pw_ne {α : Type} {l : List α} (h : l.Nodup) : l.Pairwise fun a b => a ≠ b := h
theorem steps_joins {own other : List Ln} (h : StOk own other) : ∃ J : List (Int × Ln × Ln), exactF own other = J.map (valJ (seqF own other)) ∧ (J.map (·.2.1)).Nodup ∧ (J.map (·.2.2)).Nodup ∧ ∀ j ∈ J, j.2.1 ∈ own ∧ j.2.2 ∈ other ∧ j.2.1.2.2 = j.2.2.2.2 := by
  let Ja : Int → List (Int × Ln × Ln) := fun a => (joins_amt h a).choose
  have ha : ∀ a, St.diffs (numsF own other a) = (Ja a).map (valJ (seqF own other)) ∧ ((Ja a).map (·.2.1)).Nodup ∧ ((Ja a).map (·.2.2)).Nodup ∧ (∀ j ∈ Ja a, j.2.1 ∈ linesF own a) ∧ ∀ j ∈ Ja a, j.2.2 ∈ linesF other a := fun a => (joins_amt h a).choose_spec
  let JJ := (amtsF own other).flatMap Ja
  have mem : ∀ j ∈ JJ, ∃ a, j ∈ Ja a ∧ j.2.1 ∈ own ∧ j.2.2 ∈ other ∧ j.2.1.2.2 = a ∧ j.2.2.2.2 = a := fun j hj => by
    obtain ⟨a, _, hja⟩ := List.mem_flatMap.mp hj
    obtain ⟨_, _, _, s1, s2⟩ := ha a
    have m1 := mem_linesF.mp (s1 j hja)
    have m2 := mem_linesF.mp (s2 j hja)
    exact ⟨a, hja, m1.1, m2.1, m1.2, m2.2⟩
  have nda : (amtsF own other).Nodup := ((sortI_perm _).nodup_iff).mpr (ddI_nodup _)
  have n1 : (JJ.map (·.2.1)).Nodup := by
    show List.Pairwise _ _
    rw [List.pairwise_map, List.pairwise_flatMap]
    refine ⟨fun a _ => List.pairwise_map.mp (ha a).2.1, nda.imp fun {a b} hab x hx y hy e => hab ?_⟩
    have m1 := (mem_linesF.mp ((ha a).2.2.2.1 x hx)).2
    have m2 := (mem_linesF.mp ((ha b).2.2.2.1 y hy)).2
    rw [← m1, ← m2, e]
  have n2 : (JJ.map (·.2.2)).Nodup := by
    show List.Pairwise _ _
    rw [List.pairwise_map, List.pairwise_flatMap]
    refine ⟨fun a _ => List.pairwise_map.mp (ha a).2.2.1, nda.imp fun {a b} hab x hx y hy e => hab ?_⟩
    have m1 := (mem_linesF.mp ((ha a).2.2.2.2 x hx)).2
    have m2 := (mem_linesF.mp ((ha b).2.2.2.2 y hy)).2
    rw [← m1, ← m2, e]
  have ev : ((amtsF own other).flatMap fun a => St.diffs (numsF own other a)) = JJ.map (valJ (seqF own other)) := by
    rw [List.map_flatMap]
    congr 1
    funext a
    exact (ha a).1
  let J := JJ.mergeSort fun x y => decide (valJ (seqF own other) x ≤ valJ (seqF own other) y)
  have pJ : J.Perm JJ := List.mergeSort_perm _ _
  have sJ : (J.map (valJ (seqF own other))).Pairwise (· ≤ ·) := by
    rw [List.pairwise_map]
    have := List.pairwise_mergeSort (le := fun x y => decide (valJ (seqF own other) x ≤ valJ (seqF own other) y)) (fun a b c h1 h2 => by simp at h1 h2 ⊢; omega) (fun a b => by simp; omega) JJ
    exact this.imp fun h => by simpa using h
  refine ⟨J, ?_, ((pJ.map _).nodup_iff).mpr n1, ((pJ.map _).nodup_iff).mpr n2, fun j hj => ?_⟩
  · unfold exactF
    rw [ev]
    exact (sortI_eq (pJ.map _) sJ).symm
  · obtain ⟨a, _, m1, m2, m3, m4⟩ := mem j (pJ.mem_iff.mp hj)
    exact ⟨m1, m2, m3.trans m4.symm⟩
/-! ### the bits of a step -/
def pick (sq : List Sl) (o i k : Nat) : List Sl := ((sq.zipIdx o).filter fun p => decide (p.2 = i ∨ p.2 = k)).map (·.1)
theorem pick_no {i k : Nat} : ∀ (sq : List Sl) (o : Nat), i < o → k < o → pick sq o i k = []
  | [], _, _, _ => rfl
  | x :: sq, o, h1, h2 => by
    have ih := pick_no (i := i) (k := k) sq (o + 1) (by omega) (by omega)
    unfold pick at ih ⊢
    rw [List.zipIdx_cons, List.filter_cons, if_neg (by simp; omega)]
    exact ih
theorem pick_one {i k : Nat} {y : Sl} : ∀ (sq : List Sl) (o : Nat), i < o → o ≤ k → sq[k - o]? = some y → pick sq o i k = [y]
  | [], _, _, _, h => by simp at h
  | x :: sq, o, h1, h2, h => by
    by_cases e : k = o
    · subst e
      have hn := pick_no (i := i) (k := k) sq (k + 1) (by omega) (by omega)
      unfold pick at hn ⊢
      rw [Nat.sub_self] at h
      have : x = y := by simpa using h
      subst this
      rw [List.zipIdx_cons, List.filter_cons, if_pos (by simp), List.map_cons, hn]
    · have e2 : k - o = (k - (o + 1)) + 1 := by omega
      rw [e2] at h
      have ih := pick_one (i := i) (k := k) (y := y) sq (o + 1) (by omega) (by omega) (by simpa using h)
      unfold pick at ih ⊢
      rw [List.zipIdx_cons, List.filter_cons, if_neg (by simp; omega)]
      exact ih
theorem pick_two {i k : Nat} {x y : Sl} : ∀ (sq : List Sl) (o : Nat), o ≤ i → i < k → sq[i - o]? = some x → sq[k - o]? = some y → pick sq o i k = [x, y]
  | [], _, _, _, h, _ => by simp at h
  | z :: sq, o, h1, h2, hx, hy => by
    by_cases e : i = o
    · subst e
      rw [Nat.sub_self] at hx
      have : z = x := by simpa using hx
      subst this
      have e2 : k - i = (k - (i + 1)) + 1 := by omega
      rw [e2] at hy
      have hn := pick_one (i := i) (k := k) (y := y) sq (i + 1) (by omega) (by omega) (by simpa using hy)
      unfold pick at hn ⊢
      rw [List.zipIdx_cons, List.filter_cons, if_pos (by simp), List.map_cons, hn]
    · have e1 : i - o = (i - (o + 1)) + 1 := by omega
      have e2 : k - o = (k - (o + 1)) + 1 := by omega
      rw [e1] at hx
      rw [e2] at hy
      have ih := pick_two (i := i) (k := k) (x := x) (y := y) sq (o + 1) (by omega) (by omega) (by simpa using hx) (by simpa using hy)
      unfold pick at ih ⊢
      rw [List.zipIdx_cons, List.filter_cons, if_neg (by simp; omega)]
      exact ih
theorem step_keys {own other : List Ln} (h : StOk own other) {j : Int × Ln × Ln} (h1 : j.2.1 ∈ own) (h2 : j.2.2 ∈ other) : valJ (seqF own other) j / 2 ^ (seqF own other).length = j.1 ∧
    (keysOf (seqF own other) (valJ (seqF own other) j) = [(true, j.2.1), (false, j.2.2)] ∨ keysOf (seqF own other) (valJ (seqF own other) j) = [(false, j.2.2), (true, j.2.1)]) := by
  have hn := ky_nodup h.n1 h.n2
  obtain ⟨i, hi⟩ := List.mem_iff_getElem?.mp (seq_mem (own := own) (other := other) (s := true) (l := j.2.1) |>.mpr h1)
  obtain ⟨k, hk⟩ := List.mem_iff_getElem?.mp (seq_mem (own := own) (other := other) (s := false) (l := j.2.2) |>.mpr h2)
  have li := (List.getElem?_eq_some_iff.mp hi).1
  have lk := (List.getElem?_eq_some_iff.mp hk).1
  have ne : i ≠ k := fun e => by
    subst e
    rw [hi] at hk
    have := (Prod.mk.inj (Option.some.inj hk)).1
    cases this
  have ev : valJ (seqF own other) j = j.1 * 2 ^ (seqF own other).length + 2 ^ i + 2 ^ k := by
    unfold valJ
    rw [wOf_at hn hi, wOf_at hn hk]
  obtain ⟨p1, p2⟩ := St.exact_parts (d := j.1) ne li lk
  rw [ev]
  refine ⟨p1, ?_⟩
  have ek : keysOf (seqF own other) (j.1 * 2 ^ (seqF own other).length + 2 ^ i + 2 ^ k) = pick (seqF own other) 0 i k := by
    unfold keysOf pick
    congr 1
    apply List.filter_congr
    intro p _
    rw [decide_eq_decide]
    exact p2 p.2
  rw [ek]
  rcases Nat.lt_or_gt_of_ne ne with g | g
  · exact .inl (pick_two _ 0 (by omega) g (by simpa using hi) (by simpa using hk))
  · refine .inr ?_
    have : pick (seqF own other) 0 i k = pick (seqF own other) 0 k i := by
      unfold pick
      congr 1
      apply List.filter_congr
      intro p _
      rw [decide_eq_decide]
      exact or_comm
    rw [this]
    exact pick_two _ 0 (by omega) g (by simpa using hk) (by simpa using hi)
theorem dec_ok {own other : List Ln} (h : StOk own other) : ∀ n ∈ exactF own other, ∃ a b : Ln, keysOf (seqF own other) n = [(true, a), (false, b)] ∨ keysOf (seqF own other) n = [(false, b), (true, a)] := by
  obtain ⟨J, e, _, _, m⟩ := steps_joins h
  intro n hn
  rw [e] at hn
  obtain ⟨j, hj, rfl⟩ := List.mem_map.mp hn
  obtain ⟨m1, m2, _⟩ := m j hj
  exact ⟨_, _, (step_keys h m1 m2).2⟩
theorem steps_rows {own other : List Ln} (h : StOk own other) : ∃ J : List (Int × Ln × Ln), stepsF own other = J.map (fun j => (j.1, j.2.1.1, j.2.2.1)) ∧ (J.map (·.2.1)).Nodup ∧ (J.map (·.2.2)).Nodup ∧ ∀ j ∈ J, j.2.1 ∈ own ∧ j.2.2 ∈ other ∧ j.2.1.2.2 = j.2.2.2.2 := by
  obtain ⟨J, e, n1, n2, m⟩ := steps_joins h
  refine ⟨J, ?_, n1, n2, m⟩
  unfold stepsF
  rw [e, List.map_map]
  apply List.map_congr_left
  intro j hj
  obtain ⟨m1, m2, _⟩ := m j hj
  obtain ⟨p1, p2⟩ := step_keys h m1 m2
  show (valJ (seqF own other) j / 2 ^ (seqF own other).length, dec (keysOf (seqF own other) (valJ (seqF own other) j))) = _
  rw [p1]
  rcases p2 with p2 | p2 <;> rw [p2] <;> rfl
theorem chosen_perm {book ls : List Ln} (h : (ids book).Nodup) (hn : ls.Nodup) (hs : ∀ l ∈ ls, l ∈ book) : (chosenF book (ls.map (·.1))).Perm ls := by
  have inj : ∀ a ∈ book, ∀ b ∈ book, a.1 = b.1 → a = b := by
    have pw : book.Pairwise fun a b => a.1 ≠ b.1 := List.pairwise_map.mp h
    intro a ha b hb e
    obtain ⟨i, hi, rfl⟩ := List.getElem_of_mem ha
    obtain ⟨k, hk, rfl⟩ := List.getElem_of_mem hb
    rcases Nat.lt_trichotomy i k with g | g | g
    · exact absurd e (List.pairwise_iff_getElem.mp pw i k hi hk g)
    · subst g; rfl
    · exact absurd e.symm (List.pairwise_iff_getElem.mp pw k i hk hi g)
  refine (List.perm_ext_iff_of_nodup ((ln_nodup h).filter _) hn).mpr fun l => ?_
  rw [List.mem_filter]
  constructor
  · rintro ⟨h1, h2⟩
    obtain ⟨l', h3, h4⟩ := List.mem_map.mp (of_decide_eq_true h2)
    rw [← inj l' (hs l' h3) l h1 h4]
    exact h3
  · exact fun hl => ⟨hs l hl, decide_eq_true (List.mem_map.mpr ⟨l, hl, rfl⟩)⟩
theorem rows_chosen {own other : List Ln} (h : StOk own other) (n : Nat) : ∃ J : List (Int × Ln × Ln), (chosenF own (((stepsF own other).take n).map (·.2.1))).Perm (J.map (·.2.1)) ∧ (chosenF other (((stepsF own other).take n).map (·.2.2))).Perm (J.map (·.2.2)) ∧ ∀ j ∈ J, j.2.1.2.2 = j.2.2.2.2 := by
  obtain ⟨J, e, n1, n2, m⟩ := steps_rows h
  refine ⟨J.take n, ?_, ?_, fun j hj => (m j (List.mem_of_mem_take hj)).2.2⟩
  · have e1 : ((stepsF own other).take n).map (·.2.1) = ((J.take n).map (·.2.1)).map (·.1) := by
      rw [e, ← List.map_take, List.map_map, List.map_map]; rfl
    rw [e1]
    refine chosen_perm h.n1 ?_ fun l hl => ?_
    · rw [List.map_take]; exact n1.sublist (List.take_sublist _ _)
    · obtain ⟨j, hj, rfl⟩ := List.mem_map.mp hl
      exact (m j (List.mem_of_mem_take hj)).1
  · have e1 : ((stepsF own other).take n).map (·.2.2) = ((J.take n).map (·.2.2)).map (·.1) := by
      rw [e, ← List.map_take, List.map_map, List.map_map]; rfl
    rw [e1]
    refine chosen_perm h.n2 ?_ fun l hl => ?_
    · rw [List.map_take]; exact n2.sublist (List.take_sublist _ _)
    · obtain ⟨j, hj, rfl⟩ := List.mem_map.mp hl
      exact (m j (List.mem_of_mem_take hj)).2.1
theorem unp_ok {own other : List Ln} (h : StOk own other) (n : Nat) : unpF (chosenF own (((stepsF own other).take n).map (·.2.1))) (chosenF other (((stepsF own other).take n).map (·.2.2))) = none := by
  obtain ⟨J, p1, p2, m⟩ := rows_chosen h n
  refine List.find?_eq_none.mpr fun a _ => ?_
  have e1 := (linesF_perm.trans (p1.filter fun l => decide (l.2.2 = a))).length_eq
  have e2 := (linesF_perm.trans (p2.filter fun l => decide (l.2.2 = a))).length_eq
  rw [List.filter_map, List.length_map] at e1 e2
  rw [e1, e2]
  have : (J.filter ((fun l : Ln => decide (l.2.2 = a)) ∘ fun j => j.2.1)) = J.filter ((fun l : Ln => decide (l.2.2 = a)) ∘ fun j => j.2.2) := by
    apply List.filter_congr
    intro j hj
    show decide (j.2.1.2.2 = a) = decide (j.2.2.2.2 = a)
    rw [m j hj]
  rw [this]
  simp
theorem dd_ok {own other : List Ln} (h : StOk own other) (n : Nat) : (ddI ((chosenF own (((stepsF own other).take n).map (·.2.1)) ++ chosenF other (((stepsF own other).take n).map (·.2.2))).map (·.2.2))).length < 64 := by
  obtain ⟨J, p1, p2, m⟩ := rows_chosen h n
  have hs := (ddI_nodup ((chosenF own (((stepsF own other).take n).map (·.2.1)) ++ chosenF other (((stepsF own other).take n).map (·.2.2))).map (·.2.2))).length_le_of_subset (l₂ := (chosenF own (((stepsF own other).take n).map (·.2.1))).map (·.2.2)) fun x hx => by
    rw [mem_ddI, List.map_append, List.mem_append] at hx
    rcases hx with hx | hx
    · exact hx
    · obtain ⟨l, hl, rfl⟩ := List.mem_map.mp hx
      obtain ⟨j, hj, rfl⟩ := List.mem_map.mp (p2.mem_iff.mp hl)
      rw [← m j hj]
      exact List.mem_map.mpr ⟨j.2.1, p1.mem_iff.mpr (List.mem_map.mpr ⟨j, hj, rfl⟩), rfl⟩
  rw [List.length_map] at hs
  have l1 := h.l1
  have := List.length_filter_le (fun l : Ln => decide (l.1 ∈ ((stepsF own other).take n).map (·.2.1))) own
  unfold chosenF at hs
  unfold chosenF
  omega
end Ml

/-! Ml34: rules for the steps' functions. -/
namespace Ml
open PySem L2 PySem.W PySem.Calls PyProof.Rows
section
variable {K : Frag} {Y : Wish} {T T1 H H1 : Hp} {μ μ1 : Mem} {ρ : Ro} {σ : L2.St} {D : DE}
def DCp (K : Frag) (Y : Wish) (ρ : Ro) (vs : List Nat) (g : TG) (tt : TT) (tk tv : TE) (ys : List Dt) (μ1 : Mem) (W : Dt → Mem → Prop) : Prop := ys.length ≤ 1000000 ∧ ∃ (f : Dt → Bool) (kf : Dt → Key) (vf : Dt → Dt),
    (∀ y ∈ ys, Elem K Y ρ vs g tt y μ1 (fun ρ2 μ3 => f y = true ∧ WP K Y ρ2 μ3 tk fun d μ4 => d = kD (kf y) ∧ WP K Y ρ2 μ4 tv fun e μ5 => e = vf y ∧ μ5 = μ1) fun μ3 => f y = false ∧ μ3 = μ1) ∧
    ∀ p, p ∉ dom μ1 → W (.ref p) ((p, .dK (mergeD [] ((ys.filter f).map fun y => (kf y, vf y)))) :: μ1)
theorem wp_dcS1 {i : Nat} {wi : TI} {tt : TT} {tk tv : TE} {vs : List Nat} {W : Dt → Mem → Prop} (h : WPI K Y ρ μ wi fun ys μ1 => DCp K Y ρ vs (gName i) tt tk tv ys μ1 W) (h1 : i ∈ vs := by decide) : WP K Y ρ μ (tDc wi (gName i) tt tk tv vs) W := wp_dcP (onto_name h1) mono_name h
def unLn : Dt → Ln
  | .tup [.int a, .int b, .int c] => (a, b, c)
  | _ => (0, 0, 0)
theorem unLn_ln (x : Ln) : unLn (lnD x) = x := rfl
/-- {e: True for line in xs if f} -/
theorem dcLn {f : Ln → Bool} {e : Ln → Int} {xs : List Ln} {vs : List Nat} {g : TG} {tt : TT} {tk tv : TE} {W : Dt → Mem → Prop}
    (h : ∀ x ∈ xs, WPG K Y (wipeR ρ vs) μ g (lnD x) fun ρ2 μ2 => WPT K Y ρ2 μ2 tt fun b μ3 => b = f x ∧ μ3 = μ ∧ (b = true → WP K Y ρ2 μ3 tk fun d μ4 => d = .int (e x) ∧ WP K Y ρ2 μ4 tv fun v μ5 => v = .bl true ∧ μ5 = μ))
    (w : ∀ p, p ∉ dom μ → W (.ref p) ((p, .dK ((ddI ((xs.filter f).map e)).map fun n => (.inl n, .bl true))) :: μ)) (hl : xs.length ≤ 1000000) : DCp K Y ρ vs g tt tk tv (xs.map lnD) μ W := by
  refine ⟨by rw [List.length_map]; exact hl, fun y => f (unLn y), fun y => .inl (e (unLn y)), fun _ => .bl true, fun y hy => ?_, ?_⟩
  · obtain ⟨x, hx, rfl⟩ := List.mem_map.mp hy
    exact fun T σ H v M L N r Q F => h x hx T σ H v M L N r Q fun T2 σ2 H2 ρ2 μ2 w2 => F T2 σ2 H2 ρ2 μ2 (WPT.imp w2 fun b μ3 ⟨e1, e2, e3⟩ => by
      cases b with
      | true => exact itT rfl ⟨e1.symm, e3 rfl⟩
      | false => exact itF rfl ⟨e1.symm, e2⟩)
  · have q : mergeD [] (((xs.map lnD).filter fun y => f (unLn y)).map fun y => ((.inl (e (unLn y)) : Key), Dt.bl true)) = (ddI ((xs.filter f).map e)).map fun n => (.inl n, .bl true) := by
      rw [List.filter_map, List.map_map, ← merge_ddI, List.map_map]
      rfl
    rw [q]
    exact w
theorem dcLnA {e : Ln → Int} {xs : List Ln} {vs : List Nat} {g : TG} {tk tv : TE} {W : Dt → Mem → Prop}
    (h : ∀ x ∈ xs, WPG K Y (wipeR ρ vs) μ g (lnD x) fun ρ2 μ2 => μ2 = μ ∧ WP K Y ρ2 μ2 tk fun d μ4 => d = .int (e x) ∧ WP K Y ρ2 μ4 tv fun v μ5 => v = .bl true ∧ μ5 = μ)
    (w : ∀ p, p ∉ dom μ → W (.ref p) ((p, .dK ((ddI (xs.map e)).map fun n => (.inl n, .bl true))) :: μ)) (hl : xs.length ≤ 1000000) : DCp K Y ρ vs g tYes tk tv (xs.map lnD) μ W :=
  dcLn (f := fun _ => true) (e := e) (fun x hx T σ H v M L N r Q F => h x hx T σ H v M L N r Q fun T2 σ2 H2 ρ2 μ2 w2 => F T2 σ2 H2 ρ2 μ2 (wpt_yes ⟨rfl, w2.1, fun _ => w2.2⟩)) (by rw [List.filter_eq_self.mpr fun _ _ => rfl]; exact w) hl
theorem sd1 {p : Addr} {ns : List Int} {W : Dt → Mem → Prop} (w : W (.lst ((sortI ns).map .int)) μ) (hl : ns.length < 64) :
    ∃ (a : Addr) (kvs : List (Key × Dt)) (c : Nat) (gone rest : Mem) (ks : List Int), Dt.ref p = .ref a ∧ ((p, Mo.dK (ns.map fun n => (.inl n, .bl true))) :: μ)[c]? = some (a, .dK kvs) ∧ ((p, Mo.dK (ns.map fun n => (.inl n, .bl true))) :: μ).Perm (rest ++ gone) ∧ kvs.map (·.1) = ks.map Sum.inl ∧ ks.length < 64 ∧ W (.lst ((sortI ks).map .int)) rest :=
  ⟨p, _, 0, [_], μ, ns, rfl, rfl, (List.perm_append_singleton _ _).symm, by rw [List.map_map]; rfl, hl, w⟩
theorem sd2 {p : Addr} {g : Addr × Mo} {ns : List Int} {W : Dt → Mem → Prop} (w : W (.lst ((sortI ns).map .int)) μ) (hl : ns.length < 64) :
    ∃ (a : Addr) (kvs : List (Key × Dt)) (c : Nat) (gone rest : Mem) (ks : List Int), Dt.ref p = .ref a ∧ ((p, Mo.dK (ns.map fun n => (.inl n, .bl true))) :: g :: μ)[c]? = some (a, .dK kvs) ∧ ((p, Mo.dK (ns.map fun n => (.inl n, .bl true))) :: g :: μ).Perm (rest ++ gone) ∧ kvs.map (·.1) = ks.map Sum.inl ∧ ks.length < 64 ∧ W (.lst ((sortI ks).map .int)) rest :=
  ⟨p, _, 0, [_, _], μ, ns, rfl, rfl, List.perm_append_comm (l₁ := [_, _]), by rw [List.map_map]; rfl, hl, w⟩
theorem sortSl_len (xs : List Sl) : (sortSl xs).length = xs.length := (List.mergeSort_perm _ _).length_eq
theorem sortI_len (xs : List Int) : (sortI xs).length = xs.length := (sortI_perm _).length_eq
theorem kc1 {p : Addr} {ns : List Int} {W : List Dt → Mem → Prop} (w : W (ns.map .int) μ) :
    ∃ (a : Addr) (kvs : List (Key × Dt)) (rest : Mem), Dt.ref p = .ref a ∧ (p, Mo.dK (ns.map fun n => (.inl n, .bl true))) :: μ = (a, .dK kvs) :: rest ∧ W (kvs.map fun kv => kD kv.1) rest :=
  ⟨p, _, μ, rfl, rfl, by rw [List.map_map]; exact w⟩
theorem rw_srtRk {xs : List Sl} {W : Dt → Mem → Prop} (w : W (.lst ((sortSl xs).map rkD)) μ) (hl : xs.length ≤ 1000000) : RWL K μ (rSortD K) [.lst (xs.map rkD)] W := rw_sorted isl (sorts_rk _ hl) (by rw [sortD_rk]; exact w)
theorem valD_dd (ns : List Int) (n : Int) : (valD (ns.map fun m => ((.inl m : Key), Dt.bl true)) (.inl n)).isSome = decide (n ∈ ns) := by
  unfold valD
  rw [Option.isSome_map]
  by_cases h : n ∈ ns
  · rw [decide_eq_true h]
    exact List.find?_isSome.mpr ⟨(.inl n, .bl true), List.mem_map.mpr ⟨n, h, rfl⟩, by simp⟩
  · rw [decide_eq_false h]
    have : ((ns.map fun m => ((.inl m : Key), Dt.bl true)).find? fun kv => decide (kv.1 = .inl n)) = none := List.find?_eq_none.mpr fun p hp e => by
      obtain ⟨m, hm, rfl⟩ := List.mem_map.mp hp
      have : (Sum.inl m : Key) = .inl n := of_decide_eq_true e
      cases this
      exact h hm
    rw [this]
    rfl
/-- n in d, d a dict of whole numbers just made -/
theorem din1 {a : Addr} {ns : List Int} {n : Int} {W : Dt → Prop} {c : Nat} (hc : μ[c]? = some (a, .dK ((ddI ns).map fun m => (.inl m, .bl true)))) (w : W (.bl (decide (n ∈ ns)))) : ∃ o, DHas μ (.ref a) (.int n) o ∧ W (.bl o.isSome) := by
  refine ⟨_, dhasK c (.inl n) hc, ?_⟩
  rw [valD_dd]
  have : decide (n ∈ ddI ns) = decide (n ∈ ns) := by simp only [mem_ddI]
  rw [this]
  exact w
theorem wp_dinI {td ty : TE} {W : Dt → Mem → Prop} (h : WP K Y ρ μ ty fun e μ1 => WP K Y ρ μ1 td fun d μ2 => ∃ (c : Nat) (a : Addr) (ns : List Int) (n : Int), e = .int n ∧ d = .ref a ∧ μ2[c]? = some (a, .dK ((ddI ns).map fun m => (.inl m, .bl true))) ∧ W (.bl (decide (n ∈ ns))) μ2) : WP K Y ρ μ (tDIn ty td) W :=
  wp_din (WP.imp h fun e μ1 h1 => WP.imp h1 fun d μ2 ⟨c, a, ns, n, e1, e2, hc, w⟩ => by
    subst e1 e2
    exact din1 (W := fun d => W d μ2) hc w)
theorem wp_lcS4 {i j k l n : Nat} {wi : TI} {tt : TT} {te : TE} {vs : List Nat} {W : Dt → Mem → Prop} (h : WPI K Y ρ μ wi fun ys μ1 => LCp K Y ρ vs (gTup K n (gCons (gName i) (gCons (gName j) (gCons (gName k) (gCons (gName l) gNil))))) tt te ys μ1 W) (h1 : i ∈ vs := by decide) (h2 : j ∈ vs := by decide) (h3 : k ∈ vs := by decide) (h4 : l ∈ vs := by decide) : WP K Y ρ μ (tLc wi (gTup K n (gCons (gName i) (gCons (gName j) (gCons (gName k) (gCons (gName l) gNil))))) tt te vs) W :=
  have m1 : MonoGs (gCons (gName l) gNil) := mono_cons mono_name mono_nil
  have m2 : MonoGs (gCons (gName k) (gCons (gName l) gNil)) := mono_cons mono_name m1
  have m3 : MonoGs (gCons (gName j) (gCons (gName k) (gCons (gName l) gNil))) := mono_cons mono_name m2
  wp_lcN (onto_tup (ontos_cons (onto_name h1) mono_name (ontos_cons (onto_name h2) mono_name (ontos_cons (onto_name h3) mono_name (ontos_cons (onto_name h4) mono_name ontos_nil mono_nil) m1) m2) m3)) (mono_tup (mono_cons mono_name m3)) h
/-- a list of one kind -/
theorem lst_map {α : Type} (enc : α → Dt) {xs : List α} {ds : List Dt} {W : Dt → Prop} (e : ds = xs.map enc) (w : W (.lst (xs.map enc))) : W (.lst ds) := e ▸ w
/-- zip of encoded lists -/
theorem zip_enc {α β : Type} {ea : α → Dt} {eb : β → Dt} {xs : List α} {ys : List β} : ((xs.map ea).zip (ys.map eb)).map (fun p => Dt.tup [p.1, p.2]) = (xs.zip ys).map fun p => Dt.tup [ea p.1, eb p.2] := by
  rw [List.zip_map, List.map_map]
  rfl
end
end Ml

/-! Ml35: the table of least costs, row by row. -/
namespace Ml
open PySem L2 PySem.W PySem.Calls PyProof.Rows
def dpR (c : Pr → Pr → Int) (owns others : List Pr) (i j : Nat) : List Int := St.dp c (owns.take i).reverse (others.take j).reverse
variable {c : Pr → Pr → Int} {owns others : List Pr}
theorem dpR_0l (j : Nat) : dpR c owns others 0 j = [0] := by
  unfold dpR
  rw [List.take_zero, List.reverse_nil, St.dp]
theorem dpR_0r (i : Nat) : dpR c owns others i 0 = [0] := by
  unfold dpR
  rw [List.take_zero, List.reverse_nil]
  cases (owns.take i).reverse with
  | nil => rw [St.dp]
  | cons => rw [St.dp]
theorem take_rev {xs : List Pr} {i : Nat} {x : Pr} (h : xs[i]? = some x) : (xs.take (i + 1)).reverse = x :: (xs.take i).reverse := by
  rw [List.take_add_one, h, List.reverse_append]
  rfl
theorem dpR_ss {i j : Nat} {x y : Pr} (hx : owns[i]? = some x) (hy : others[j]? = some y) : dpR c owns others (i + 1) (j + 1) = St.lesser (St.lesser (dpR c owns others i (j + 1)) (dpR c owns others (i + 1) j)) (0 :: (dpR c owns others i j).map (· + c x y)) := by
  unfold dpR
  rw [take_rev hx, take_rev hy, St.dp]
theorem dpR_len (i j : Nat) : (dpR c owns others i j).length ≤ owns.length + 1 := by
  unfold dpR
  rw [St.dp_length _ _ _ rfl, List.length_reverse, List.length_reverse, List.length_take]
  omega
theorem dpR_all : dpR c owns others owns.length others.length = St.dp c owns.reverse others.reverse := by
  unfold dpR
  rw [List.take_length, List.take_length]
abbrev ilD (ns : List Int) : Dt := .lst (ns.map .int)
def tabD (f : Nat → List Int) (n : Nat) : List Dt := (List.range n).map fun j => ilD (f j)
theorem tabD_at {f : Nat → List Int} {n j : Nat} (h : j < n) : atI (tabD f n) ((j : Nat) : Int) = some (ilD (f j)) := atI_get (by
  unfold tabD
  rw [List.getElem?_map, List.getElem?_range h]
  rfl)
theorem tabD_len {f : Nat → List Int} {n : Nat} : (tabD f n).length = n := by simp [tabD]
theorem tabD_app {f : Nat → List Int} {n : Nat} : tabD f n ++ [ilD (f n)] = tabD f (n + 1) := by simp [tabD, List.range_succ]
theorem tabD_last {f : Nat → List Int} {n : Nat} : atI (tabD f (n + 1)) (-1) = some (ilD (f n)) := by
  unfold atI ixN
  rw [tabD_len]
  have e : ((tabD f (n + 1))[n]?) = some (ilD (f n)) := by
    unfold tabD
    rw [List.getElem?_map, List.getElem?_range (by omega)]
    rfl
  rw [if_neg (by decide), if_pos (by omega)]
  have e2 : (-1 + ((n + 1 : Nat) : Int)).toNat = n := by omega
  rw [e2]
  exact e
theorem tabD_one {f : Nat → List Int} : tabD f 1 = [ilD (f 0)] := rfl
theorem tabD_congr {f g : Nat → List Int} {n : Nat} (h : ∀ j, j < n → f j = g j) : tabD f n = tabD g n := by
  unfold tabD
  apply List.map_congr_left
  intro j hj
  rw [h j (List.mem_range.mp hj)]
theorem enum_at {xs : List Pr} {j : Nat} {y : Dt} (h : ((xs.map prD).zipIdx.map fun p => Dt.tup [.int (p.2 : Int), p.1])[j]? = some y) : ∃ x, xs[j]? = some x ∧ y = .tup [.int (j : Int), prD x] := by
  rw [List.getElem?_map, List.getElem?_zipIdx, List.getElem?_map] at h
  cases e : xs[j]? with
  | none => rw [e] at h; cases h
  | some x =>
    rw [e] at h
    refine ⟨x, rfl, ?_⟩
    have := Option.some.inj h
    rw [← this]
    simp
theorem map_at {α : Type} {enc : α → Dt} {xs : List α} {j : Nat} {y : Dt} (h : (xs.map enc)[j]? = some y) : ∃ x, xs[j]? = some x ∧ y = enc x := by
  rw [List.getElem?_map] at h
  cases e : xs[j]? with
  | none => rw [e] at h; cases h
  | some x =>
    rw [e] at h
    exact ⟨x, rfl, (Option.some.inj h).symm⟩
theorem frz_at {ρ : Ro} {k : Nat} {a : Addr} {e : Dt} (h : ρ[k]? = some (some (.ref a))) : ∀ (i : Nat) (d : Dt), (ρ.set k (some e))[i]? = some (some d) → ρ[i]? = some (some d) ∨ (ρ[i]? = some (some (Dt.ref a)) ∧ d = e) := fun i d hd => by
  by_cases hi : k = i
  · subst hi
    rw [List.getElem?_set_self (List.getElem?_eq_some_iff.mp h).1] at hd
    exact .inr ⟨h, by simpa using hd.symm⟩
  · rw [List.getElem?_set_ne hi] at hd
    exact .inl hd
/-- [] that will change -/
theorem wp_lstNilC {K : Frag} {Y : Wish} {ρ : Ro} {μ : Mem} {W : Dt → Mem → Prop} (h : ∀ p, p ∉ dom μ → W (.ref p) ((p, .lst []) :: μ)) : WP K Y ρ μ (tLst tNil) W := wp_lstC (wpa_nil ⟨by simp, h⟩)
theorem wps_freezeAt {K : Frag} {Y : Wish} {ρ : Ro} {rest : Mem} {ts : TS} {D : DE} {a : Addr} {ds : List Dt} (k : Nat) (h : ρ[k]? = some (some (.ref a))) (w : WPS K Y (ρ.set k (some (.lst ds))) rest ts D) : WPS K Y ρ ((a, .lst ds) :: rest) ts D :=
  wps_freezeL (List.Perm.refl _) (by simp) (frz_at h) w
end Ml

/-! Ml36: lists returned as data or as the caller's own; what is left of two books. -/
namespace Ml
open PySem L2 PySem.W PySem.Calls PyProof.Rows
section
variable {K : Frag} {Y : Wish} {T T1 H H1 : Hp} {μ μ1 : Mem} {ρ : Ro} {σ : L2.St} {D : DE}
theorem wp_dropP {te : TE} {W : Dt → Mem → Prop} (h : WP K Y ρ μ te fun d μ1 => ∃ gone μ2, μ1.Perm (μ2 ++ gone) ∧ W d μ2) : WP K Y ρ μ te W := fun T σ H M L N Q F =>
  h T σ H M L N _ fun T1 x H1 d μ1 ⟨gone, μ2, e, w⟩ S1 M1 r1 => by
    obtain ⟨M2, S2⟩ := M1.drop (foot := μ2) (rest := gone) e
    exact F T1 x H1 d μ2 w (S1.trans S2) M2 r1
theorem wp_lcR {wi : TI} {g : TG} {tt : TT} {te : TE} {vs : List Nat} (hg : Onto g vs) (hm : MonoG g) {W : Dt → Mem → Prop} (h : WPI K Y ρ μ wi fun ys μ1 => ys.length ≤ 1000000 ∧ ∃ I : Nat → List Dt → Mem → Prop, I 0 [] μ1 ∧
    (∀ i y acc μ', ys[i]? = some y → I i acc μ' → Elem K Y ρ vs g tt y μ' (fun ρ2 μ3 => WP K Y ρ2 μ3 te fun d μ4 => I (i + 1) (acc ++ [d]) μ4) (I (i + 1) acc)) ∧ ∀ acc μ', I ys.length acc μ' → RetL W acc μ') : WP K Y ρ μ (tLc wi g tt te vs) W := fun T σ H M L N Q F =>
  lc_go hg hm (W := fun acc μ' => RetL W acc μ') h M L N fun T' H' μ' D xs acc w S' M' hD tD nD fr r => by
    rcases w with w | w
    · have g : Sub T' (upd T' D (.lst xs)) := fun b u e => by rw [upd_ne (ne_of_none e tD)]; exact e
      refine F (upd T' D (.lst xs)) _ H' _ μ' w ⟨S'.grow.trans g, S'.kept, fun b o e z t n => ?_, S'.cells⟩ ⟨fun b u e => ?_, fun q hq => ?_, M'.nd⟩ (.lst upd_same (r.mono g))
      · have hb : b ≠ D := fun y => n (y ▸ fr o (y ▸ e))
        rw [upd_ne hb]; exact S'.new b o e z t n
      · by_cases hb : b = D
        · subst hb; rw [upd_same] at e; cases e; exact hD
        · rw [upd_ne hb] at e; exact M'.sub _ _ e
      · obtain ⟨h1, h2⟩ := M'.mem q hq
        have hne : q.1 ≠ D := fun e => nD (e ▸ List.mem_map.mpr ⟨q, hq, rfl⟩)
        exact ⟨by rw [upd_ne hne]; exact h1, h2.mono g fun _ e => e⟩
    · refine F T' _ H' _ _ (w D nD) ⟨S'.grow, S'.kept, S'.new, fun b o e n hb => ?_⟩ ⟨M'.sub, fun q hq => ?_, List.nodup_cons.mpr ⟨nD, M'.nd⟩⟩ (.ref D)
      · rcases List.mem_cons.mp (show b ∈ D :: dom μ' from hb) with hb | hb
        · subst hb; exact n (fr o e)
        · exact S'.cells b o e n hb
      · rcases List.mem_cons.mp hq with rfl | hq
        · exact ⟨tD, xs, hD, r⟩
        · exact M'.mem q hq
theorem wp_lcNR {wi : TI} {g : TG} {tt : TT} {te : TE} {vs : List Nat} {W : Dt → Mem → Prop} (hg : Onto g vs) (hm : MonoG g) (h : WPI K Y ρ μ wi fun ys μ1 => LCp K Y ρ vs g tt te ys μ1 fun d μ2 => ∃ ds, d = .lst ds ∧ RetL W ds μ2) : WP K Y ρ μ (tLc wi g tt te vs) W :=
  wp_lcR hg hm fun T σ H M L N R F => h T σ H M L N R fun T' J H' ys μ' ⟨f, e, hl, el, w⟩ S' M' src => F T' J H' ys μ' ⟨hl, fun i acc μ2 => μ2 = μ' ∧ acc = ((List.range i).filter f).map e, ⟨rfl, rfl⟩, fun i y acc μ2 hy ⟨e1, e2⟩ => by
    subst e1 e2
    intro T σ H v M L N r Q F
    refine el i y hy T σ H v M L N r Q fun T2 σ2 H2 ρ2 μ2 w2 S2 M2 L2 => F T2 σ2 H2 ρ2 μ2 (fun T3 σ3 H3 M3 L3 N3 Q3 F3 => w2 T3 σ3 H3 M3 L3 N3 Q3 fun T4 b H4 μ4 w4 S4 M4 => F3 T4 b H4 μ4 ?_ S4 M4) S2 M2 L2
    have tk : List.range (i + 1) = List.range i ++ [i] := List.range_succ
    cases b with
    | true =>
      obtain ⟨hf, w4⟩ := w4
      refine WP.imp (show WP K Y ρ2 μ4 te _ from w4) ?_
      rintro d μ5 ⟨rfl, rfl⟩
      refine ⟨rfl, ?_⟩
      rw [tk, List.filter_append, List.map_append, List.filter_cons, if_pos hf] <;> rfl
    | false =>
      obtain ⟨hf, rfl⟩ := w4
      refine ⟨rfl, ?_⟩
      rw [tk, List.filter_append, List.map_append, List.filter_cons, if_neg (by rw [hf]; decide)]
      simp, fun acc μ2 ⟨e1, e2⟩ => by
    subst e1 e2
    obtain ⟨ds, e3, w3⟩ := w
    cases e3
    exact w3⟩ S' M' src
theorem wp_lcS1R {i : Nat} {wi : TI} {tt : TT} {te : TE} {vs : List Nat} {W : Dt → Mem → Prop} (h : WPI K Y ρ μ wi fun ys μ1 => LCp K Y ρ vs (gName i) tt te ys μ1 fun d μ2 => ∃ ds, d = .lst ds ∧ RetL W ds μ2) (h1 : i ∈ vs := by decide) : WP K Y ρ μ (tLc wi (gName i) tt te vs) W := wp_lcNR (onto_name h1) mono_name h
end
def leftOwn (s : Stt) : List Int := ((openOwn s).filter fun l => !decide (l.1 ∈ (matchedF s).map (·.1))).map (·.1)
def leftOther (s : Stt) : List Int := ((openOther s).filter fun l => !decide (l.1 ∈ (matchedF s).map (·.2))).map (·.1)
theorem Val.stok {m : Nat} {s : Stt} (v : Val m s) (hm : m ≤ 63) : StOk (openOwn s) (openOther s) := by
  refine ⟨?_, ?_, ?_, ?_, ?_, ?_⟩
  · exact List.Nodup.sublist (List.Sublist.map _ List.filter_sublist) v.nd1
  · exact List.Nodup.sublist (List.Sublist.map _ List.filter_sublist) v.nd2
  · exact Nat.le_trans (List.length_filter_le _ _) (Nat.le_trans v.l1 hm)
  · exact Nat.le_trans (List.length_filter_le _ _) (Nat.le_trans v.l2 hm)
  · intro l hl
    have := v.own l (List.mem_filter.mp hl).1
    simp [lineOk] at this
    omega
  · intro l hl
    have := v.other l (List.mem_filter.mp hl).1
    simp [lineOk] at this
    omega
theorem matched_len {s : Stt} (h : StOk (openOwn s) (openOther s)) : (matchedF s).length ≤ 4000 := by
  unfold matchedF bestF inSeqF
  rw [(sortPr_perm _).length_eq]
  generalize hq : chosenF (openOwn s) _ = owns
  have c1 : owns.length ≤ 63 := by rw [← hq]; exact Nat.le_trans (List.length_filter_le _ _) h.l1
  have key : ∀ as : List Int, (as.flatMap fun a => ((linesF owns a).zip (linesF (chosenF (openOther s) (((stepsF (openOwn s) (openOther s)).take (pairsAtF (openOwn s) (openOther s) s.cap)).map (·.2.2))) a)).map fun p => (p.1.1, p.2.1)).length ≤ as.length * 63 := fun as => by
    induction as with
    | nil => simp
    | cons a as ih =>
      have := linesF_len (book := owns) (a := a)
      rw [List.flatMap_cons, List.length_append, List.length_cons, List.length_map, List.length_zip, Nat.succ_mul]
      omega
  refine Nat.le_trans (key _) ?_
  have d := ddI_len (owns.map (·.2.2))
  rw [List.length_map] at d
  have := Nat.mul_le_mul (show (ddI (owns.map (·.2.2))).length ≤ 63 by omega) (Nat.le_refl 63)
  omega
end Ml

/-! Ml37: except without a name. -/
namespace Ml
open PySem L2 PySem.W PySem.Calls PyProof.Rows
def tTryO (K : Frag) (c : Value) (ts : Addr → Value → Option Addr → TS) (Wout : WX) (tb : WX → TS) : TS := fun D σ H => tb (wOnly K c ts Wout D) D σ H
theorem asTryO (K : Frag) {X : Cx} {s : Stmt} {c : Value} {ts : Addr → Value → Option Addr → TS} {Wout : WX} {tb : WX → TS} (h : PS X s (fun D σ H => tb (wOnly X.K c ts Wout D) D σ H)) (hK : X.K = K := by rfl) : PS X s (tTryO K c ts Wout tb) := hK ▸ h
def CaughtO (K : Frag) (Y : Wish) (c : Value) (ts : Addr → Value → Option Addr → TS) (D : DE) : Addr → List (Str × Dt) → Ro → Mem → Prop := fun C fs ρ μ =>
  ∃ b, exmOne K (.ref C) c = some b ∧ (b = true → ∀ a dx, WPS K noW ρ ((dx, .xd fs) :: μ) (ts a (.ref C) (some dx)) D) ∧ (b = false → Y.X C fs ρ μ)
theorem wps_tryO {K : Frag} {Y : Wish} {μ : Mem} {ρ : Ro} {D : DE} {c : Value} {ts : Addr → Value → Option Addr → TS} {tb : WX → TS} {Wout : WX} (hW : ∀ cls d σ H, Y.W cls d σ H → Wout cls d σ H) (h : ∀ W : WX, WPS K ⟨W, CaughtO K Y c ts D⟩ ρ μ (tb W) D) : WPS K Y ρ μ (tTryO K c ts Wout tb) D := fun T σ H M L N E F =>
  h (wOnly K c ts Wout E) T σ H M L (fun T' C dx fs σ' ρ' H' μ' ⟨b, hb, h1, h2⟩ S' M' L' => ⟨b, hb, fun e a _ => h1 e a dx T' _ H' M' L' (fun _ _ _ _ _ _ _ _ h => h.elim) _ (F.go S'), fun e => hW _ _ _ _ (N T' C dx fs σ' ρ' H' μ' (h2 e) S' M' L')⟩) E F
end Ml

/-! Ml38: all about the steps: by amounts, in one list; their days are bounded; what is matched is small. -/
namespace Ml
open PySem L2 PySem.W PySem.Calls PyProof.Rows
abbrev wO (own other : List Ln) (l : Ln) : Int := wOf (seqF own other) true l.1
abbrev wT (own other : List Ln) (l : Ln) : Int := wOf (seqF own other) false l.1
/-- J are the steps of the amount a -/
structure AmtJ (own other : List Ln) (a : Int) (J : List (Int × Ln × Ln)) : Prop where
  full : J.length = min (linesF own a).length (linesF other a).length
  joins : St.Joins (linesF own a).reverse (linesF other a).reverse dlt (wO own other) (wT own other) (2 ^ (seqF own other).length) J
  diffs : St.diffs (numsF own other a) = J.map (valJ (seqF own other))
theorem nums_cw {own other : List Ln} {a : Int} : numsF own other a = St.dp (St.cw dlt (wO own other) (wT own other) (2 ^ (seqF own other).length)) (linesF own a).reverse (linesF other a).reverse := by
  unfold numsF sideW
  rw [← List.map_reverse, ← List.map_reverse]
  exact dp_map _ _ _ _ _ _ rfl
theorem amtJ {own other : List Ln} (h : StOk own other) (a : Int) : ∃ J, AmtJ own other a J := by
  have t := tab_of h.n1 h.n2 a (wO own other) (wT own other) (seqF own other).length
  obtain ⟨J, hl, hJ⟩ := St.joins_upto t _ (Nat.le_refl _)
  have d := hJ.diffs hl
  refine ⟨J, by rw [hl, List.length_reverse, List.length_reverse], hJ, ?_⟩
  rw [nums_cw]
  exact d
structure AllJ (own other : List Ln) (Ja : Int → List (Int × Ln × Ln)) (J : List (Int × Ln × Ln)) : Prop where
  amt : ∀ a, AmtJ own other a (Ja a)
  perm : J.Perm ((amtsF own other).flatMap Ja)
  exact_ : exactF own other = J.map (valJ (seqF own other))
  pw : (J.map (valJ (seqF own other))).Pairwise (· ≤ ·)
  mem : ∀ j ∈ J, j.2.1 ∈ own ∧ j.2.2 ∈ other ∧ j.2.1.2.2 = j.2.2.2.2 ∧ j ∈ Ja j.2.1.2.2
  n1 : (J.map (·.2.1)).Nodup
  n2 : (J.map (·.2.2)).Nodup
theorem allJ {own other : List Ln} (h : StOk own other) : ∃ Ja J, AllJ own other Ja J := by
  let Ja : Int → List (Int × Ln × Ln) := fun a => (amtJ h a).choose
  have ha : ∀ a, AmtJ own other a (Ja a) := fun a => (amtJ h a).choose_spec
  let JJ := (amtsF own other).flatMap Ja
  have s1 : ∀ a, ∀ j ∈ Ja a, j.2.1 ∈ linesF own a := fun a j hj => List.mem_reverse.mp ((ha a).joins.s1 j hj)
  have s2 : ∀ a, ∀ j ∈ Ja a, j.2.2 ∈ linesF other a := fun a j hj => List.mem_reverse.mp ((ha a).joins.s2 j hj)
  have mem : ∀ j ∈ JJ, j.2.1 ∈ own ∧ j.2.2 ∈ other ∧ j.2.1.2.2 = j.2.2.2.2 ∧ j ∈ Ja j.2.1.2.2 := fun j hj => by
    obtain ⟨a, _, hja⟩ := List.mem_flatMap.mp hj
    have m1 := mem_linesF.mp (s1 a j hja)
    have m2 := mem_linesF.mp (s2 a j hja)
    refine ⟨m1.1, m2.1, m1.2.trans m2.2.symm, ?_⟩
    rw [m1.2]
    exact hja
  have nda : (amtsF own other).Nodup := ((sortI_perm _).nodup_iff).mpr (ddI_nodup _)
  have n1 : (JJ.map (·.2.1)).Nodup := by
    show List.Pairwise _ _
    rw [List.pairwise_map, List.pairwise_flatMap]
    refine ⟨fun a _ => List.pairwise_map.mp (ha a).joins.n1, nda.imp fun {a b} hab x hx y hy e => hab ?_⟩
    have m1 := (mem_linesF.mp (s1 a x hx)).2
    have m2 := (mem_linesF.mp (s1 b y hy)).2
    rw [← m1, ← m2, e]
  have n2 : (JJ.map (·.2.2)).Nodup := by
    show List.Pairwise _ _
    rw [List.pairwise_map, List.pairwise_flatMap]
    refine ⟨fun a _ => List.pairwise_map.mp (ha a).joins.n2, nda.imp fun {a b} hab x hx y hy e => hab ?_⟩
    have m1 := (mem_linesF.mp (s2 a x hx)).2
    have m2 := (mem_linesF.mp (s2 b y hy)).2
    rw [← m1, ← m2, e]
  have ev : ((amtsF own other).flatMap fun a => St.diffs (numsF own other a)) = JJ.map (valJ (seqF own other)) := by
    rw [List.map_flatMap]
    congr 1
    funext a
    exact (ha a).diffs
  let J := JJ.mergeSort fun x y => decide (valJ (seqF own other) x ≤ valJ (seqF own other) y)
  have pJ : J.Perm JJ := List.mergeSort_perm _ _
  have sJ : (J.map (valJ (seqF own other))).Pairwise (· ≤ ·) := by
    rw [List.pairwise_map]
    have := List.pairwise_mergeSort (le := fun x y => decide (valJ (seqF own other) x ≤ valJ (seqF own other) y)) (fun a b c h1 h2 => by simp at h1 h2 ⊢; omega) (fun a b => by simp; omega) JJ
    exact this.imp fun h => by simpa using h
  refine ⟨Ja, J, ha, pJ, ?_, sJ, fun j hj => mem j (pJ.mem_iff.mp hj), ((pJ.map _).nodup_iff).mpr n1, ((pJ.map _).nodup_iff).mpr n2⟩
  unfold exactF
  rw [ev]
  exact (sortI_eq (pJ.map _) sJ).symm
theorem AllJ.steps {own other : List Ln} {Ja : Int → List (Int × Ln × Ln)} {J : List (Int × Ln × Ln)} (h : StOk own other) (a : AllJ own other Ja J) : stepsF own other = J.map fun j => (j.1, j.2.1.1, j.2.2.1) := by
  unfold stepsF
  rw [a.exact_, List.map_map]
  apply List.map_congr_left
  intro j hj
  obtain ⟨m1, m2, _⟩ := a.mem j hj
  obtain ⟨p1, p2⟩ := step_keys h m1 m2
  show (valJ (seqF own other) j / 2 ^ (seqF own other).length, dec (keysOf (seqF own other) (valJ (seqF own other) j))) = _
  rw [p1]
  rcases p2 with p2 | p2 <;> rw [p2] <;> rfl
theorem cost_range {own other : List Ln} (h : StOk own other) {a : Int} {M : List (Ln × Ln)} (hM : St.IsM (linesF own a).reverse (linesF other a).reverse M) : 0 ≤ St.cost dlt M ∧ St.cost dlt M ≤ 2 ^ 60 * (M.length : Int) := by
  induction M with
  | nil => simp [St.cost]
  | cons p M ih =>
    obtain ⟨i1, i2⟩ := ih hM.tail
    have m1 := (mem_linesF.mp (List.mem_reverse.mp (hM.s1 p List.mem_cons_self))).1
    have m2 := (mem_linesF.mp (List.mem_reverse.mp (hM.s2 p List.mem_cons_self))).1
    have d1 := h.d1 _ m1
    have d2 := h.d2 _ m2
    rw [St.cost_cons, List.length_cons]
    have e : 0 ≤ dlt p.1 p.2 ∧ dlt p.1 p.2 ≤ 2 ^ 60 := by
      unfold dlt absI
      split <;> omega
    push_cast
    omega
theorem AmtJ.days {own other : List Ln} {a : Int} {J : List (Int × Ln × Ln)} (h : StOk own other) (hJ : AmtJ own other a J) : ∀ j ∈ J, j.1.natAbs ≤ 2 ^ 67 := by
  intro j hj
  obtain ⟨k, hk⟩ := List.mem_iff_getElem?.mp hj
  have lk := (List.getElem?_eq_some_iff.mp hk).1
  obtain ⟨M, hM, p1, _, c1, _⟩ := hJ.joins.best k (by omega)
  obtain ⟨N, hN, q1, _, c2, _⟩ := hJ.joins.best (k + 1) (by omega)
  have tk : J.take (k + 1) = J.take k ++ [j] := by rw [List.take_add_one, hk]; rfl
  rw [tk, List.map_append, List.sum_append] at c2
  have b1 := cost_range h hM
  have b2 := cost_range h hN
  have l1 := hM.le
  have l2 := hN.le
  have k1 : (linesF own a).length ≤ 63 := Nat.le_trans linesF_len h.l1
  rw [List.length_reverse, List.length_reverse] at l1 l2
  simp only [List.map_cons, List.map_nil, List.sum_cons, List.sum_nil] at c2
  have m1 : M.length ≤ 63 := by omega
  have m2 : N.length ≤ 63 := by omega
  omega
theorem steps_small {own other : List Ln} (h : StOk own other) : ∀ r ∈ stepsF own other, r.1.natAbs ≤ 2 ^ 67 ∧ r.2.1 ∈ ids own ∧ r.2.2 ∈ ids other := by
  obtain ⟨Ja, J, a⟩ := allJ h
  rw [a.steps h]
  intro r hr
  obtain ⟨j, hj, rfl⟩ := List.mem_map.mp hr
  obtain ⟨m1, m2, m3, m4⟩ := a.mem j hj
  exact ⟨(a.amt _).days h j m4, List.mem_map.mpr ⟨_, m1, rfl⟩, List.mem_map.mpr ⟨_, m2, rfl⟩⟩
theorem steps_len' {own other : List Ln} (h : StOk own other) : (stepsF own other).length ≤ 63 := by
  obtain ⟨Ja, J, a⟩ := allJ h
  rw [a.steps h, List.length_map]
  have := a.n1.length_le_of_subset (l₂ := own) fun x hx => by
    obtain ⟨j, hj, rfl⟩ := List.mem_map.mp hx
    exact (a.mem j hj).1
  rw [List.length_map] at this
  exact Nat.le_trans this h.l1
theorem inSeq_mem {owns others : List Ln} {p : Pr} (hp : p ∈ inSeqF owns others) : p.1 ∈ ids owns ∧ p.2 ∈ ids others := by
  unfold inSeqF at hp
  rw [(sortPr_perm _).mem_iff, List.mem_flatMap] at hp
  obtain ⟨a, _, h⟩ := hp
  obtain ⟨q, hq, rfl⟩ := List.mem_map.mp h
  obtain ⟨h1, h2⟩ := List.of_mem_zip hq
  exact ⟨List.mem_map.mpr ⟨_, (mem_linesF.mp h1).1, rfl⟩, List.mem_map.mpr ⟨_, (mem_linesF.mp h2).1, rfl⟩⟩
theorem best_mem {own other : List Ln} {n : Nat} {p : Pr} (hp : p ∈ bestF own other n) : p.1 ∈ ids own ∧ p.2 ∈ ids other := by
  obtain ⟨h1, h2⟩ := inSeq_mem hp
  obtain ⟨l1, m1, e1⟩ := List.mem_map.mp h1
  obtain ⟨l2, m2, e2⟩ := List.mem_map.mp h2
  exact ⟨List.mem_map.mpr ⟨l1, (List.mem_filter.mp m1).1, e1⟩, List.mem_map.mpr ⟨l2, (List.mem_filter.mp m2).1, e2⟩⟩
end Ml

/-! Ml39: two lists returned as the caller's own. -/
namespace Ml
open PySem L2 PySem.W PySem.Calls PyProof.Rows
/-- two lists as data, or as new cells -/
def RetLL (W : Dt → Mem → Prop) (xs ys : List Dt) (μ : Mem) : Prop := W (.tup [.lst xs, .lst ys]) μ ∨ ∀ p q, p ∉ dom μ → q ∉ dom μ → p ≠ q → W (.tup [.ref p, .ref q]) ((q, .lst ys) :: (p, .lst xs) :: μ)
theorem set_same {μ : Mem} {c : Nat} {x : Addr × Mo} (h : μ[c]? = some x) : μ.set c x = μ := by
  obtain ⟨hi, e⟩ := List.getElem?_eq_some_iff.mp h
  rw [← e]
  exact List.set_getElem_self hi
theorem set_at {μ : Mem} {c : Nat} {x y : Addr × Mo} (h : μ[c]? = some x) : (μ.set c y)[c]? = some y := List.getElem?_set_self (List.getElem?_eq_some_iff.mp h).1
/-- cells forgotten where a value is returned -/
theorem wps_dropR {K : Frag} {Y : Wish} {μ : Mem} {ρ : Ro} {D : DE} {ts : TS} (h : WPS K Y ρ μ ts { D with rt := fun d μ1 => ∃ gone μ2, μ1 = gone ++ μ2 ∧ D.rt d μ2 }) : WPS K Y ρ μ ts D := fun T σ H M L N E F =>
  h T σ H M L N E ⟨F.nx, fun T' v H' d μ' ⟨gone, μ2, e, w⟩ S' M' r => by
    subst e
    obtain ⟨M2, S2⟩ := M'.drop (foot := μ2) (rest := gone) List.perm_append_comm
    exact F.rt T' v H' d μ2 w (S'.trans S2) M2 r, F.bk, F.ct⟩
theorem leftOwn_len {t : Stt} (g : StOk (openOwn t) (openOther t)) : (leftOwn t).length ≤ 63 := by
  unfold leftOwn
  rw [List.length_map]
  exact Nat.le_trans (List.length_filter_le _ _) g.l1
theorem leftOther_len {t : Stt} (g : StOk (openOwn t) (openOther t)) : (leftOther t).length ≤ 63 := by
  unfold leftOther
  rw [List.length_map]
  exact Nat.le_trans (List.length_filter_le _ _) g.l2
end Ml

/-! Ml40: how many are matched; all that a comparison shows, as one text. -/
namespace Ml
open PySem L2 PySem.W PySem.Calls PyProof.Rows
theorem lines_flat {book : List Ln} (h : (ids book).Nodup) {as : List Int} (ha : as.Nodup) : (as.flatMap fun a => linesF book a).length ≤ book.length := by
  refine List.Nodup.length_le_of_subset ?_ fun x hx => ?_
  · show List.Pairwise _ _
    rw [List.pairwise_flatMap]
    refine ⟨fun a _ => linesF_nodup h, ha.imp fun {a b} hab x hx y hy e => hab ?_⟩
    rw [← (mem_linesF.mp hx).2, ← (mem_linesF.mp hy).2, e]
  · obtain ⟨a, _, hx⟩ := List.mem_flatMap.mp hx
    exact (mem_linesF.mp hx).1
theorem inSeq_len {owns others : List Ln} (h : (ids owns).Nodup) : (inSeqF owns others).length ≤ owns.length := by
  unfold inSeqF
  rw [(sortPr_perm _).length_eq]
  refine Nat.le_trans ?_ (lines_flat h (ddI_nodup (owns.map (·.2.2))))
  generalize ddI (owns.map (·.2.2)) = as
  induction as with
  | nil => simp
  | cons a as ih =>
    rw [List.flatMap_cons, List.flatMap_cons, List.length_append, List.length_append, List.length_map, List.length_zip]
    omega
theorem chosen_ids {book : List Ln} (h : (ids book).Nodup) (is : List Int) : (ids (chosenF book is)).Nodup := List.Nodup.sublist (List.Sublist.map _ List.filter_sublist) h
theorem best_le {own other : List Ln} (h : (ids own).Nodup) {n : Nat} : (bestF own other n).length ≤ own.length :=
  Nat.le_trans (inSeq_len (chosen_ids h _)) (List.length_filter_le _ _)
theorem steps_le {own other : List Ln} (h : StOk own other) : (stepsF own other).length ≤ own.length := by
  obtain ⟨Ja, J, a⟩ := allJ h
  rw [a.steps h, List.length_map]
  have := a.n1.length_le_of_subset (l₂ := own) fun x hx => by
    obtain ⟨j, hj, rfl⟩ := List.mem_map.mp hx
    exact (a.mem j hj).1
  rwa [List.length_map] at this
/-- all that is shown, in data -/
def shownP (t : Stt) : PyData := .tuple [.tuple [.list (t.own.map lnP), .list (t.other.map lnP), .int t.cap, .list (t.fixed.map prP)], .list ((matchedF t).map prP), .list ((openOwn t).map lnP), .list ((openOther t).map lnP), .tuple [.list ((leftOwn t).map .int), .list ((leftOther t).map .int)], .list ((stepsF (openOwn t) (openOther t)).map lnP)]
theorem shown_py (t : Stt) : (Dt.tup [.tup [.lst (t.own.map lnD), .lst (t.other.map lnD), .int t.cap, .lst (t.fixed.map prD)], .lst ((matchedF t).map prD), .lst ((openOwn t).map lnD), .lst ((openOther t).map lnD), .tup [.lst ((leftOwn t).map .int), .lst ((leftOther t).map .int)], .lst ((stepsF (openOwn t) (openOther t)).map lnD)]).py = some (shownP t) := by
  simp only [Dt.py, Dt.pys, pys_map lnD lnP (fun _ => rfl), pys_map prD prP (fun _ => rfl), pys_ints, Option.map, shownP]
theorem small_id {m : Nat} {t : Stt} (v : Val m t) : (∀ i ∈ ids (openOwn t), i.natAbs < 10 ^ 38) ∧ ∀ i ∈ ids (openOther t), i.natAbs < 10 ^ 38 := by
  refine ⟨fun i hi => ?_, fun i hi => ?_⟩
  · obtain ⟨l, hl, rfl⟩ := List.mem_map.mp hi
    exact (lineOk_small (v.own l (List.mem_filter.mp hl).1)).1
  · obtain ⟨l, hl, rfl⟩ := List.mem_map.mp hi
    exact (lineOk_small (v.other l (List.mem_filter.mp hl).1)).1
theorem matched_small {m : Nat} {t : Stt} (v : Val m t) : ∀ p ∈ matchedF t, p.1.natAbs < 10 ^ 38 ∧ p.2.natAbs < 10 ^ 38 := fun p hp => by
  obtain ⟨h1, h2⟩ := best_mem hp
  exact ⟨(small_id v).1 _ h1, (small_id v).2 _ h2⟩
theorem shw_ln3 {l : Ln} (h : l.1.natAbs < 10 ^ 38 ∧ l.2.1.natAbs < 10 ^ 38 ∧ l.2.2.natAbs < 10 ^ 38) : Shw (lnP l) 1 (3 * 129) := shw_tup (k := 3) (fun x hx => by
  obtain ⟨h1, h2, h3⟩ := h
  simp at hx
  rcases hx with rfl | rfl | rfl
  · exact shw_int h1
  · exact shw_int h2
  · exact shw_int h3) (by simp)
theorem shw_lnK {ls : List Ln} {k : Nat} (h : ∀ l ∈ ls, l.1.natAbs < 10 ^ 38 ∧ l.2.1.natAbs < 10 ^ 38 ∧ l.2.2.natAbs < 10 ^ 38) (hl : ls.length ≤ k) : Shw (.list (ls.map lnP)) 2 (k * (3 * 129 + 1)) := shw_list (fun x hx => by
  obtain ⟨l, hl, rfl⟩ := List.mem_map.mp hx
  exact shw_ln3 (h l hl)) (by rw [List.length_map]; exact hl)
theorem shw_prK {ls : List Pr} {k : Nat} (h : ∀ p ∈ ls, p.1.natAbs < 10 ^ 38 ∧ p.2.natAbs < 10 ^ 38) (hl : ls.length ≤ k) : Shw (.list (ls.map prP)) 2 (k * (3 * 129 + 1)) := shw_list (fun x hx => by
  obtain ⟨l, hl, rfl⟩ := List.mem_map.mp hx
  exact shw_pr (h l hl).1 (h l hl).2) (by rw [List.length_map]; exact hl)
theorem shw_inK {ls : List Int} {k : Nat} (h : ∀ p ∈ ls, p.natAbs < 10 ^ 38) (hl : ls.length ≤ k) : Shw (.list (ls.map .int)) 1 (k * (128 + 1)) := shw_list (fun x hx => by
  obtain ⟨l, hl, rfl⟩ := List.mem_map.mp hx
  exact shw_int (h l hl)) (by rw [List.length_map]; exact hl)
theorem cap_small {m : Nat} {t : Stt} (v : Val m t) : t.cap.natAbs < 10 ^ 38 := by
  have := v.cap
  have e : (10 : Nat) ^ 38 = 100000000000000000000000000000000000000 := by decide
  rw [e]
  simp [priceOk] at this
  omega
theorem shw_shown {m : Nat} {t : Stt} (v : Val m t) (hm : m ≤ 8) : Shw (shownP t) 6 80000 := by
  have g := v.stok (Nat.le_trans hm (by decide))
  have l1 : (openOwn t).length ≤ 8 := Nat.le_trans (List.length_filter_le _ _) (Nat.le_trans v.l1 hm)
  have l2 : (openOther t).length ≤ 8 := Nat.le_trans (List.length_filter_le _ _) (Nat.le_trans v.l2 hm)
  have so : ∀ l ∈ t.own, l.1.natAbs < 10 ^ 38 ∧ l.2.1.natAbs < 10 ^ 38 ∧ l.2.2.natAbs < 10 ^ 38 := fun l hl => lineOk_small (v.own l hl)
  have st : ∀ l ∈ t.other, l.1.natAbs < 10 ^ 38 ∧ l.2.1.natAbs < 10 ^ 38 ∧ l.2.2.natAbs < 10 ^ 38 := fun l hl => lineOk_small (v.other l hl)
  have e38 : (2 : Nat) ^ 67 < 10 ^ 38 := by decide
  have sm := small_id v
  have a1 := shw_lnK (k := 8) so (Nat.le_trans v.l1 hm)
  have a2 := shw_lnK (k := 8) st (Nat.le_trans v.l2 hm)
  have a3 := shw_prK (k := 8) v.pairs_small (Nat.le_trans v.few hm)
  have a4 := shw_prK (k := 8) (matched_small v) (Nat.le_trans (best_le g.n1) l1)
  have a5 := shw_lnK (k := 8) (fun l hl => so l (List.mem_filter.mp hl).1) l1
  have a6 := shw_lnK (k := 8) (fun l hl => st l (List.mem_filter.mp hl).1) l2
  have a7 := shw_inK (k := 8) (ls := leftOwn t) (fun i hi => by
    obtain ⟨l, hl, rfl⟩ := List.mem_map.mp hi
    exact sm.1 _ (List.mem_map.mpr ⟨l, (List.mem_filter.mp hl).1, rfl⟩)) (by unfold leftOwn; rw [List.length_map]; exact Nat.le_trans (List.length_filter_le _ _) l1)
  have a8 := shw_inK (k := 8) (ls := leftOther t) (fun i hi => by
    obtain ⟨l, hl, rfl⟩ := List.mem_map.mp hi
    exact sm.2 _ (List.mem_map.mpr ⟨l, (List.mem_filter.mp hl).1, rfl⟩)) (by unfold leftOther; rw [List.length_map]; exact Nat.le_trans (List.length_filter_le _ _) l2)
  have a9 := shw_lnK (k := 8) (ls := stepsF (openOwn t) (openOther t)) (fun r hr => by
    obtain ⟨h1, h2, h3⟩ := steps_small g r hr
    exact ⟨by omega, sm.1 _ h2, sm.2 _ h3⟩) (Nat.le_trans (steps_le g) l1)
  have b1 : Shw (.tuple [.list (t.own.map lnP), .list (t.other.map lnP), .int t.cap, .list (t.fixed.map prP)]) 3 (4 * (8 * (3 * 129 + 1) + 1)) := shw_tup (fun x hx => by
    simp at hx
    rcases hx with rfl | rfl | rfl | rfl
    · exact a1
    · exact a2
    · exact (shw_int (cap_small v)).le (by decide) (by decide)
    · exact a3) (by simp)
  have b2 : Shw (.tuple [.list ((leftOwn t).map .int), .list ((leftOther t).map .int)]) 2 (2 * (8 * (128 + 1) + 1)) := shw_tup (fun x hx => by
    simp at hx
    rcases hx with rfl | rfl
    · exact a7
    · exact a8) (by simp)
  have b3 : Shw (shownP t) 4 (6 * (4 * (8 * (3 * 129 + 1) + 1) + 1)) := shw_tup (fun x hx => by
    simp at hx
    rcases hx with rfl | rfl | rfl | rfl | rfl | rfl
    · exact b1
    · exact a4.le (by decide) (by decide)
    · exact a5.le (by decide) (by decide)
    · exact a6.le (by decide) (by decide)
    · exact b2.le (by decide) (by decide)
    · exact a9.le (by decide) (by decide)) (by simp)
  exact b3.le (by decide) (by decide)
end Ml

/-! Ml41: weights as bits. -/
namespace Ml
open PySem L2 PySem.W PySem.Calls PyProof.Rows
/-- the places in sq of what is in S, as one number -/
def bits (S : List Sl) : List Sl → Nat
  | [] => 0
  | x :: sq => (if x ∈ S then 1 else 0) + 2 * bits S sq
theorem bits_lt (S : List Sl) : ∀ sq, bits S sq < 2 ^ sq.length
  | [] => by simp [bits]
  | x :: sq => by
    have := bits_lt S sq
    rw [bits, List.length_cons, Nat.pow_succ]
    split <;> omega
theorem bits_congr {S T : List Sl} : ∀ sq : List Sl, (∀ x ∈ sq, x ∈ S ↔ x ∈ T) → bits S sq = bits T sq
  | [], _ => rfl
  | x :: sq, h => by
    rw [bits, bits, bits_congr sq fun y hy => h y (List.mem_cons_of_mem _ hy)]
    have := h x List.mem_cons_self
    by_cases hx : x ∈ S
    · rw [if_pos hx, if_pos (this.mp hx)]
    · rw [if_neg hx, if_neg fun z => hx (this.mpr z)]
theorem bits_inj {S T : List Sl} : ∀ {sq : List Sl}, bits S sq = bits T sq → ∀ x ∈ sq, x ∈ S ↔ x ∈ T
  | [], _, x, hx => by cases hx
  | y :: sq, h, x, hx => by
    rw [bits, bits] at h
    have e : bits S sq = bits T sq ∧ ((y ∈ S) ↔ (y ∈ T)) := by
      split at h <;> split at h
      · rename_i h1 h2; exact ⟨by omega, by simp [h1, h2]⟩
      · omega
      · omega
      · rename_i h1 h2; exact ⟨by omega, by simp [h1, h2]⟩
    rcases List.mem_cons.mp hx with rfl | hx
    · exact e.2
    · exact bits_inj e.1 x hx
/-- what both lack may be left out -/
theorem bits_filter {S T : List Sl} (k : Sl → Bool) : ∀ (sq : List Sl), (∀ x ∈ sq, x ∈ S → k x = true) → (∀ x ∈ sq, x ∈ T → k x = true) → ((bits S (sq.filter k) < bits T (sq.filter k) ↔ bits S sq < bits T sq) ∧ (bits S (sq.filter k) = bits T (sq.filter k) ↔ bits S sq = bits T sq))
  | [], _, _ => by simp [bits]
  | x :: sq, h1, h2 => by
    obtain ⟨i1, i2⟩ := bits_filter k sq (fun y hy => h1 y (List.mem_cons_of_mem _ hy)) fun y hy => h2 y (List.mem_cons_of_mem _ hy)
    by_cases hk : k x = true
    · rw [List.filter_cons, if_pos hk]
      simp only [bits]
      split <;> split <;> omega
    · have a1 : x ∉ S := fun z => hk (h1 x List.mem_cons_self z)
      have a2 : x ∉ T := fun z => hk (h2 x List.mem_cons_self z)
      rw [List.filter_cons, if_neg hk]
      simp only [bits, if_neg a1, if_neg a2]
      omega
theorem bits_map {F : Sl → Sl} {S : List Sl} : ∀ (sq : List Sl), (∀ x ∈ sq, F x ∈ S.map F → x ∈ S) → bits (S.map F) (sq.map F) = bits S sq
  | [], _ => rfl
  | x :: sq, h => by
    rw [List.map_cons, bits, bits, bits_map sq fun y hy => h y (List.mem_cons_of_mem _ hy)]
    by_cases hx : x ∈ S
    · rw [if_pos hx, if_pos (List.mem_map.mpr ⟨x, hx, rfl⟩)]
    · rw [if_neg hx, if_neg fun z => hx (h x List.mem_cons_self z)]
/-- more of both -/
theorem bits_more {S T U : List Sl} : ∀ (sq : List Sl), (∀ x ∈ U, x ∉ S ∧ x ∉ T) → ((bits (U ++ S) sq < bits (U ++ T) sq ↔ bits S sq < bits T sq) ∧ (bits (U ++ S) sq = bits (U ++ T) sq ↔ bits S sq = bits T sq))
  | [], _ => by simp [bits]
  | x :: sq, h => by
    obtain ⟨i1, i2⟩ := bits_more sq h
    simp only [bits, List.mem_append]
    by_cases hu : x ∈ U
    · obtain ⟨a1, a2⟩ := h x hu
      simp only [hu, true_or, if_true, if_neg a1, if_neg a2]
      omega
    · simp only [hu, false_or]
      split <;> split <;> omega
theorem bits_sum (w : Sl → Int) (S : List Sl) : ∀ (sq : List Sl) (o : Nat), (∀ i x, sq[i]? = some x → w x = 2 ^ (i + o)) → ((sq.filter fun x => decide (x ∈ S)).map w).sum = 2 ^ o * ((bits S sq : Nat) : Int)
  | [], o, _ => by simp [bits]
  | x :: sq, o, h => by
    have ih := bits_sum w S sq (o + 1) fun i y hy => by
      rw [h (i + 1) y (by simpa using hy)]
      congr 1
      omega
    have hx := h 0 x rfl
    rw [Nat.zero_add] at hx
    rw [bits]
    have e : (2 : Int) ^ (o + 1) = 2 ^ o * 2 := Int.pow_succ _ _
    rw [e, Int.mul_assoc] at ih
    by_cases m : x ∈ S
    · rw [List.filter_cons, if_pos (decide_eq_true m), List.map_cons, List.sum_cons, ih, hx, if_pos m]
      push_cast
      rw [Int.mul_add, Int.mul_one]
    · rw [List.filter_cons, if_neg (by simpa using m), ih, if_neg m]
      push_cast
      rw [Int.zero_add]
/-- the lines of both sides -/
def slOf (S1 S2 : List Ln) : List Sl := S1.map (fun l => (true, l)) ++ S2.map (fun l => (false, l))
theorem mem_slOf {S1 S2 : List Ln} {s : Bool} {l : Ln} : (s, l) ∈ slOf S1 S2 ↔ (if s = true then l ∈ S1 else l ∈ S2) := by
  unfold slOf
  rw [List.mem_append, List.mem_map, List.mem_map]
  cases s <;> simp
theorem slOf_nodup {S1 S2 : List Ln} (h1 : S1.Nodup) (h2 : S2.Nodup) : (slOf S1 S2).Nodup := by
  unfold slOf
  refine List.nodup_append.mpr ⟨?_, ?_, fun a ha b hb e => ?_⟩
  · exact List.Pairwise.map _ (fun a b hab e => hab (by simpa using e)) h1
  · exact List.Pairwise.map _ (fun a b hab e => hab (by simpa using e)) h2
  · obtain ⟨x, _, rfl⟩ := List.mem_map.mp ha
    obtain ⟨y, _, rfl⟩ := List.mem_map.mp hb
    cases e
theorem seq_nodup {own other : List Ln} (h : StOk own other) : (seqF own other).Nodup := (seq_perm.nodup_iff).mpr (slOf_nodup (ln_nodup h.n1) (ln_nodup h.n2))
/-- the weights of lines are a number of bits -/
theorem w_bits {own other : List Ln} (h : StOk own other) {S1 S2 : List Ln} (n1 : S1.Nodup) (n2 : S2.Nodup) (s1 : ∀ l ∈ S1, l ∈ own) (s2 : ∀ l ∈ S2, l ∈ other) : St.sumU (wO own other) S1 + St.sumU (wT own other) S2 = ((bits (slOf S1 S2) (seqF own other) : Nat) : Int) := by
  let w : Sl → Int := fun x => wOf (seqF own other) x.1 x.2.1
  have hw : ∀ i x, (seqF own other)[i]? = some x → w x = 2 ^ (i + 0) := fun i x hx => by
    obtain ⟨s, l⟩ := x
    exact wOf_at (ky_nodup h.n1 h.n2) hx
  have b := bits_sum w (slOf S1 S2) (seqF own other) 0 hw
  rw [show (2 : Int) ^ 0 = 1 from rfl, Int.one_mul] at b
  rw [← b]
  have p : ((seqF own other).filter fun x => decide (x ∈ slOf S1 S2)).Perm (slOf S1 S2) := by
    refine (List.perm_ext_iff_of_nodup ((seq_nodup h).filter _) (slOf_nodup n1 n2)).mpr fun x => ?_
    obtain ⟨s, l⟩ := x
    rw [List.mem_filter]
    refine ⟨fun z => of_decide_eq_true z.2, fun z => ⟨?_, decide_eq_true z⟩⟩
    rw [seq_mem]
    rw [mem_slOf] at z
    cases s
    · exact s2 l z
    · exact s1 l z
  rw [St.sum_perm (p.map w)]
  unfold slOf
  rw [List.map_append, List.sum_append, List.map_map, List.map_map]
  rfl
/-- the lines of a matching -/
abbrev mOf (M : List (Ln × Ln)) : List Sl := slOf (M.map (·.1)) (M.map (·.2))
/-- an exact cost is the cost in days, then the bits -/
theorem cw_bits {own other : List Ln} (h : StOk own other) {A B : List Ln} {M : List (Ln × Ln)} (hM : St.IsM A B M) (sA : ∀ l ∈ A, l ∈ own) (sB : ∀ l ∈ B, l ∈ other) :
    St.cost (St.cw dlt (wO own other) (wT own other) (2 ^ (seqF own other).length)) M = St.cost dlt M * 2 ^ (seqF own other).length + ((bits (mOf M) (seqF own other) : Nat) : Int) := by
  rw [St.cost_cw, Int.add_assoc, w_bits h hM.n1 hM.n2 (fun l hl => by
    obtain ⟨p, hp, rfl⟩ := List.mem_map.mp hl
    exact sA _ (hM.s1 p hp)) fun l hl => by
    obtain ⟨p, hp, rfl⟩ := List.mem_map.mp hl
    exact sB _ (hM.s2 p hp)]
end Ml

/-! Ml42: the best matching at a price: the least by days less price, then by bits. -/
namespace Ml
open PySem L2 PySem.W PySem.Calls PyProof.Rows
theorem take_filter {α : Type} (f : α → Int) (p : Int) : ∀ l : List α, (l.map f).Pairwise (· ≤ ·) → l.take (l.filter fun x => decide (f x ≤ p)).length = l.filter fun x => decide (f x ≤ p)
  | [], _ => rfl
  | x :: l, h => by
    rw [List.map_cons, List.pairwise_cons] at h
    by_cases hx : f x ≤ p
    · rw [List.filter_cons, if_pos (decide_eq_true hx), List.length_cons, List.take_succ_cons, take_filter f p l h.2]
    · have : (x :: l).filter (fun x => decide (f x ≤ p)) = [] := by
        rw [List.filter_eq_nil_iff]
        intro y hy
        rw [decide_eq_true_eq]
        rcases List.mem_cons.mp hy with rfl | hy
        · exact hx
        · have := h.1 (f y) (List.mem_map.mpr ⟨y, hy, rfl⟩)
          omega
      rw [this]
      rfl
section
variable {own other : List Ln} {Ja : Int → List (Int × Ln × Ln)} {J : List (Int × Ln × Ln)}
theorem unit_pos (N : Nat) : (0 : Int) < 2 ^ N := Int.pow_pos (by decide)
theorem valJ_days (h : StOk own other) {j : Int × Ln × Ln} (h1 : j.2.1 ∈ own) (h2 : j.2.2 ∈ other) : valJ (seqF own other) j / 2 ^ (seqF own other).length = j.1 := (step_keys h h1 h2).1
theorem div_mono {a b u : Int} (hu : 0 < u) (h : a ≤ b) : a / u ≤ b / u := Int.ediv_le_ediv hu h
theorem pw_days (h : StOk own other) {L : List (Int × Ln × Ln)} (m : ∀ j ∈ L, j.2.1 ∈ own ∧ j.2.2 ∈ other) (pw : (L.map (valJ (seqF own other))).Pairwise (· ≤ ·)) : (L.map (·.1)).Pairwise (· ≤ ·) := by
  rw [List.pairwise_map] at pw ⊢
  refine pw.imp_of_mem fun {a b} ha hb hab => ?_
  have := div_mono (unit_pos (seqF own other).length) hab
  rwa [valJ_days h (m a ha).1 (m a ha).2, valJ_days h (m b hb).1 (m b hb).2] at this
theorem AllJ.days (h : StOk own other) (a : AllJ own other Ja J) : (J.map (·.1)).Pairwise (· ≤ ·) := pw_days h (fun j hj => ⟨(a.mem j hj).1, (a.mem j hj).2.1⟩) a.pw
theorem AmtJ.mem {a : Int} {L : List (Int × Ln × Ln)} (d : AmtJ own other a L) : ∀ j ∈ L, (j.2.1 ∈ own ∧ j.2.2 ∈ other) ∧ j.2.1.2.2 = a ∧ j.2.2.2.2 = a := fun j hj => by
  have m1 := mem_linesF.mp (List.mem_reverse.mp (d.joins.s1 j hj))
  have m2 := mem_linesF.mp (List.mem_reverse.mp (d.joins.s2 j hj))
  exact ⟨⟨m1.1, m2.1⟩, m1.2, m2.2⟩
theorem pw_next {f : Nat → Int} {n : Nat} (h : ∀ i, i + 1 < n → f i ≤ f (i + 1)) : ∀ i k, i + k < n → f i ≤ f (i + k)
  | i, 0, _ => Int.le_refl _
  | i, k + 1, hk => Int.le_trans (pw_next h i k (by omega)) (h (i + k) (by omega))
theorem AmtJ.pw (h : StOk own other) {a : Int} {L : List (Int × Ln × Ln)} (d : AmtJ own other a L) : (L.map (valJ (seqF own other))).Pairwise (· ≤ ·) := by
  have t := tab_of h.n1 h.n2 a (wO own other) (wT own other) (seqF own other).length
  have step : ∀ i, i + 1 < L.length → ∀ (h1 : i < L.length) (h2 : i + 1 < L.length), valJ (seqF own other) L[i] ≤ valJ (seqF own other) L[i + 1] := fun i hi h1 h2 => by
    obtain ⟨u, v, e1, e2, e3⟩ := d.joins.step (List.getElem?_eq_getElem h1)
    obtain ⟨u2, v2, e4, e5, e6⟩ := d.joins.step (List.getElem?_eq_getElem h2)
    rw [e2] at e4
    cases e4
    have := t.convex e1 e2 e5
    simp only [wO, wT] at e3 e6
    unfold valJ
    omega
  rw [List.pairwise_map, List.pairwise_iff_getElem]
  intro i k hi hk hik
  have key : ∀ m, ∀ (hm : i + m < L.length), valJ (seqF own other) L[i] ≤ valJ (seqF own other) L[i + m] := fun m => by
    induction m with
    | zero => exact fun _ => Int.le_refl _
    | succ m ih => exact fun hm => Int.le_trans (ih (by omega)) (step (i + m) (by omega) (by omega) hm)
  have := key (k - i) (by omega)
  have e : i + (k - i) = k := by omega
  simpa [e] using this
/-- what counts at the price p: days less the price and one, a pair -/
def atP (p : Int) (M : List (Ln × Ln)) : Int := St.cost dlt M - (p + 1) * (M.length : Int)
/-- M is not after N -/
def Le (sq : List Sl) (p : Int) (M N : List (Ln × Ln)) : Prop := atP p M < atP p N ∨ (atP p M = atP p N ∧ bits (mOf M) sq ≤ bits (mOf N) sq)
theorem lex_of {a b u x y : Int} (hu : 0 < u) (hx : 0 ≤ x) (hy : y < u) (h : a * u + x ≤ b * u + y) : a < b ∨ (a = b ∧ x ≤ y) := by
  rcases Int.lt_trichotomy a b with g | g | g
  · exact .inl g
  · subst g
    exact .inr ⟨rfl, by omega⟩
  · exfalso
    have := Int.mul_le_mul_of_nonneg_right (show b + 1 ≤ a by omega) (Int.le_of_lt hu)
    rw [Int.add_mul, Int.one_mul] at this
    omega
/-- the joins of the amount up to the price -/
abbrev upto (p : Int) (L : List (Int × Ln × Ln)) : List (Int × Ln × Ln) := L.filter fun j => decide (j.1 ≤ p)
theorem sum_split {α : Type} (f : α → Int) (P : α → Bool) : ∀ (L : List α), (∀ x ∈ L, P x = true → f x ≤ 0) → (∀ x ∈ L, P x = false → 0 ≤ f x) → ∀ n, ((L.filter P).map f).sum ≤ ((L.take n).map f).sum
  | [], _, _, n => by simp
  | x :: L, h1, h2, n => by
    have ih := sum_split f P L (fun y hy => h1 y (List.mem_cons_of_mem _ hy)) fun y hy => h2 y (List.mem_cons_of_mem _ hy)
    cases hp : P x with
    | true =>
      have := h1 x List.mem_cons_self hp
      rw [List.filter_cons, if_pos hp, List.map_cons, List.sum_cons]
      cases n with
      | zero =>
        have i0 := ih 0
        simp at i0 ⊢
        omega
      | succ n =>
        have := ih n
        rw [List.take_succ_cons, List.map_cons, List.sum_cons]
        omega
    | false =>
      have := h2 x List.mem_cons_self hp
      rw [List.filter_cons, if_neg (by rw [hp]; decide)]
      cases n with
      | zero => simpa using ih 0
      | succ n =>
        have := ih n
        rw [List.take_succ_cons, List.map_cons, List.sum_cons]
        omega
/-- the exact cost of the best matching of k pairs -/
theorem joins_sum {A B : List Ln} {δ : Ln → Ln → Int} {q : Ln → Int} {r : Ln → Int} {u : Int} {L : List (Int × Ln × Ln)} {M : List (Ln × Ln)} {k : Nat} (p1 : (M.map (·.1)).Perm ((L.take k).map (·.2.1))) (p2 : (M.map (·.2)).Perm ((L.take k).map (·.2.2))) (cd : St.cost δ M = ((L.take k).map (·.1)).sum) : St.cost (St.cw δ q r u) M = ((L.take k).map fun j => j.1 * u + q j.2.1 + r j.2.2).sum := by
  rw [St.cost_cw, St.sumU_perm p1, St.sumU_perm p2, cd]
  generalize L.take k = T
  induction T with
  | nil => simp [St.sumU]
  | cons j T ih =>
    simp only [List.map_cons, List.sum_cons, St.sumU, Int.add_mul] at ih ⊢
    omega
theorem AmtJ.best_at (h : StOk own other) {a : Int} {L : List (Int × Ln × Ln)} (d : AmtJ own other a L) (p : Int) : ∃ M, St.IsM (linesF own a).reverse (linesF other a).reverse M ∧ (M.map (·.1)).Perm ((upto p L).map (·.2.1)) ∧ (M.map (·.2)).Perm ((upto p L).map (·.2.2)) ∧
    ∀ N, St.IsM (linesF own a).reverse (linesF other a).reverse N → Le (seqF own other) p M N := by
  have t := tab_of h.n1 h.n2 a (wO own other) (wT own other) (seqF own other).length
  have pd := pw_days h (fun j hj => (d.mem j hj).1) (d.pw h)
  have tk := take_filter (fun j : Int × Ln × Ln => j.1) p L pd
  have hu := unit_pos (seqF own other).length
  have lk : (upto p L).length ≤ L.length := List.length_filter_le _ _
  obtain ⟨M, hM, p1, p2, cd, hb⟩ := d.joins.best (upto p L).length lk
  have sM := joins_sum (A := own) (B := other) (q := wO own other) (r := wT own other) (u := 2 ^ (seqF own other).length) p1 p2 cd
  rw [show L.take (upto p L).length = upto p L from tk] at p1 p2 sM
  refine ⟨M, hM, p1, p2, fun N hN => ?_⟩
  have lN := hN.le
  rw [List.length_reverse, List.length_reverse, ← d.full] at lN
  obtain ⟨Q, hQ, q1, q2, ce, hc⟩ := d.joins.best N.length lN
  have sQ := joins_sum (A := own) (B := other) (q := wO own other) (r := wT own other) (u := 2 ^ (seqF own other).length) q1 q2 ce
  obtain ⟨v, hv, _, low⟩ := t.at (m := N.length) hN.le
  rw [hc] at hv
  cases hv
  have leN := low N hN rfl
  have lM : M.length = (upto p L).length := by have := p1.length_eq; simpa using this
  have key := sum_split (fun j : Int × Ln × Ln => (j.1 * 2 ^ (seqF own other).length + wO own other j.2.1 + wT own other j.2.2) - (p + 1) * 2 ^ (seqF own other).length) (fun j => decide (j.1 ≤ p)) L (fun j hj hp => ?_) (fun j hj hp => ?_) N.length
  · have sub : ∀ (P : Int) (T : List (Int × Ln × Ln)), (T.map fun j => (j.1 * 2 ^ (seqF own other).length + wO own other j.2.1 + wT own other j.2.2) - P * 2 ^ (seqF own other).length).sum = (T.map fun j => j.1 * 2 ^ (seqF own other).length + wO own other j.2.1 + wT own other j.2.2).sum - (P * (T.length : Int)) * 2 ^ (seqF own other).length := fun P T => by
      induction T with
      | nil => simp
      | cons j T ih =>
        rw [List.map_cons, List.sum_cons, ih, List.map_cons, List.sum_cons, List.length_cons]
        push_cast
        rw [Int.mul_add P, Int.mul_one, Int.add_mul (P * _)]
        omega
    rw [sub, sub, ← sM, ← sQ] at key
    have lQ : (L.take N.length).length = N.length := by rw [List.length_take]; omega
    rw [lQ] at key
    have eM := cw_bits h hM (fun l hl => (mem_linesF.mp (List.mem_reverse.mp hl)).1) fun l hl => (mem_linesF.mp (List.mem_reverse.mp hl)).1
    have eN := cw_bits h hN (fun l hl => (mem_linesF.mp (List.mem_reverse.mp hl)).1) fun l hl => (mem_linesF.mp (List.mem_reverse.mp hl)).1
    have bN : ((bits (mOf N) (seqF own other) : Nat) : Int) < 2 ^ (seqF own other).length := by
      have := Int.ofNat_lt.mpr (bits_lt (mOf N) (seqF own other))
      push_cast at this
      exact this
    have fin : atP p M * 2 ^ (seqF own other).length + ((bits (mOf M) (seqF own other) : Nat) : Int) ≤ atP p N * 2 ^ (seqF own other).length + ((bits (mOf N) (seqF own other) : Nat) : Int) := by
      unfold atP
      rw [Int.sub_mul, Int.sub_mul, lM]
      simp only [upto] at key ⊢
      omega
    rcases lex_of hu (Int.natCast_nonneg _) bN fin with g | ⟨g1, g2⟩
    · exact .inl g
    · exact .inr ⟨g1, by omega⟩
  · have hp := of_decide_eq_true hp
    have m := d.mem j hj
    have e := valJ_days h m.1.1 m.1.2
    have : valJ (seqF own other) j < (p + 1) * 2 ^ (seqF own other).length := (Int.ediv_lt_iff_lt_mul hu).mp (by omega)
    simp only [wO, wT]
    unfold valJ at this
    omega
  · have hp := of_decide_eq_false hp
    have m := d.mem j hj
    have e := valJ_days h m.1.1 m.1.2
    have : (p + 1) * 2 ^ (seqF own other).length ≤ valJ (seqF own other) j := (Int.le_ediv_iff_mul_le hu).mp (by omega)
    simp only [wO, wT]
    unfold valJ at this
    omega
end
end Ml

/-! Ml43: the lines matched at a price; books of which some lines are taken out. -/
namespace Ml
open PySem L2 PySem.W PySem.Calls PyProof.Rows
/-- the lines matched at a price -/
def mOwn (own other : List Ln) (p : Int) : List Ln := chosenF own (((stepsF own other).take (pairsAtF own other p)).map (·.2.1))
def mOther (own other : List Ln) (p : Int) : List Ln := chosenF other (((stepsF own other).take (pairsAtF own other p)).map (·.2.2))
theorem best_eq {own other : List Ln} {p : Int} : bestF own other (pairsAtF own other p) = inSeqF (mOwn own other p) (mOther own other p) := rfl
section
variable {own other : List Ln} {Ja : Int → List (Int × Ln × Ln)} {J : List (Int × Ln × Ln)}
theorem steps_days (h : StOk own other) : ((stepsF own other).map (·.1)).Pairwise (· ≤ ·) := by
  obtain ⟨Ja, J, a⟩ := allJ h
  have := a.days h
  rw [a.steps h, List.map_map]
  exact this
theorem take_price (h : StOk own other) (p : Int) : (stepsF own other).take (pairsAtF own other p) = (stepsF own other).filter fun r => decide (r.1 ≤ p) := take_filter (fun r : Ln => r.1) p _ (steps_days h)
theorem AllJ.all (h : StOk own other) (a : AllJ own other Ja J) {j : Int × Ln × Ln} {x : Int} (hj : j ∈ Ja x) : j ∈ J := by
  obtain ⟨⟨m1, m2⟩, e1, e2⟩ := (a.amt x).mem j hj
  rw [a.perm.mem_iff, List.mem_flatMap]
  refine ⟨x, ?_, hj⟩
  unfold amtsF
  rw [(sortI_perm _).mem_iff, mem_ddI, List.mem_map]
  exact ⟨j.2.1, List.mem_filter.mpr ⟨m1, decide_eq_true (List.mem_map.mpr ⟨j.2.2, m2, by rw [e1, e2]⟩)⟩, e1⟩
theorem AllJ.own_at (h : StOk own other) (a : AllJ own other Ja J) {p : Int} : (mOwn own other p).Perm ((upto p J).map (·.2.1)) := by
  unfold mOwn
  rw [take_price h, a.steps h, List.filter_map, List.map_map]
  have e : (J.filter ((fun r : Ln => decide (r.1 ≤ p)) ∘ fun j : Int × Ln × Ln => (j.1, j.2.1.1, j.2.2.1))) = upto p J := rfl
  rw [e]
  have e2 : (upto p J).map ((fun x : Ln => x.2.1) ∘ fun j : Int × Ln × Ln => (j.1, j.2.1.1, j.2.2.1)) = ((upto p J).map (·.2.1)).map (·.1) := by rw [List.map_map]; rfl
  rw [e2]
  refine chosen_perm h.n1 (a.n1.sublist (List.Sublist.map _ List.filter_sublist)) fun l hl => ?_
  obtain ⟨j, hj, rfl⟩ := List.mem_map.mp hl
  exact (a.mem j (List.mem_filter.mp hj).1).1
theorem AllJ.other_at (h : StOk own other) (a : AllJ own other Ja J) {p : Int} : (mOther own other p).Perm ((upto p J).map (·.2.2)) := by
  unfold mOther
  rw [take_price h, a.steps h, List.filter_map, List.map_map]
  have e : (J.filter ((fun r : Ln => decide (r.1 ≤ p)) ∘ fun j : Int × Ln × Ln => (j.1, j.2.1.1, j.2.2.1))) = upto p J := rfl
  rw [e]
  have e2 : (upto p J).map ((fun x : Ln => x.2.2) ∘ fun j : Int × Ln × Ln => (j.1, j.2.1.1, j.2.2.1)) = ((upto p J).map (·.2.2)).map (·.1) := by rw [List.map_map]; rfl
  rw [e2]
  refine chosen_perm h.n2 (a.n2.sublist (List.Sublist.map _ List.filter_sublist)) fun l hl => ?_
  obtain ⟨j, hj, rfl⟩ := List.mem_map.mp hl
  exact (a.mem j (List.mem_filter.mp hj).1).2.1
/-- the best matching of an amount at a price, by its lines -/
theorem price_sets (h : StOk own other) (p a : Int) : ∃ M, St.IsM (linesF own a).reverse (linesF other a).reverse M ∧ (∀ l, l ∈ M.map (·.1) ↔ l ∈ mOwn own other p ∧ l.2.2 = a) ∧ (∀ l, l ∈ M.map (·.2) ↔ l ∈ mOther own other p ∧ l.2.2 = a) ∧
    ∀ N, St.IsM (linesF own a).reverse (linesF other a).reverse N → Le (seqF own other) p M N := by
  obtain ⟨Ja, J, A⟩ := allJ h
  obtain ⟨M, hM, p1, p2, low⟩ := (A.amt a).best_at h p
  refine ⟨M, hM, fun l => ?_, fun l => ?_, low⟩
  · rw [p1.mem_iff, (A.own_at h).mem_iff, List.mem_map, List.mem_map]
    constructor
    · rintro ⟨j, hj, rfl⟩
      obtain ⟨j1, j2⟩ := List.mem_filter.mp hj
      exact ⟨⟨j, List.mem_filter.mpr ⟨A.all h j1, j2⟩, rfl⟩, ((A.amt a).mem j j1).2.1⟩
    · rintro ⟨⟨j, hj, rfl⟩, e⟩
      obtain ⟨j1, j2⟩ := List.mem_filter.mp hj
      have := (A.mem j j1).2.2.2
      rw [e] at this
      exact ⟨j, List.mem_filter.mpr ⟨this, j2⟩, rfl⟩
  · rw [p2.mem_iff, (A.other_at h).mem_iff, List.mem_map, List.mem_map]
    constructor
    · rintro ⟨j, hj, rfl⟩
      obtain ⟨j1, j2⟩ := List.mem_filter.mp hj
      exact ⟨⟨j, List.mem_filter.mpr ⟨A.all h j1, j2⟩, rfl⟩, ((A.amt a).mem j j1).2.2⟩
    · rintro ⟨⟨j, hj, rfl⟩, e⟩
      obtain ⟨j1, j2⟩ := List.mem_filter.mp hj
      have := (A.mem j j1).2.2.2
      rw [(A.mem j j1).2.2.1, e] at this
      exact ⟨j, List.mem_filter.mpr ⟨this, j2⟩, rfl⟩
theorem mOwn_sub {p : Int} {l : Ln} (h : l ∈ mOwn own other p) : l ∈ own := (List.mem_filter.mp h).1
theorem mOther_sub {p : Int} {l : Ln} (h : l ∈ mOther own other p) : l ∈ other := (List.mem_filter.mp h).1
theorem StOk.filter (h : StOk own other) (k1 k2 : Ln → Bool) : StOk (own.filter k1) (other.filter k2) :=
  ⟨List.Nodup.sublist (List.Sublist.map _ List.filter_sublist) h.n1, List.Nodup.sublist (List.Sublist.map _ List.filter_sublist) h.n2, Nat.le_trans (List.length_filter_le _ _) h.l1, Nat.le_trans (List.length_filter_le _ _) h.l2, fun l hl => h.d1 l (List.mem_filter.mp hl).1, fun l hl => h.d2 l (List.mem_filter.mp hl).1⟩
def kB (k1 k2 : Ln → Bool) (x : Sl) : Bool := if x.1 = true then k1 x.2 else k2 x.2
theorem slK_inj {x y : Sl} (h : slK x = slK y) : x = y := by
  obtain ⟨a, b, c, d⟩ := x
  obtain ⟨a', b', c', d'⟩ := y
  simp [slK, sdI] at h
  cases a <;> cases a' <;> simp_all
theorem sortSl_pw (xs : List Sl) : (sortSl xs).Pairwise fun a b => lexLe (slK a) (slK b) = true := sortF_pw slK xs
/-- a sorted list without some of its items is sorted -/
theorem seq_filter (k1 k2 : Ln → Bool) : seqF (own.filter k1) (other.filter k2) = (seqF own other).filter (kB k1 k2) := by
  refine List.Perm.eq_of_pairwise (le := fun a b => lexLe (slK a) (slK b) = true) (fun a b _ _ h1 h2 => slK_inj (lexLe_antisymm h1 h2)) (sortSl_pw _) ((sortSl_pw _).sublist List.filter_sublist) ?_
  refine seq_perm.trans (List.Perm.symm ?_)
  refine (seq_perm.filter _).trans ?_
  rw [List.filter_append, List.filter_map, List.filter_map]
  exact List.Perm.refl _
theorem Le.of_filter {k1 k2 : Ln → Bool} {p : Int} {M N : List (Ln × Ln)} (hM : ∀ x ∈ mOf M, kB k1 k2 x = true) (hN : ∀ x ∈ mOf N, kB k1 k2 x = true) (h1 : Le (seqF own other) p M N) (h2 : Le (seqF (own.filter k1) (other.filter k2)) p N M) : ∀ x ∈ seqF (own.filter k1) (other.filter k2), x ∈ mOf M ↔ x ∈ mOf N := by
  rw [seq_filter] at h2 ⊢
  obtain ⟨b1, b2⟩ := bits_filter (S := mOf M) (T := mOf N) (kB k1 k2) (seqF own other) (fun x _ hx => hM x hx) fun x _ hx => hN x hx
  have e : bits (mOf M) ((seqF own other).filter (kB k1 k2)) = bits (mOf N) ((seqF own other).filter (kB k1 k2)) := by
    unfold Le at h1 h2
    by_cases q : bits (mOf M) (seqF own other) = bits (mOf N) (seqF own other)
    · exact b2.mpr q
    · rcases h1 with h1 | ⟨h1, g1⟩
      · rcases h2 with h2 | ⟨h2, g2⟩ <;> omega
      · have := b1.mpr (by omega)
        rcases h2 with h2 | ⟨h2, g2⟩ <;> omega
  exact bits_inj e
/-- the lines that are matched in what is left of the books -/
theorem sub_sets (h : StOk own other) (k1 k2 : Ln → Bool) (p : Int) (R : Int → List (Ln × Ln)) (hR : ∀ a, St.IsM (linesF (own.filter k1) a).reverse (linesF (other.filter k2) a).reverse (R a))
    (low : ∀ a N, St.IsM (linesF (own.filter k1) a).reverse (linesF (other.filter k2) a).reverse N → Le (seqF own other) p (R a) N) :
    (∀ l, l ∈ mOwn (own.filter k1) (other.filter k2) p ↔ l ∈ (R l.2.2).map (·.1)) ∧ ∀ l, l ∈ mOther (own.filter k1) (other.filter k2) p ↔ l ∈ (R l.2.2).map (·.2) := by
  have kept : ∀ a N, St.IsM (linesF (own.filter k1) a).reverse (linesF (other.filter k2) a).reverse N → ∀ x ∈ mOf N, kB k1 k2 x = true := fun a N hN x hx => by
    obtain ⟨s, l⟩ := x
    rw [mem_slOf] at hx
    cases s with
    | true =>
      obtain ⟨q, hq, rfl⟩ := List.mem_map.mp (show l ∈ N.map (·.1) from hx)
      have := (mem_linesF.mp (List.mem_reverse.mp (hN.s1 q hq))).1
      exact (List.mem_filter.mp this).2
    | false =>
      obtain ⟨q, hq, rfl⟩ := List.mem_map.mp (show l ∈ N.map (·.2) from hx)
      have := (mem_linesF.mp (List.mem_reverse.mp (hN.s2 q hq))).1
      exact (List.mem_filter.mp this).2
  have eqv : ∀ a, (∀ l ∈ own.filter k1, l ∈ (R a).map (·.1) ↔ l ∈ mOwn (own.filter k1) (other.filter k2) p ∧ l.2.2 = a) ∧ ∀ l ∈ other.filter k2, l ∈ (R a).map (·.2) ↔ l ∈ mOther (own.filter k1) (other.filter k2) p ∧ l.2.2 = a := fun a => by
    obtain ⟨N, hN, e1, e2, lowN⟩ := price_sets (h.filter k1 k2) p a
    have key := Le.of_filter (kept a _ (hR a)) (kept a _ hN) (low a N hN) (lowN _ (hR a))
    refine ⟨fun l hl => ?_, fun l hl => ?_⟩
    · rw [← e1]
      have := key (true, l) (seq_mem.mpr hl)
      rwa [mem_slOf, mem_slOf] at this
    · rw [← e2]
      have := key (false, l) (seq_mem.mpr hl)
      rwa [mem_slOf, mem_slOf] at this
  refine ⟨fun l => ?_, fun l => ?_⟩
  · constructor
    · exact fun hl => ((eqv l.2.2).1 l (mOwn_sub hl)).mpr ⟨hl, rfl⟩
    · intro hl
      obtain ⟨q, hq, rfl⟩ := List.mem_map.mp hl
      have := (mem_linesF.mp (List.mem_reverse.mp ((hR _).s1 q hq))).1
      exact (((eqv _).1 _ this).mp hl).1
  · constructor
    · exact fun hl => ((eqv l.2.2).2 l (mOther_sub hl)).mpr ⟨hl, rfl⟩
    · intro hl
      obtain ⟨q, hq, rfl⟩ := List.mem_map.mp hl
      have := (mem_linesF.mp (List.mem_reverse.mp ((hR _).s2 q hq))).1
      exact (((eqv _).2 _ this).mp hl).1
end
end Ml

/-! Ml44: lines in sequence. -/
namespace Ml
open PySem L2 PySem.W PySem.Calls PyProof.Rows
theorem ids_inj {book : List Ln} (h : (ids book).Nodup) {a b : Ln} (ha : a ∈ book) (hb : b ∈ book) (e : a.1 = b.1) : a = b := by
  have pw : book.Pairwise fun a b => a.1 ≠ b.1 := List.pairwise_map.mp h
  obtain ⟨i, hi, rfl⟩ := List.getElem_of_mem ha
  obtain ⟨k, hk, rfl⟩ := List.getElem_of_mem hb
  rcases Nat.lt_trichotomy i k with g | g | g
  · exact absurd e (List.pairwise_iff_getElem.mp pw i k hi hk g)
  · subst g; rfl
  · exact absurd e.symm (List.pairwise_iff_getElem.mp pw k i hk hi g)
theorem flat_perm {α β : Type} [DecidableEq α] {f : α → List β} {as bs : List α} (ha : as.Nodup) (hb : bs.Nodup) (sub : ∀ a ∈ as, a ∈ bs) (no : ∀ b ∈ bs, b ∉ as → f b = []) : (bs.flatMap f).Perm (as.flatMap f) := by
  have p : bs.Perm (as ++ bs.filter fun b => !decide (b ∈ as)) := by
    refine (List.perm_ext_iff_of_nodup hb (List.nodup_append.mpr ⟨ha, hb.filter _, fun a h1 b h2 e => ?_⟩)).mpr fun x => ?_
    · subst e
      have := (List.mem_filter.mp h2).2
      simp [h1] at this
    · rw [List.mem_append, List.mem_filter]
      constructor
      · intro h
        by_cases e : x ∈ as
        · exact .inl e
        · exact .inr ⟨h, by simpa using e⟩
      · rintro (h | h)
        · exact sub x h
        · exact h.1
  refine (p.flatMap_right f).trans ?_
  rw [List.flatMap_append]
  have e : (bs.filter fun b => !decide (b ∈ as)).flatMap f = [] := by
    rw [List.flatMap_eq_nil_iff]
    intro b hb
    obtain ⟨h1, h2⟩ := List.mem_filter.mp hb
    exact no b h1 (by simpa using h2)
  rw [e, List.append_nil]
/-- all amounts of the own lines: any list of them will do -/
theorem inSeq_any {owns others : List Ln} {bs : List Int} (hb : bs.Nodup) (hs : ∀ l ∈ owns, l.2.2 ∈ bs) : inSeqF owns others = sortPr (bs.flatMap fun a => ((linesF owns a).zip (linesF others a)).map fun p => (p.1.1, p.2.1)) := by
  unfold inSeqF
  refine sortPr_of ?_ ?_
  · refine ((flat_perm (ddI_nodup _) hb (fun a ha => ?_) fun b _ hb => ?_).symm).trans (sortPr_perm _).symm
    · obtain ⟨l, hl, rfl⟩ := List.mem_map.mp (mem_ddI.mp ha)
      exact hs l hl
    · have e : linesF owns b = [] := by
        rw [List.eq_nil_iff_forall_not_mem]
        intro l hl
        exact hb (mem_ddI.mpr (List.mem_map.mpr ⟨l, (mem_linesF.mp hl).1, (mem_linesF.mp hl).2⟩))
      rw [e]
      rfl
  · exact sortPr_of (List.Perm.refl _) ((sortF_iff prL).mpr (sortF_pw prL _))
theorem lines_perm {book : List Ln} (h : (ids book).Nodup) {bs : List Int} (hb : bs.Nodup) (hs : ∀ l ∈ book, l.2.2 ∈ bs) : (bs.flatMap fun a => linesF book a).Perm book := by
  refine (List.perm_ext_iff_of_nodup ?_ (ln_nodup h)).mpr fun x => ?_
  · show List.Pairwise _ _
    rw [List.pairwise_flatMap]
    refine ⟨fun a _ => linesF_nodup h, hb.imp fun {a b} hab x hx y hy e => hab ?_⟩
    rw [← (mem_linesF.mp hx).2, ← (mem_linesF.mp hy).2, e]
  · rw [List.mem_flatMap]
    exact ⟨fun ⟨a, _, hx⟩ => (mem_linesF.mp hx).1, fun hx => ⟨_, hs x hx, mem_linesF.mpr ⟨hx, rfl⟩⟩⟩
/-- of every amount as many own lines as other ones -/
structure Bal (owns others : List Ln) : Prop where
  n1 : (ids owns).Nodup
  n2 : (ids others).Nodup
  eq : ∀ a, (linesF owns a).length = (linesF others a).length
theorem Bal.ids {owns others : List Ln} (b : Bal owns others) : ((inSeqF owns others).map (·.1)).Perm (Ml.ids owns) ∧ ((inSeqF owns others).map (·.2)).Perm (Ml.ids others) := by
  have hb := ddI_nodup ((owns ++ others).map (·.2.2))
  have m1 : ∀ l ∈ owns, l.2.2 ∈ ddI ((owns ++ others).map (·.2.2)) := fun l hl => mem_ddI.mpr (List.mem_map.mpr ⟨l, List.mem_append_left _ hl, rfl⟩)
  have m2 : ∀ l ∈ others, l.2.2 ∈ ddI ((owns ++ others).map (·.2.2)) := fun l hl => mem_ddI.mpr (List.mem_map.mpr ⟨l, List.mem_append_right _ hl, rfl⟩)
  rw [inSeq_any hb m1]
  refine ⟨((sortPr_perm _).map _).trans ?_, ((sortPr_perm _).map _).trans ?_⟩
  · rw [List.map_flatMap]
    have e : (fun a => (((linesF owns a).zip (linesF others a)).map fun p : Ln × Ln => (p.1.1, p.2.1)).map (·.1)) = fun a => (linesF owns a).map (·.1) := by
      funext a
      rw [List.map_map]
      show ((linesF owns a).zip (linesF others a)).map ((fun l : Ln => l.1) ∘ (·.1)) = _
      rw [← List.map_map, List.map_fst_zip (Nat.le_of_eq (b.eq a))]
    rw [e]
    have := (lines_perm b.n1 hb m1).map (·.1)
    rwa [List.map_flatMap] at this
  · rw [List.map_flatMap]
    have e : (fun a => (((linesF owns a).zip (linesF others a)).map fun p : Ln × Ln => (p.1.1, p.2.1)).map (·.2)) = fun a => (linesF others a).map (·.1) := by
      funext a
      rw [List.map_map]
      show ((linesF owns a).zip (linesF others a)).map ((fun l : Ln => l.1) ∘ (·.2)) = _
      rw [← List.map_map, List.map_snd_zip (Nat.le_of_eq (b.eq a).symm)]
    rw [e]
    have := (lines_perm b.n2 hb m2).map (·.1)
    rwa [List.map_flatMap] at this
section
variable {own other : List Ln}
theorem m_lines (h : StOk own other) {p a : Int} {M : List (Ln × Ln)} (hM : St.IsM (linesF own a).reverse (linesF other a).reverse M) (e1 : ∀ l, l ∈ M.map (·.1) ↔ l ∈ mOwn own other p ∧ l.2.2 = a) (e2 : ∀ l, l ∈ M.map (·.2) ↔ l ∈ mOther own other p ∧ l.2.2 = a) :
    (linesF (mOwn own other p) a).Perm (M.map (·.1)) ∧ (linesF (mOther own other p) a).Perm (M.map (·.2)) :=
  ⟨(List.perm_ext_iff_of_nodup (linesF_nodup (chosen_ids h.n1 _)) hM.n1).mpr fun l => by rw [mem_linesF, e1]; exact Iff.rfl, (List.perm_ext_iff_of_nodup (linesF_nodup (chosen_ids h.n2 _)) hM.n2).mpr fun l => by rw [mem_linesF, e2]; exact Iff.rfl⟩
theorem m_bal (h : StOk own other) (p : Int) : Bal (mOwn own other p) (mOther own other p) := by
  refine ⟨chosen_ids h.n1 _, chosen_ids h.n2 _, fun a => ?_⟩
  obtain ⟨M, hM, e1, e2, _⟩ := price_sets h p a
  obtain ⟨p1, p2⟩ := m_lines h hM e1 e2
  rw [p1.length_eq, p2.length_eq, List.length_map, List.length_map]
theorem dp_diag {c : Ln → Ln → Int} : ∀ (n : Nat) (A B : List Ln), A.length = n → B.length = n → (St.dp c A B)[n]? = some (St.cost c (A.zip B))
  | 0, A, B, h1, h2 => by
    obtain rfl := List.length_eq_zero_iff.mp h1
    rw [St.dp]
    rfl
  | n + 1, [], B, h1, _ => by simp at h1
  | n + 1, a :: A, [], _, h2 => by simp at h2
  | n + 1, a :: A, b :: B, h1, h2 => by
    have h1 : A.length = n := by simpa using h1
    have h2 : B.length = n := by simpa using h2
    rw [St.dp, St.lesser_get, St.lesser_get]
    rw [List.getElem?_eq_none (l := St.dp c A (b :: B)) (by rw [St.dp_length _ _ _ rfl, List.length_cons]; omega)]
    rw [List.getElem?_eq_none (l := St.dp c (a :: A) B) (by rw [St.dp_length _ _ _ rfl, List.length_cons]; omega)]
    rw [List.getElem?_cons_succ, List.getElem?_map, dp_diag n A B h1 h2, List.zip_cons_cons, St.cost_cons]
    show some _ = some _
    congr 1
    exact Int.add_comm _ _
theorem zip_snoc {α β : Type} {x : α} {y : β} : ∀ {A : List α} {B : List β}, A.length = B.length → (A ++ [x]).zip (B ++ [y]) = A.zip B ++ [(x, y)]
  | [], [], _ => rfl
  | a :: A, b :: B, h => by
    rw [List.cons_append, List.cons_append, List.zip_cons_cons, zip_snoc (by simpa using h)]
    rfl
theorem zip_rev {α β : Type} : ∀ {A : List α} {B : List β}, A.length = B.length → (A.reverse.zip B.reverse).Perm (A.zip B)
  | [], [], _ => List.Perm.refl _
  | a :: A, b :: B, h => by
    have h' : A.length = B.length := by simpa using h
    rw [List.reverse_cons, List.reverse_cons, zip_snoc (by simpa using h'), List.zip_cons_cons]
    exact (List.perm_append_singleton _ _).trans ((zip_rev h').cons _)
/-- in sequence is least -/
theorem seq_least {owns others : List Ln} (b : Bal owns others) {a : Int} {M : List (Ln × Ln)} (p1 : (linesF owns a).Perm (M.map (·.1))) (p2 : (linesF others a).Perm (M.map (·.2))) : St.cost dlt ((linesF owns a).zip (linesF others a)) ≤ St.cost dlt M := by
  have t := tab_of b.n1 b.n2 a (fun _ => 0) (fun _ => 0) 0
  have hM : St.IsM (linesF owns a).reverse (linesF others a).reverse M := ⟨(p1.nodup_iff).mp (linesF_nodup b.n1), (p2.nodup_iff).mp (linesF_nodup b.n2), fun q hq => List.mem_reverse.mpr (p1.mem_iff.mpr (List.mem_map.mpr ⟨q, hq, rfl⟩)), fun q hq => List.mem_reverse.mpr (p2.mem_iff.mpr (List.mem_map.mpr ⟨q, hq, rfl⟩))⟩
  have lM : M.length = (linesF owns a).length := by have := p1.length_eq; simpa using this.symm
  have o := t.opt M.length
  rw [dp_diag M.length _ _ (by rw [List.length_reverse, lM]) (by rw [List.length_reverse, lM, b.eq])] at o
  have := o.2 M hM rfl
  have z : ∀ N : List (Ln × Ln), St.cost (St.cw dlt (fun _ => 0) (fun _ => 0) (2 ^ 0)) N = St.cost dlt N := fun N => by
    rw [St.cost_cw]
    have s : ∀ L : List Ln, St.sumU (fun _ => (0 : Int)) L = 0 := fun L => by
      induction L with
      | nil => rfl
      | cons x L ih => rw [St.sumU_cons, ih]; rfl
    rw [s, s]
    simp
  rw [z, z] at this
  have pz : ((linesF owns a).reverse.zip (linesF others a).reverse).Perm ((linesF owns a).zip (linesF others a)) := by
    exact zip_rev (b.eq a)
  rwa [St.cost_perm pz] at this
end
end Ml

/-! Ml45: unmatched lines that go, matched pairs that go. -/
namespace Ml
open PySem L2 PySem.W PySem.Calls PyProof.Rows
theorem nodup_inj {α β : Type} (f : α → β) {L : List α} (h : (L.map f).Nodup) {a b : α} (ha : a ∈ L) (hb : b ∈ L) (e : f a = f b) : a = b := by
  have pw : L.Pairwise fun a b => f a ≠ f b := List.pairwise_map.mp h
  obtain ⟨i, hi, rfl⟩ := List.getElem_of_mem ha
  obtain ⟨k, hk, rfl⟩ := List.getElem_of_mem hb
  rcases Nat.lt_trichotomy i k with g | g | g
  · exact absurd e (List.pairwise_iff_getElem.mp pw i k hi hk g)
  · subst g; rfl
  · exact absurd e.symm (List.pairwise_iff_getElem.mp pw k i hk hi g)
section
variable {own other : List Ln}
/-- the same members of a list and of what is left of it -/
theorem chosen_sub {book : List Ln} {k : Ln → Bool} {is js : List Int} (h : ∀ l ∈ book, l ∈ chosenF (book.filter k) js ↔ l ∈ chosenF book is ∧ k l = true) : chosenF (book.filter k) js = (chosenF book is).filter k := by
  unfold chosenF at h ⊢
  rw [List.filter_filter, List.filter_filter]
  apply List.filter_congr
  intro l hl
  have := h l hl
  simp only [List.mem_filter, hl, true_and, decide_eq_true_eq] at this
  by_cases hk : k l = true
  · simp only [hk, Bool.and_true, Bool.true_and, decide_eq_decide]
    simp only [hk, and_true, true_and] at this
    exact this
  · have hk : k l = false := by simpa using hk
    simp [hk]
theorem IsM.into {k1 k2 : Ln → Bool} {a : Int} {M : List (Ln × Ln)} (hM : St.IsM (linesF own a).reverse (linesF other a).reverse M) (h1 : ∀ q ∈ M, k1 q.1 = true) (h2 : ∀ q ∈ M, k2 q.2 = true) : St.IsM (linesF (own.filter k1) a).reverse (linesF (other.filter k2) a).reverse M :=
  hM.sub (fun q hq => by
    have := mem_linesF.mp (List.mem_reverse.mp (hM.s1 q hq))
    exact List.mem_reverse.mpr (mem_linesF.mpr ⟨List.mem_filter.mpr ⟨this.1, h1 q hq⟩, this.2⟩)) fun q hq => by
    have := mem_linesF.mp (List.mem_reverse.mp (hM.s2 q hq))
    exact List.mem_reverse.mpr (mem_linesF.mpr ⟨List.mem_filter.mpr ⟨this.1, h2 q hq⟩, this.2⟩)
theorem IsM.out {k1 k2 : Ln → Bool} {a : Int} {M : List (Ln × Ln)} (hM : St.IsM (linesF (own.filter k1) a).reverse (linesF (other.filter k2) a).reverse M) : St.IsM (linesF own a).reverse (linesF other a).reverse M :=
  hM.sub (fun q hq => by
    have := mem_linesF.mp (List.mem_reverse.mp (hM.s1 q hq))
    exact List.mem_reverse.mpr (mem_linesF.mpr ⟨(List.mem_filter.mp this.1).1, this.2⟩)) fun q hq => by
    have := mem_linesF.mp (List.mem_reverse.mp (hM.s2 q hq))
    exact List.mem_reverse.mpr (mem_linesF.mpr ⟨(List.mem_filter.mp this.1).1, this.2⟩)
/-- unmatched lines go -/
theorem drop_same (h : StOk own other) (k1 k2 : Ln → Bool) (p : Int) (a1 : ∀ l ∈ mOwn own other p, k1 l = true) (a2 : ∀ l ∈ mOther own other p, k2 l = true) :
    mOwn (own.filter k1) (other.filter k2) p = mOwn own other p ∧ mOther (own.filter k1) (other.filter k2) p = mOther own other p := by
  let R : Int → List (Ln × Ln) := fun a => (price_sets h p a).choose
  have hR : ∀ a, _ := fun a => (price_sets h p a).choose_spec
  have q1 : ∀ a, ∀ q ∈ R a, k1 q.1 = true := fun a q hq => a1 _ (((hR a).2.1 q.1).mp (List.mem_map.mpr ⟨q, hq, rfl⟩)).1
  have q2 : ∀ a, ∀ q ∈ R a, k2 q.2 = true := fun a q hq => a2 _ (((hR a).2.2.1 q.2).mp (List.mem_map.mpr ⟨q, hq, rfl⟩)).1
  obtain ⟨s1, s2⟩ := sub_sets h k1 k2 p R (fun a => IsM.into (hR a).1 (q1 a) (q2 a)) fun a N hN => (hR a).2.2.2 N (IsM.out hN)
  constructor
  · refine (chosen_sub (book := own) (k := k1) (is := ((stepsF own other).take (pairsAtF own other p)).map fun r : Ln => r.2.1) fun l hl => ?_).trans (List.filter_eq_self.mpr a1)
    refine (s1 l).trans (((hR l.2.2).2.1 l).trans ?_)
    exact ⟨fun z => ⟨z.1, a1 l z.1⟩, fun z => ⟨z.1, rfl⟩⟩
  · refine (chosen_sub (book := other) (k := k2) (is := ((stepsF own other).take (pairsAtF own other p)).map fun r : Ln => r.2.2) fun l hl => ?_).trans (List.filter_eq_self.mpr a2)
    refine (s2 l).trans (((hR l.2.2).2.2.1 l).trans ?_)
    exact ⟨fun z => ⟨z.1, a2 l z.1⟩, fun z => ⟨z.1, rfl⟩⟩
theorem mOf_cons {q : Ln × Ln} {M : List (Ln × Ln)} : ∀ x, x ∈ mOf (q :: M) ↔ x ∈ [(true, q.1), (false, q.2)] ++ mOf M := fun x => by
  obtain ⟨s, l⟩ := x
  rw [mem_slOf, List.mem_append, mem_slOf]
  cases s <;> simp
/-- the same pair before both -/
theorem Le.uncons {sq : List Sl} {p : Int} {q : Ln × Ln} {M N : List (Ln × Ln)} (h : Le sq p (q :: M) (q :: N)) (m1 : q.1 ∉ M.map (·.1)) (m2 : q.2 ∉ M.map (·.2)) (n1 : q.1 ∉ N.map (·.1)) (n2 : q.2 ∉ N.map (·.2)) : Le sq p M N := by
  have e : ∀ L : List (Ln × Ln), atP p (q :: L) = atP p L + (dlt q.1 q.2 - (p + 1)) := fun L => by
    unfold atP
    rw [St.cost_cons, List.length_cons]
    push_cast
    rw [Int.mul_add, Int.mul_one]
    omega
  have b : ∀ L : List (Ln × Ln), bits (mOf (q :: L)) sq = bits ([(true, q.1), (false, q.2)] ++ mOf L) sq := fun L => bits_congr sq fun x _ => mOf_cons x
  have hu : ∀ x ∈ [(true, q.1), (false, q.2)], x ∉ mOf M ∧ x ∉ mOf N := by
    intro x hx
    simp only [List.mem_cons, List.not_mem_nil, or_false] at hx
    rcases hx with rfl | rfl
    · rw [mem_slOf, mem_slOf]; exact ⟨m1, n1⟩
    · rw [mem_slOf, mem_slOf]; exact ⟨m2, n2⟩
  obtain ⟨c1, c2⟩ := bits_more (S := mOf M) (T := mOf N) sq hu
  unfold Le at h ⊢
  rw [e, e, b, b] at h
  rcases h with h | ⟨h1, h2⟩
  · exact .inl (by omega)
  · refine .inr ⟨by omega, ?_⟩
    by_cases z : bits ([(true, q.1), (false, q.2)] ++ mOf M) sq = bits ([(true, q.1), (false, q.2)] ++ mOf N) sq
    · exact Nat.le_of_eq (c2.mp z)
    · exact Nat.le_of_lt (c1.mp (by omega))
theorem Le.first {sq : List Sl} {p : Int} {M M' N : List (Ln × Ln)} (h : Le sq p M N) (hc : atP p M' ≤ atP p M) (hm : ∀ x, x ∈ mOf M' ↔ x ∈ mOf M) : Le sq p M' N := by
  have b := bits_congr (S := mOf M') (T := mOf M) sq fun x _ => hm x
  unfold Le at h ⊢
  rw [b]
  omega
theorem nodup_fst {α β : Type} {M : List (α × β)} (h : (M.map (·.1)).Nodup) : M.Nodup := (show List.Pairwise (fun a b : α × β => a.1 ≠ b.1) M from List.pairwise_map.mp h).imp fun {a b} hab e => hab (by rw [e])
theorem zip_mem {α β : Type} {A : List α} {B : List β} {q : α × β} (h : q ∈ A.zip B) : q.1 ∈ A ∧ q.2 ∈ B := List.of_mem_zip h
/-- the matching in sequence of what is matched -/
abbrev seqM (own other : List Ln) (p a : Int) : List (Ln × Ln) := (linesF (mOwn own other p) a).zip (linesF (mOther own other p) a)
theorem seqM_fst (h : StOk own other) (p a : Int) : (seqM own other p a).map (·.1) = linesF (mOwn own other p) a := List.map_fst_zip (Nat.le_of_eq ((m_bal h p).eq a))
theorem seqM_snd (h : StOk own other) (p a : Int) : (seqM own other p a).map (·.2) = linesF (mOther own other p) a := List.map_snd_zip (Nat.le_of_eq ((m_bal h p).eq a).symm)
theorem seqM_best (h : StOk own other) (p a : Int) : St.IsM (linesF own a).reverse (linesF other a).reverse (seqM own other p a) ∧ ∀ N, St.IsM (linesF own a).reverse (linesF other a).reverse N → Le (seqF own other) p (seqM own other p a) N := by
  obtain ⟨M, hM, e1, e2, low⟩ := price_sets h p a
  obtain ⟨p1, p2⟩ := m_lines h hM e1 e2
  have f1 := seqM_fst h p a
  have f2 := seqM_snd h p a
  refine ⟨⟨by rw [f1]; exact linesF_nodup (m_bal h p).n1, by rw [f2]; exact linesF_nodup (m_bal h p).n2, fun q hq => ?_, fun q hq => ?_⟩, fun N hN => (low N hN).first ?_ fun x => ?_⟩
  · have := mem_linesF.mp (zip_mem hq).1
    exact List.mem_reverse.mpr (mem_linesF.mpr ⟨mOwn_sub this.1, this.2⟩)
  · have := mem_linesF.mp (zip_mem hq).2
    exact List.mem_reverse.mpr (mem_linesF.mpr ⟨mOther_sub this.1, this.2⟩)
  · have c := seq_least (m_bal h p) p1 p2
    have l1 : (seqM own other p a).length = M.length := by
      have := p1.length_eq
      rw [← f1, List.length_map, List.length_map] at this
      exact this
    unfold atP
    rw [l1]
    exact Int.sub_le_sub_right c _
  · obtain ⟨s, l⟩ := x
    rw [mem_slOf, mem_slOf, f1, f2, p1.mem_iff, p2.mem_iff]
/-- a matched pair goes -/
theorem pair_goes (h : StOk own other) (p : Int) {x y : Ln} (hxy : (x, y) ∈ seqM own other p x.2.2) (k1 k2 : Ln → Bool) (hk1 : ∀ l ∈ own, k1 l = true ↔ l ≠ x) (hk2 : ∀ l ∈ other, k2 l = true ↔ l ≠ y) :
    mOwn (own.filter k1) (other.filter k2) p = (mOwn own other p).filter k1 ∧ mOther (own.filter k1) (other.filter k2) p = (mOther own other p).filter k2 := by
  have hx := mem_linesF.mp (zip_mem hxy).1
  have hy := mem_linesF.mp (zip_mem hxy).2
  have ya : y.2.2 = x.2.2 := hy.2
  let R : Int → List (Ln × Ln) := fun a => (seqM own other p a).filter fun q => decide (q ≠ (x, y))
  have uniq1 : ∀ a, ∀ q ∈ seqM own other p a, q.1 = x → q = (x, y) := fun a q hq e => by
    have hq1 := (mem_linesF.mp (zip_mem hq).1).2
    have ea : a = x.2.2 := by rw [← hq1, e]
    subst ea
    exact nodup_inj (fun q : Ln × Ln => q.1) (seqM_best h p x.2.2).1.n1 hq hxy e
  have uniq2 : ∀ a, ∀ q ∈ seqM own other p a, q.2 = y → q = (x, y) := fun a q hq e => by
    have hq1 := (mem_linesF.mp (zip_mem hq).2).2
    have ea : a = x.2.2 := by rw [← hq1, e, ya]
    subst ea
    exact nodup_inj (fun q : Ln × Ln => q.2) (seqM_best h p x.2.2).1.n2 hq hxy e
  have q1 : ∀ a, ∀ q ∈ R a, k1 q.1 = true := fun a q hq => by
    obtain ⟨m1, m2⟩ := List.mem_filter.mp hq
    have m2 := of_decide_eq_true m2
    have mo := mOwn_sub (mem_linesF.mp (zip_mem m1).1).1
    exact (hk1 _ mo).mpr fun e => m2 (uniq1 a q m1 e)
  have q2 : ∀ a, ∀ q ∈ R a, k2 q.2 = true := fun a q hq => by
    obtain ⟨m1, m2⟩ := List.mem_filter.mp hq
    have m2 := of_decide_eq_true m2
    have mo := mOther_sub (mem_linesF.mp (zip_mem m1).2).1
    exact (hk2 _ mo).mpr fun e => m2 (uniq2 a q m1 e)
  have sub : ∀ a, St.IsM (linesF own a).reverse (linesF other a).reverse (R a) := fun a => by
    have b := (seqM_best h p a).1
    exact ⟨b.n1.sublist (List.Sublist.map _ List.filter_sublist), b.n2.sublist (List.Sublist.map _ List.filter_sublist), fun q hq => b.s1 q (List.mem_filter.mp hq).1, fun q hq => b.s2 q (List.mem_filter.mp hq).1⟩
  have perm : (seqM own other p x.2.2).Perm ((x, y) :: R x.2.2) := by
    refine (List.perm_ext_iff_of_nodup (nodup_fst (seqM_best h p x.2.2).1.n1) (List.nodup_cons.mpr ⟨fun z => (of_decide_eq_true (List.mem_filter.mp z).2 : (x, y) ≠ (x, y)) rfl, (nodup_fst (seqM_best h p x.2.2).1.n1).filter _⟩)).mpr fun q => ?_
    rw [List.mem_cons, List.mem_filter, decide_eq_true_eq]
    constructor
    · intro hq
      by_cases e : q = (x, y)
      · exact .inl e
      · exact .inr ⟨hq, e⟩
    · rintro (rfl | hq)
      · exact hxy
      · exact hq.1
  obtain ⟨s1, s2⟩ := sub_sets h k1 k2 p R (fun a => IsM.into (sub a) (q1 a) (q2 a)) fun a N hN => by
    by_cases ea : a = x.2.2
    · subst ea
      have nx : x ∉ N.map (·.1) := fun z => by
        obtain ⟨q, hq, e⟩ := List.mem_map.mp z
        have := (mem_linesF.mp (List.mem_reverse.mp (hN.s1 q hq))).1
        obtain ⟨t1, t2⟩ := List.mem_filter.mp this
        exact (hk1 _ t1).mp t2 e
      have ny : y ∉ N.map (·.2) := fun z => by
        obtain ⟨q, hq, e⟩ := List.mem_map.mp z
        have := (mem_linesF.mp (List.mem_reverse.mp (hN.s2 q hq))).1
        obtain ⟨t1, t2⟩ := List.mem_filter.mp this
        exact (hk2 _ t1).mp t2 e
      have rx : x ∉ (R x.2.2).map (·.1) := fun z => by
        obtain ⟨q, hq, e⟩ := List.mem_map.mp z
        have t := q1 _ q hq
        rw [e] at t
        exact (hk1 _ (mOwn_sub hx.1)).mp t rfl
      have ry : y ∉ (R x.2.2).map (·.2) := fun z => by
        obtain ⟨q, hq, e⟩ := List.mem_map.mp z
        have t := q2 _ q hq
        rw [e] at t
        exact (hk2 _ (mOther_sub hy.1)).mp t rfl
      have full : St.IsM (linesF own x.2.2).reverse (linesF other x.2.2).reverse ((x, y) :: N) := St.IsM.cons (IsM.out hN) (List.mem_reverse.mpr (mem_linesF.mpr ⟨mOwn_sub hx.1, rfl⟩)) (List.mem_reverse.mpr (mem_linesF.mpr ⟨mOther_sub hy.1, hy.2⟩)) nx ny
      have l0 := (seqM_best h p x.2.2).2 _ full
      have l1 : Le (seqF own other) p ((x, y) :: R x.2.2) ((x, y) :: N) := l0.first (by unfold atP; rw [St.cost_perm perm, perm.length_eq]; exact Int.le_refl _) fun z => by
        obtain ⟨s, l⟩ := z
        rw [mem_slOf, mem_slOf, (perm.map (·.1)).mem_iff, (perm.map (·.2)).mem_iff]
      exact l1.uncons rx ry nx ny
    · have e : R a = seqM own other p a := List.filter_eq_self.mpr fun q hq => decide_eq_true fun e => by
        subst e
        exact ea (mem_linesF.mp (zip_mem hq).1).2.symm
      rw [e]
      exact (seqM_best h p a).2 N (IsM.out hN)
  have mem1 : ∀ l, l ∈ (R l.2.2).map (·.1) ↔ l ∈ mOwn own other p ∧ l ≠ x := fun l => by
    rw [List.mem_map]
    constructor
    · rintro ⟨q, hq, e⟩
      obtain ⟨m1, m2⟩ := List.mem_filter.mp hq
      refine ⟨e ▸ (mem_linesF.mp (zip_mem m1).1).1, fun z => ?_⟩
      have t := q1 _ q hq
      rw [e, z] at t
      exact (hk1 _ (mOwn_sub hx.1)).mp t rfl
    · rintro ⟨m, ne⟩
      have : l ∈ (seqM own other p l.2.2).map (·.1) := by rw [seqM_fst h]; exact mem_linesF.mpr ⟨m, rfl⟩
      obtain ⟨q, hq, e⟩ := List.mem_map.mp this
      exact ⟨q, List.mem_filter.mpr ⟨hq, decide_eq_true fun z => ne (by rw [← e, z])⟩, e⟩
  have mem2 : ∀ l, l ∈ (R l.2.2).map (·.2) ↔ l ∈ mOther own other p ∧ l ≠ y := fun l => by
    rw [List.mem_map]
    constructor
    · rintro ⟨q, hq, e⟩
      obtain ⟨m1, m2⟩ := List.mem_filter.mp hq
      refine ⟨e ▸ (mem_linesF.mp (zip_mem m1).2).1, fun z => ?_⟩
      have t := q2 _ q hq
      rw [e, z] at t
      exact (hk2 _ (mOther_sub hy.1)).mp t rfl
    · rintro ⟨m, ne⟩
      have : l ∈ (seqM own other p l.2.2).map (·.2) := by rw [seqM_snd h]; exact mem_linesF.mpr ⟨m, rfl⟩
      obtain ⟨q, hq, e⟩ := List.mem_map.mp this
      exact ⟨q, List.mem_filter.mpr ⟨hq, decide_eq_true fun z => ne (by rw [← e, z])⟩, e⟩
  constructor
  · refine chosen_sub (book := own) (k := k1) (is := ((stepsF own other).take (pairsAtF own other p)).map fun r : Ln => r.2.1) fun l hl => ?_
    refine (s1 l).trans ((mem1 l).trans (and_congr_right fun _ => (hk1 l hl).symm))
  · refine chosen_sub (book := other) (k := k2) (is := ((stepsF own other).take (pairsAtF own other p)).map fun r : Ln => r.2.2) fun l hl => ?_
    refine (s2 l).trans ((mem2 l).trans (and_congr_right fun _ => (hk2 l hl).symm))
end
end Ml

/-! Ml46: states: a left over line goes, a matched pair is confirmed, the price is higher. -/
namespace Ml
open PySem L2 PySem.W PySem.Calls PyProof.Rows
theorem linesF_pw {book : List Ln} {a : Int} : (linesF book a).Pairwise fun x y => lexLe [x.2.1, x.1] [y.2.1, y.1] = true := by
  unfold linesF
  rw [List.pairwise_map]
  exact (sortF_pw prL _).imp fun h => h
theorem linesF_filter {book : List Ln} (k : Ln → Bool) (a : Int) : linesF (book.filter k) a = (linesF book a).filter k := by
  refine List.Perm.eq_of_pairwise (le := fun x y : Ln => lexLe [x.2.1, x.1] [y.2.1, y.1] = true) (fun x y hx hy h1 h2 => ?_) linesF_pw (linesF_pw.sublist List.filter_sublist) ?_
  · have e := lexLe_antisymm h1 h2
    have ex := (mem_linesF.mp hx).2
    have ey := (mem_linesF.mp (List.mem_filter.mp hy).1).2
    obtain ⟨x1, x2, x3⟩ := x
    obtain ⟨y1, y2, y3⟩ := y
    simp at e ex ey ⊢
    omega
  · refine linesF_perm.trans (List.Perm.trans ?_ (linesF_perm.filter k).symm)
    rw [List.filter_filter, List.filter_filter]
    refine List.Perm.of_eq (List.filter_congr fun l _ => Bool.and_comm _ _)
theorem zip_filter {α β : Type} {k1 : α → Bool} {k2 : β → Bool} : ∀ {A : List α} {B : List β}, A.length = B.length → (∀ q ∈ A.zip B, k1 q.1 = k2 q.2) → (A.filter k1).zip (B.filter k2) = (A.zip B).filter fun q => k1 q.1
  | [], [], _, _ => rfl
  | a :: A, b :: B, hl, h => by
    have ih := zip_filter (k1 := k1) (k2 := k2) (show A.length = B.length by simpa using hl) fun q hq => h q (by rw [List.zip_cons_cons]; exact List.mem_cons_of_mem _ hq)
    have hk : k1 a = k2 b := h (a, b) (by rw [List.zip_cons_cons]; exact List.mem_cons_self)
    rw [List.zip_cons_cons]
    cases e : k1 a with
    | true => rw [List.filter_cons, if_pos e, List.filter_cons, if_pos (hk ▸ e), List.filter_cons, if_pos (show k1 (a, b).1 = true from e), List.zip_cons_cons, ih]
    | false =>
      have e2 : k2 b = false := hk ▸ e
      rw [List.filter_cons, if_neg (by rw [e]; decide), List.filter_cons, if_neg (by rw [e2]; decide), List.filter_cons, if_neg (by show ¬ k1 a = true; rw [e]; decide), ih]
theorem sortPr_filt (k : Pr → Bool) (L : List Pr) : sortPr (L.filter k) = (sortPr L).filter k :=
  sortPr_of (((sortPr_perm L).filter k).symm) ((sortF_iff prL).mpr ((sortF_pw prL L).sublist List.filter_sublist))
/-- a pair goes out of a sequence -/
theorem inSeq_filter {owns others : List Ln} (b : Bal owns others) {x y : Ln} (hxy : (x, y) ∈ (linesF owns x.2.2).zip (linesF others x.2.2)) (k1 k2 : Ln → Bool) (hk1 : ∀ l ∈ owns, k1 l = true ↔ l ≠ x) (hk2 : ∀ l ∈ others, k2 l = true ↔ l ≠ y) :
    inSeqF (owns.filter k1) (others.filter k2) = (inSeqF owns others).filter fun q => decide (q ≠ (x.1, y.1)) := by
  have hx := mem_linesF.mp (zip_mem hxy).1
  have hy := mem_linesF.mp (zip_mem hxy).2
  have hb := ddI_nodup (owns.map (·.2.2))
  have m1 : ∀ l ∈ owns, l.2.2 ∈ ddI (owns.map (·.2.2)) := fun l hl => mem_ddI.mpr (List.mem_map.mpr ⟨l, hl, rfl⟩)
  have f1 : ∀ a, ((linesF owns a).zip (linesF others a)).map (·.1) = linesF owns a := fun a => List.map_fst_zip (Nat.le_of_eq (b.eq a))
  have f2 : ∀ a, ((linesF owns a).zip (linesF others a)).map (·.2) = linesF others a := fun a => List.map_snd_zip (Nat.le_of_eq (b.eq a).symm)
  have one : ∀ a, ∀ q ∈ (linesF owns a).zip (linesF others a), (q.1 = x ↔ q = (x, y)) ∧ (q.2 = y ↔ q = (x, y)) := fun a q hq => by
    have g1 := mem_linesF.mp (zip_mem hq).1
    have g2 := mem_linesF.mp (zip_mem hq).2
    refine ⟨⟨fun e => ?_, fun e => by rw [e]⟩, ⟨fun e => ?_, fun e => by rw [e]⟩⟩
    · have ea : a = x.2.2 := by rw [← g1.2, e]
      subst ea
      exact nodup_inj (fun q : Ln × Ln => q.1) (by rw [f1]; exact linesF_nodup b.n1) hq hxy e
    · have ea : a = x.2.2 := by rw [← g2.2, e]; exact hy.2
      subst ea
      exact nodup_inj (fun q : Ln × Ln => q.2) (by rw [f2]; exact linesF_nodup b.n2) hq hxy e
  have kk : ∀ a, ∀ q ∈ (linesF owns a).zip (linesF others a), (k1 q.1 = true ↔ q ≠ (x, y)) ∧ (k2 q.2 = true ↔ q ≠ (x, y)) := fun a q hq => by
    have g1 := (mem_linesF.mp (zip_mem hq).1).1
    have g2 := (mem_linesF.mp (zip_mem hq).2).1
    exact ⟨(hk1 _ g1).trans (not_congr (one a q hq).1), (hk2 _ g2).trans (not_congr (one a q hq).2)⟩
  rw [inSeq_any hb (fun l hl => m1 l (List.mem_filter.mp hl).1), inSeq_any hb m1, ← sortPr_filt]
  congr 1
  rw [List.filter_flatMap]
  congr 1
  funext a
  rw [linesF_filter, linesF_filter, zip_filter (b.eq a), List.filter_map]
  · congr 1
    apply List.filter_congr
    intro q hq
    have h1 := (kk a q hq).1
    have g1 := (mem_linesF.mp (zip_mem hq).1).1
    have g2 := (mem_linesF.mp (zip_mem hq).2).1
    have h2 : q = (x, y) ↔ (q.1.1, q.2.1) = (x.1, y.1) := by
      constructor
      · rintro rfl
        rfl
      · intro e
        have e1 : q.1.1 = x.1 := (Prod.mk.inj e).1
        exact (one a q hq).1.mp (ids_inj b.n1 g1 hx.1 e1)
    show k1 q.1 = decide ((q.1.1, q.2.1) ≠ (x.1, y.1))
    rw [Bool.eq_iff_iff, h1, decide_eq_true_eq]
    exact not_congr h2
  · intro q hq
    have := kk a q hq
    rw [Bool.eq_iff_iff, this.1, this.2]
theorem inSeq_from {owns others : List Ln} {i j : Int} (h : (i, j) ∈ inSeqF owns others) : ∃ x y, x.1 = i ∧ y.1 = j ∧ (x, y) ∈ (linesF owns x.2.2).zip (linesF others x.2.2) := by
  unfold inSeqF at h
  rw [(sortPr_perm _).mem_iff, List.mem_flatMap] at h
  obtain ⟨a, _, h⟩ := h
  obtain ⟨q, hq, e⟩ := List.mem_map.mp h
  have ea := (mem_linesF.mp (zip_mem hq).1).2
  exact ⟨q.1, q.2, (Prod.mk.inj e).1, (Prod.mk.inj e).2, by rw [ea]; exact hq⟩
/-! ### states -/
section
variable {m : Nat} {t : Stt}
abbrev mO (t : Stt) : List Ln := mOwn (openOwn t) (openOther t) t.cap
abbrev mT (t : Stt) : List Ln := mOther (openOwn t) (openOther t) t.cap
theorem matched_eq : matchedF t = inSeqF (mO t) (mT t) := rfl
theorem matched_ids (g : StOk (openOwn t) (openOther t)) : ((matchedF t).map (·.1)).Perm (ids (mO t)) ∧ ((matchedF t).map (·.2)).Perm (ids (mT t)) := (m_bal g t.cap).ids
theorem matched_fst (g : StOk (openOwn t) (openOther t)) {l : Ln} (hl : l ∈ openOwn t) : l.1 ∈ (matchedF t).map (·.1) ↔ l ∈ mO t := by
  rw [(matched_ids g).1.mem_iff]
  constructor
  · intro h
    obtain ⟨l', h1, h2⟩ := List.mem_map.mp h
    have := ids_inj g.n1 (mOwn_sub h1) hl h2
    rwa [this] at h1
  · exact fun h => List.mem_map.mpr ⟨l, h, rfl⟩
theorem matched_snd (g : StOk (openOwn t) (openOther t)) {l : Ln} (hl : l ∈ openOther t) : l.1 ∈ (matchedF t).map (·.2) ↔ l ∈ mT t := by
  rw [(matched_ids g).2.mem_iff]
  constructor
  · intro h
    obtain ⟨l', h1, h2⟩ := List.mem_map.mp h
    have := ids_inj g.n2 (mOther_sub h1) hl h2
    rwa [this] at h1
  · exact fun h => List.mem_map.mpr ⟨l, h, rfl⟩
theorem mem_leftOwn {i : Int} : i ∈ leftOwn t ↔ i ∈ ids (openOwn t) ∧ i ∉ (matchedF t).map (·.1) := by
  unfold leftOwn ids
  rw [List.mem_map, List.mem_map]
  constructor
  · rintro ⟨l, hl, rfl⟩
    obtain ⟨h1, h2⟩ := List.mem_filter.mp hl
    exact ⟨⟨l, h1, rfl⟩, by simpa using h2⟩
  · rintro ⟨⟨l, hl, rfl⟩, h⟩
    exact ⟨l, List.mem_filter.mpr ⟨hl, by simpa using h⟩, rfl⟩
theorem mem_leftOther {i : Int} : i ∈ leftOther t ↔ i ∈ ids (openOther t) ∧ i ∉ (matchedF t).map (·.2) := by
  unfold leftOther ids
  rw [List.mem_map, List.mem_map]
  constructor
  · rintro ⟨l, hl, rfl⟩
    obtain ⟨h1, h2⟩ := List.mem_filter.mp hl
    exact ⟨⟨l, h1, rfl⟩, by simpa using h2⟩
  · rintro ⟨⟨l, hl, rfl⟩, h⟩
    exact ⟨l, List.mem_filter.mpr ⟨hl, by simpa using h⟩, rfl⟩
theorem open_own_at {l : Ln} : l ∈ openOwn t ↔ l ∈ t.own ∧ l.1 ∉ t.fixed.map (·.1) := by
  unfold openOwn
  rw [List.mem_filter]
  simp
theorem open_other_at {l : Ln} : l ∈ openOther t ↔ l ∈ t.other ∧ l.1 ∉ t.fixed.map (·.2) := by
  unfold openOther
  rw [List.mem_filter]
  simp
theorem filter_ne_self {i : Int} {ps : List Pr} (f : Pr → Int) (h : i ∉ ps.map f) : ps.filter (fun p => decide (f p ≠ i)) = ps := List.filter_eq_self.mpr fun p hp => decide_eq_true fun e => h (List.mem_map.mpr ⟨p, hp, e⟩)
/-- a left over own line goes -/
theorem left_drop_own (v : Val m t) (hm : m ≤ 63) {i : Int} (hi : i ∈ leftOwn t) : matchedF (rawS t (.dropOwn i)) = matchedF t ∧ leftOwn (rawS t (.dropOwn i)) = (leftOwn t).filter (fun j => decide (j ≠ i)) ∧ leftOther (rawS t (.dropOwn i)) = leftOther t := by
  have g := v.stok hm
  obtain ⟨h1, h2⟩ := mem_leftOwn.mp hi
  obtain ⟨x, hx, ex⟩ := List.mem_map.mp h1
  have nf : i ∉ t.fixed.map (·.1) := ex ▸ (open_own_at.mp hx).2
  have ef : t.fixed.filter (fun p => decide (p.1 ≠ i)) = t.fixed := filter_ne_self (fun p => p.1) nf
  have e1 : openOwn (rawS t (.dropOwn i)) = (openOwn t).filter fun l => decide (l.1 ≠ i) := by
    show (t.own.filter fun l => decide (l.1 ≠ i)).filter (fun l => !decide (l.1 ∈ (t.fixed.filter fun p => decide (p.1 ≠ i)).map (·.1))) = (t.own.filter fun l => !decide (l.1 ∈ t.fixed.map (·.1))).filter _
    rw [ef, List.filter_filter, List.filter_filter]
    exact List.filter_congr fun l _ => Bool.and_comm _ _
  have e2 : openOther (rawS t (.dropOwn i)) = (openOther t).filter fun _ => true := by
    show t.other.filter (fun l => !decide (l.1 ∈ (t.fixed.filter fun p => decide (p.1 ≠ i)).map (·.2))) = _
    rw [ef, List.filter_eq_self.mpr fun _ _ => rfl]
    rfl
  have d := drop_same g (fun l => decide (l.1 ≠ i)) (fun _ => true) t.cap (fun l hl => decide_eq_true fun e => h2 (e ▸ (matched_fst g (mOwn_sub hl)).mpr hl)) fun _ _ => rfl
  have em : matchedF (rawS t (.dropOwn i)) = matchedF t := by
    show inSeqF (mOwn (openOwn (rawS t (.dropOwn i))) (openOther (rawS t (.dropOwn i))) t.cap) (mOther (openOwn (rawS t (.dropOwn i))) (openOther (rawS t (.dropOwn i))) t.cap) = _
    rw [e1, e2, d.1, d.2]
    rfl
  refine ⟨em, ?_, ?_⟩
  · unfold leftOwn
    rw [em, e1, List.filter_filter, List.filter_map, List.filter_filter]
    congr 1
    exact List.filter_congr fun l _ => Bool.and_comm _ _
  · unfold leftOther
    rw [em, e2, List.filter_filter]
    congr 1
    exact List.filter_congr fun l _ => Bool.and_true _
theorem left_drop_other (v : Val m t) (hm : m ≤ 63) {i : Int} (hi : i ∈ leftOther t) : matchedF (rawS t (.dropOther i)) = matchedF t ∧ leftOther (rawS t (.dropOther i)) = (leftOther t).filter (fun j => decide (j ≠ i)) ∧ leftOwn (rawS t (.dropOther i)) = leftOwn t := by
  have g := v.stok hm
  obtain ⟨h1, h2⟩ := mem_leftOther.mp hi
  obtain ⟨x, hx, ex⟩ := List.mem_map.mp h1
  have nf : i ∉ t.fixed.map (·.2) := ex ▸ (open_other_at.mp hx).2
  have ef : t.fixed.filter (fun p => decide (p.2 ≠ i)) = t.fixed := filter_ne_self (fun p => p.2) nf
  have e1 : openOther (rawS t (.dropOther i)) = (openOther t).filter fun l => decide (l.1 ≠ i) := by
    show (t.other.filter fun l => decide (l.1 ≠ i)).filter (fun l => !decide (l.1 ∈ (t.fixed.filter fun p => decide (p.2 ≠ i)).map (·.2))) = (t.other.filter fun l => !decide (l.1 ∈ t.fixed.map (·.2))).filter _
    rw [ef, List.filter_filter, List.filter_filter]
    exact List.filter_congr fun l _ => Bool.and_comm _ _
  have e2 : openOwn (rawS t (.dropOther i)) = (openOwn t).filter fun _ => true := by
    show t.own.filter (fun l => !decide (l.1 ∈ (t.fixed.filter fun p => decide (p.2 ≠ i)).map (·.1))) = _
    rw [ef, List.filter_eq_self.mpr fun _ _ => rfl]
    rfl
  have d := drop_same g (fun _ => true) (fun l => decide (l.1 ≠ i)) t.cap (fun _ _ => rfl) fun l hl => decide_eq_true fun e => h2 (e ▸ (matched_snd g (mOther_sub hl)).mpr hl)
  have em : matchedF (rawS t (.dropOther i)) = matchedF t := by
    show inSeqF (mOwn (openOwn (rawS t (.dropOther i))) (openOther (rawS t (.dropOther i))) t.cap) (mOther (openOwn (rawS t (.dropOther i))) (openOther (rawS t (.dropOther i))) t.cap) = _
    rw [e1, e2, d.1, d.2]
    rfl
  refine ⟨em, ?_, ?_⟩
  · unfold leftOther
    rw [em, e1, List.filter_filter, List.filter_map, List.filter_filter]
    congr 1
    exact List.filter_congr fun l _ => Bool.and_comm _ _
  · unfold leftOwn
    rw [em, e2, List.filter_filter]
    congr 1
    exact List.filter_congr fun l _ => Bool.and_true _
/-- a matched pair is confirmed -/
def confT (t : Stt) (i j : Int) : Stt := { t with fixed := sortPr (t.fixed ++ [(i, j)]) }
theorem conf_pair (v : Val m t) (hm : m ≤ 63) {i j : Int} (hp : (i, j) ∈ matchedF t) : matchedF (confT t i j) = (matchedF t).filter (fun q => decide (q ≠ (i, j))) ∧ leftOwn (confT t i j) = leftOwn t ∧ leftOther (confT t i j) = leftOther t ∧ (i ∈ ids t.own ∧ i ∉ t.fixed.map (·.1)) ∧ j ∈ ids t.other ∧ j ∉ t.fixed.map (·.2) := by
  have g := v.stok hm
  obtain ⟨x, y, rfl, rfl, hxy⟩ := inSeq_from (matched_eq ▸ hp)
  have hx := mOwn_sub (mem_linesF.mp (zip_mem hxy).1).1
  have hy := mOther_sub (mem_linesF.mp (zip_mem hxy).2).1
  have ox := open_own_at.mp hx
  have oy := open_other_at.mp hy
  have pf := sortPr_perm (t.fixed ++ [(x.1, y.1)])
  have e1 : openOwn (confT t x.1 y.1) = (openOwn t).filter fun l => decide (l.1 ≠ x.1) := by
    show t.own.filter (fun l => !decide (l.1 ∈ (sortPr (t.fixed ++ [(x.1, y.1)])).map (·.1))) = (t.own.filter fun l => !decide (l.1 ∈ t.fixed.map (·.1))).filter _
    rw [List.filter_filter]
    apply List.filter_congr
    intro l _
    have : l.1 ∈ (sortPr (t.fixed ++ [(x.1, y.1)])).map (·.1) ↔ l.1 ∈ t.fixed.map (·.1) ∨ l.1 = x.1 := by
      rw [(pf.map (·.1)).mem_iff, List.map_append, List.mem_append]
      simp
    rw [decide_eq_decide.mpr this, Bool.decide_or, show decide (l.1 ≠ x.1) = !decide (l.1 = x.1) from decide_not]
    cases decide (l.1 ∈ t.fixed.map (·.1)) <;> cases decide (l.1 = x.1) <;> rfl
  have e2 : openOther (confT t x.1 y.1) = (openOther t).filter fun l => decide (l.1 ≠ y.1) := by
    show t.other.filter (fun l => !decide (l.1 ∈ (sortPr (t.fixed ++ [(x.1, y.1)])).map (·.2))) = (t.other.filter fun l => !decide (l.1 ∈ t.fixed.map (·.2))).filter _
    rw [List.filter_filter]
    apply List.filter_congr
    intro l _
    have : l.1 ∈ (sortPr (t.fixed ++ [(x.1, y.1)])).map (·.2) ↔ l.1 ∈ t.fixed.map (·.2) ∨ l.1 = y.1 := by
      rw [(pf.map (·.2)).mem_iff, List.map_append, List.mem_append]
      simp
    rw [decide_eq_decide.mpr this, Bool.decide_or, show decide (l.1 ≠ y.1) = !decide (l.1 = y.1) from decide_not]
    cases decide (l.1 ∈ t.fixed.map (·.2)) <;> cases decide (l.1 = y.1) <;> rfl
  have k1 : ∀ l ∈ openOwn t, decide (l.1 ≠ x.1) = true ↔ l ≠ x := fun l hl => by
    rw [decide_eq_true_eq]
    exact not_congr ⟨fun e => ids_inj g.n1 hl hx e, fun e => by rw [e]⟩
  have k2 : ∀ l ∈ openOther t, decide (l.1 ≠ y.1) = true ↔ l ≠ y := fun l hl => by
    rw [decide_eq_true_eq]
    exact not_congr ⟨fun e => ids_inj g.n2 hl hy e, fun e => by rw [e]⟩
  have d := pair_goes g t.cap hxy (fun l => decide (l.1 ≠ x.1)) (fun l => decide (l.1 ≠ y.1)) k1 k2
  have em : matchedF (confT t x.1 y.1) = (matchedF t).filter fun q => decide (q ≠ (x.1, y.1)) := by
    show inSeqF (mOwn (openOwn (confT t x.1 y.1)) (openOther (confT t x.1 y.1)) t.cap) (mOther (openOwn (confT t x.1 y.1)) (openOther (confT t x.1 y.1)) t.cap) = _
    rw [e1, e2, d.1, d.2]
    exact inSeq_filter (m_bal g t.cap) hxy _ _ (fun l hl => k1 l (mOwn_sub hl)) fun l hl => k2 l (mOther_sub hl)
  have n1 : ((matchedF t).map (·.1)).Nodup := (matched_ids g).1.nodup_iff.mpr (m_bal g t.cap).n1
  have n2 : ((matchedF t).map (·.2)).Nodup := (matched_ids g).2.nodup_iff.mpr (m_bal g t.cap).n2
  have f1 : ∀ i, i ∈ ((matchedF t).filter fun q => decide (q ≠ (x.1, y.1))).map (·.1) ↔ i ∈ (matchedF t).map (·.1) ∧ i ≠ x.1 := fun i => by
    rw [List.mem_map, List.mem_map]
    constructor
    · rintro ⟨q, hq, rfl⟩
      obtain ⟨a, b⟩ := List.mem_filter.mp hq
      exact ⟨⟨q, a, rfl⟩, fun e => (of_decide_eq_true b : q ≠ (x.1, y.1)) (nodup_inj (fun q : Pr => q.1) n1 a hp e)⟩
    · rintro ⟨⟨q, a, rfl⟩, b⟩
      exact ⟨q, List.mem_filter.mpr ⟨a, decide_eq_true fun e => b (by rw [e])⟩, rfl⟩
  have f2 : ∀ i, i ∈ ((matchedF t).filter fun q => decide (q ≠ (x.1, y.1))).map (·.2) ↔ i ∈ (matchedF t).map (·.2) ∧ i ≠ y.1 := fun i => by
    rw [List.mem_map, List.mem_map]
    constructor
    · rintro ⟨q, hq, rfl⟩
      obtain ⟨a, b⟩ := List.mem_filter.mp hq
      exact ⟨⟨q, a, rfl⟩, fun e => (of_decide_eq_true b : q ≠ (x.1, y.1)) (nodup_inj (fun q : Pr => q.2) n2 a hp e)⟩
    · rintro ⟨⟨q, a, rfl⟩, b⟩
      exact ⟨q, List.mem_filter.mpr ⟨a, decide_eq_true fun e => b (by rw [e])⟩, rfl⟩
  have m1 : x.1 ∈ (matchedF t).map (·.1) := List.mem_map.mpr ⟨_, hp, rfl⟩
  have m2 : y.1 ∈ (matchedF t).map (·.2) := List.mem_map.mpr ⟨_, hp, rfl⟩
  refine ⟨em, ?_, ?_, ⟨List.mem_map.mpr ⟨x, ox.1, rfl⟩, ox.2⟩, List.mem_map.mpr ⟨y, oy.1, rfl⟩, oy.2⟩
  · unfold leftOwn
    rw [em, e1, List.filter_filter]
    congr 1
    apply List.filter_congr
    intro l _
    have := f1 l.1
    by_cases a : l.1 = x.1
    · simp [this, a, m1]
    · simp [this, a]
  · unfold leftOther
    rw [em, e2, List.filter_filter]
    congr 1
    apply List.filter_congr
    intro l _
    have := f2 l.1
    by_cases a : l.1 = y.1
    · simp [this, a, m2]
    · simp [this, a]
/-- at a higher price -/
theorem left_higher (g : StOk (openOwn t) (openOther t)) {c : Int} (hc : t.cap ≤ c) : (∀ i ∈ leftOwn { t with cap := c }, i ∈ leftOwn t) ∧ ∀ i ∈ leftOther { t with cap := c }, i ∈ leftOther t := by
  have sub : ∀ r ∈ (stepsF (openOwn t) (openOther t)).take (pairsAtF (openOwn t) (openOther t) t.cap), r ∈ (stepsF (openOwn t) (openOther t)).take (pairsAtF (openOwn t) (openOther t) c) := fun r hr => by
    rw [take_price g] at hr ⊢
    obtain ⟨h1, h2⟩ := List.mem_filter.mp hr
    exact List.mem_filter.mpr ⟨h1, decide_eq_true (Int.le_trans (of_decide_eq_true h2) hc)⟩
  have s1 : ∀ l ∈ mO t, l ∈ mO { t with cap := c } := fun l hl => by
    obtain ⟨h1, h2⟩ := List.mem_filter.mp hl
    obtain ⟨r, hr, e⟩ := List.mem_map.mp (of_decide_eq_true h2)
    exact List.mem_filter.mpr ⟨h1, decide_eq_true (List.mem_map.mpr ⟨r, sub r hr, e⟩)⟩
  have s2 : ∀ l ∈ mT t, l ∈ mT { t with cap := c } := fun l hl => by
    obtain ⟨h1, h2⟩ := List.mem_filter.mp hl
    obtain ⟨r, hr, e⟩ := List.mem_map.mp (of_decide_eq_true h2)
    exact List.mem_filter.mpr ⟨h1, decide_eq_true (List.mem_map.mpr ⟨r, sub r hr, e⟩)⟩
  have g' : StOk (openOwn { t with cap := c }) (openOther { t with cap := c }) := g
  refine ⟨fun i hi => ?_, fun i hi => ?_⟩
  · obtain ⟨h1, h2⟩ := mem_leftOwn.mp hi
    refine mem_leftOwn.mpr ⟨h1, fun z => h2 ?_⟩
    rw [(matched_ids g').1.mem_iff]
    rw [(matched_ids g).1.mem_iff] at z
    obtain ⟨l, hl, e⟩ := List.mem_map.mp z
    exact List.mem_map.mpr ⟨l, s1 l hl, e⟩
  · obtain ⟨h1, h2⟩ := mem_leftOther.mp hi
    refine mem_leftOther.mpr ⟨h1, fun z => h2 ?_⟩
    rw [(matched_ids g').2.mem_iff]
    rw [(matched_ids g).2.mem_iff] at z
    obtain ⟨l, hl, e⟩ := List.mem_map.mp z
    exact List.mem_map.mpr ⟨l, s2 l hl, e⟩
end
end Ml

/-! Ml47: in, of pairs; what the methods give where they raise nothing; cells in another sequence. -/
namespace Ml
open PySem L2 PySem.W PySem.Calls PyProof.Rows
theorem hu65 {k : Nat} {A : Around} (h : Room k A) : A.units + 65 < cLine := by have := h.un; omega
section
variable {K : Frag} {Y : Wish} {μ : Mem} {ρ : Ro} {D : DE}
theorem rw_inDD {d e : Dt} {p : PyData} {ps : List PyData} {W : Dt → Mem → Prop} (h1 : PyOf μ d p) (h2 : PyOf μ e (.list ps)) (s1 : SeqAt.shaped p = true) (s2 : SeqAt.shaped (.list ps) = true) (w : W (.bl (ps.any fun z => PyData.eqv z p)) μ) : RW2 K μ (rInD K) d e W := fun T H x y M r1 r2 Q F =>
  ⟨p, ps, h1.at M r1, h2.at M r2, s1, s2, F T _ H _ μ w (Step.refl _ _ _) M (.bl _)⟩
theorem rw_notInDD {d e : Dt} {p : PyData} {ps : List PyData} {W : Dt → Mem → Prop} (h1 : PyOf μ d p) (h2 : PyOf μ e (.list ps)) (s1 : SeqAt.shaped p = true) (s2 : SeqAt.shaped (.list ps) = true) (w : W (.bl (!ps.any fun z => PyData.eqv z p)) μ) : RW2 K μ (rNotInD K) d e W := fun T H x y M r1 r2 Q F =>
  ⟨p, ps, h1.at M r1, h2.at M r2, s1, s2, F T _ H _ μ w (Step.refl _ _ _) M (.bl _)⟩
theorem any_prs (p : Pr) (ps : List Pr) : ((ps.map prP).any fun z => PyData.eqv z (prP p)) = decide (p ∈ ps) := by
  induction ps with
  | nil => rfl
  | cons q ps ih =>
    rw [List.map_cons, List.any_cons, ih, eqv_prP]
    by_cases e : q = p
    · subst e; simp
    · have e' : p ≠ q := fun z => e z.symm
      simp [e, e']
theorem rw_inPr {p : Pr} {e : Dt} {ps : List Pr} {W : Dt → Mem → Prop} (h : IsLst μ e (ps.map prD)) (w : W (.bl (decide (p ∈ ps))) μ) : RW2 K μ (rInD K) (prD p) e W :=
  rw_inDD (p := prP p) (.inl rfl) (pyof_prs h) ((low_prP p).shaped (by decide)) (sh_prs ps) (by rw [any_prs]; exact w)
theorem rw_notInPr {p : Pr} {e : Dt} {ps : List Pr} {W : Dt → Mem → Prop} (h : IsLst μ e (ps.map prD)) (w : W (.bl (!decide (p ∈ ps))) μ) : RW2 K μ (rNotInD K) (prD p) e W :=
  rw_notInDD (p := prP p) (.inl rfl) (pyof_prs h) ((low_prP p).shaped (by decide)) (sh_prs ps) (by rw [any_prs]; exact w)
theorem perm_erase {α : Type} {x : α} : ∀ {l : List α} {c : Nat}, l[c]? = some x → l.Perm (x :: l.eraseIdx c)
  | [], _, h => by simp at h
  | y :: l, 0, h => by
    simp at h
    subst h
    exact List.Perm.refl _
  | y :: l, c + 1, h => by
    rw [List.eraseIdx_cons_succ]
    exact ((perm_erase (l := l) (c := c) (by simpa using h)).cons y).trans (List.Perm.swap _ _ _)
/-- cells in another sequence -/
theorem wps_perm {μ' : Mem} {ts : TS} (p : μ.Perm μ') (h : WPS K Y ρ μ' ts D) : WPS K Y ρ μ ts D := wps_weak (rest := []) (by rw [List.append_nil]; exact p) rfl (fun _ _ e => e) h
end
theorem sub_canon {m : Nat} {s : Stt} (v : Val m s) (i : Int) : canon (rawS s (.dropOwn i)) = rawS s (.dropOwn i) ∧ canon (rawS s (.dropOther i)) = rawS s (.dropOther i) ∧ canon (rawS s (.again i)) = rawS s (.again i) := by
  refine ⟨?_, ?_, ?_⟩
  · show (⟨sortLn (s.own.filter _), sortLn s.other, s.cap, sortPr (s.fixed.filter _)⟩ : Stt) = _
    rw [sortLn_filter _ v.so, v.st, sortPr_filter _ v.sf]
    rfl
  · show (⟨sortLn s.own, sortLn (s.other.filter _), s.cap, sortPr (s.fixed.filter _)⟩ : Stt) = _
    rw [sortLn_filter _ v.st, v.so, sortPr_filter _ v.sf]
    rfl
  · show (⟨sortLn s.own, sortLn s.other, s.cap, sortPr (s.fixed.filter _)⟩ : Stt) = _
    rw [v.so, v.st, sortPr_filter _ v.sf]
    rfl
theorem dropOwn_v {m : Nat} {s : Stt} (v : Val m s) {i : Int} (h : i ∈ ids s.own) : dropOwn s i = .ok (rawS s (.dropOwn i)) ∧ Val m (rawS s (.dropOwn i)) := by
  refine ⟨?_, ?_⟩
  · unfold dropOwn needKnown
    rw [if_pos h]
    rfl
  · have := val_step (sts := []) (k := 0) (e := .dropOwn i) v h
    rwa [(sub_canon v i).1] at this
theorem dropOther_v {m : Nat} {s : Stt} (v : Val m s) {i : Int} (h : i ∈ ids s.other) : dropOther s i = .ok (rawS s (.dropOther i)) ∧ Val m (rawS s (.dropOther i)) := by
  refine ⟨?_, ?_⟩
  · unfold dropOther needKnown
    rw [if_pos h]
    rfl
  · have := val_step (sts := []) (k := 0) (e := .dropOther i) v h
    rwa [(sub_canon v i).2.1] at this
theorem confirm_v {m : Nat} {s : Stt} (v : Val m s) {i j : Int} (h1 : i ∈ ids s.own ∧ i ∉ s.fixed.map (·.1)) (h2 : j ∈ ids s.other ∧ j ∉ s.fixed.map (·.2)) : confirmS s i j = .ok (confT s i j) ∧ Val m (confT s i j) := by
  refine ⟨?_, ?_⟩
  · unfold confirmS needKnown
    rw [if_pos h1.1]
    show (match (if j ∈ ids s.other then none else some (Er.unknown j)) with | some e => _ | none => _) = _
    rw [if_pos h2.1]
    show (if _ then _ else if _ then _ else _) = _
    rw [if_neg h1.2, if_neg h2.2]
    rfl
  · have := val_step (sts := []) (k := 0) (e := .confirm i j) v ⟨h1, h2.1, h2.2⟩
    have e : canon (rawS s (.confirm i j)) = confT s i j := by
      show (⟨sortLn s.own, sortLn s.other, s.cap, sortPr (s.fixed ++ [(i, j)])⟩ : Stt) = _
      rw [v.so, v.st]
      rfl
    rwa [e] at this
/-- a confirmed pair opened again -/
theorem again_v {m : Nat} {s : Stt} (v : Val m s) {i j : Int} (h1 : i ∉ s.fixed.map (·.1)) : openAgain (confT s i j) i = .ok s := by
  have hf : (sortPr (s.fixed ++ [(i, j)])).filter (fun p => decide (p.1 ≠ i)) = s.fixed := by
    rw [← sortPr_filt, List.filter_append, filter_ne_self (fun p => p.1) h1]
    rw [show [(i, j)].filter (fun p : Pr => decide (p.1 ≠ i)) = [] from by simp, List.append_nil]
    exact v.sf
  have hi : i ∈ (confT s i j).fixed.map (·.1) := ((sortPr_perm _).map (·.1)).mem_iff.mpr (by simp)
  unfold openAgain needKnown
  rw [if_pos hi]
  show Except.ok { confT s i j with fixed := (sortPr (s.fixed ++ [(i, j)])).filter fun p => decide (p.1 ≠ i) } = _
  rw [hf]
  rfl
end Ml

/-! Ml48: books with other ids in the same sequence, days stretched and moved, other amounts. -/
namespace Ml
open PySem L2 PySem.W PySem.Calls PyProof.Rows
/-- how lines are changed -/
structure Tr where
  g1 : Int → Int
  g2 : Int → Int
  s : Int
  c : Int
  am : Int → Int
  hs : 0 < s
  m1 : ∀ x y, x < y → g1 x < g1 y
  m2 : ∀ x y, x < y → g2 x < g2 y
  inj : ∀ x y, am x = am y → x = y
namespace Tr
variable (q : Tr)
def f1 (l : Ln) : Ln := (q.g1 l.1, q.s * l.2.1 + q.c, q.am l.2.2)
def f2 (l : Ln) : Ln := (q.g2 l.1, q.s * l.2.1 + q.c, q.am l.2.2)
def F (x : Sl) : Sl := (x.1, if x.1 = true then q.f1 x.2 else q.f2 x.2)
def G (p : Pr) : Pr := (q.g1 p.1, q.g2 p.2)
end Tr
theorem mono_iff {g : Int → Int} (m : ∀ x y, x < y → g x < g y) (x y : Int) : (g x = g y ↔ x = y) ∧ (g x < g y ↔ x < y) := by
  rcases Int.lt_trichotomy x y with h | h | h
  · have := m x y h; omega
  · subst h; omega
  · have := m y x h; omega
theorem lex_cons {a b a' b' : Int} {X Y X' Y' : List Int} (h1 : a = b ↔ a' = b') (h2 : a < b ↔ a' < b') (h3 : a = b → lexLe X Y = lexLe X' Y') : lexLe (a :: X) (b :: Y) = lexLe (a' :: X') (b' :: Y') := by
  simp only [lexLe]
  by_cases e : a = b
  · have e' := h1.mp e
    rw [if_pos e, if_pos e']
    exact h3 e
  · have e' : ¬ a' = b' := fun z => e (h1.mpr z)
    rw [if_neg e, if_neg e', decide_eq_decide]
    exact h2
section
variable {own other : List Ln} (q : Tr)
theorem Tr.day (x y : Int) : (q.s * x + q.c = q.s * y + q.c ↔ x = y) ∧ (q.s * x + q.c < q.s * y + q.c ↔ x < y) := by
  have m := mono_iff (g := fun x => q.s * x + q.c) (fun x y h => by
    have := Int.mul_lt_mul_of_pos_left h q.hs
    show q.s * x + q.c < q.s * y + q.c
    omega) x y
  exact m
theorem ln_eq {x y : Ln} (h : x = y) : x = y := h
/-- the sequence -/
theorem seq_tr (n1 : (ids own).Nodup) (n2 : (ids other).Nodup) : seqF (own.map q.f1) (other.map q.f2) = (seqF own other).map q.F := by
  have e : (own.map q.f1).map (fun l => (true, l)) ++ (other.map q.f2).map (fun l => (false, l)) = (own.map (fun l => (true, l)) ++ other.map (fun l => (false, l))).map q.F := by
    rw [List.map_append, List.map_map, List.map_map, List.map_map, List.map_map]
    rfl
  unfold seqF sortSl
  rw [e]
  refine (List.map_mergeSort (fun a ha b hb => ?_)).symm
  obtain ⟨sa, la⟩ := a
  obtain ⟨sb, lb⟩ := b
  have same : sa = sb → la.1 = lb.1 → la = lb := fun es ei => by
    subst es
    rw [List.mem_append, List.mem_map, List.mem_map] at ha hb
    cases sa with
    | true =>
      have h1 : la ∈ own := by rcases ha with ⟨x, h, e⟩ | ⟨x, h, e⟩ <;> cases e; exact h
      have h2 : lb ∈ own := by rcases hb with ⟨x, h, e⟩ | ⟨x, h, e⟩ <;> cases e; exact h
      exact ids_inj n1 h1 h2 ei
    | false =>
      have h1 : la ∈ other := by rcases ha with ⟨x, h, e⟩ | ⟨x, h, e⟩ <;> cases e; exact h
      have h2 : lb ∈ other := by rcases hb with ⟨x, h, e⟩ | ⟨x, h, e⟩ <;> cases e; exact h
      exact ids_inj n2 h1 h2 ei
  by_cases eq : sa = sb ∧ la = lb
  · obtain ⟨rfl, rfl⟩ := eq
    rw [lexLe_refl, lexLe_refl]
  · unfold slK
    cases sa <;> cases sb
    · refine lex_cons (q.day _ _).1.symm (q.day _ _).2.symm fun ed => lex_cons (by simp [sdI, Tr.F]) (by simp [sdI, Tr.F]) fun _ => ?_
      have ne : ¬ la.1 = lb.1 := fun z => eq ⟨rfl, same rfl z⟩
      exact lex_cons (mono_iff q.m2 _ _).1.symm (mono_iff q.m2 _ _).2.symm fun z => absurd z ne
    · refine lex_cons (q.day _ _).1.symm (q.day _ _).2.symm fun ed => lex_cons (by simp [sdI, Tr.F]) (by simp [sdI, Tr.F]) fun z => ?_
      simp [sdI] at z
    · refine lex_cons (q.day _ _).1.symm (q.day _ _).2.symm fun ed => lex_cons (by simp [sdI, Tr.F]) (by simp [sdI, Tr.F]) fun z => ?_
      simp [sdI] at z
    · refine lex_cons (q.day _ _).1.symm (q.day _ _).2.symm fun ed => lex_cons (by simp [sdI, Tr.F]) (by simp [sdI, Tr.F]) fun _ => ?_
      have ne : ¬ la.1 = lb.1 := fun z => eq ⟨rfl, same rfl z⟩
      exact lex_cons (mono_iff q.m1 _ _).1.symm (mono_iff q.m1 _ _).2.symm fun z => absurd z ne
theorem len_tr (n1 : (ids own).Nodup) (n2 : (ids other).Nodup) : (seqF (own.map q.f1) (other.map q.f2)).length = (seqF own other).length := by rw [seq_tr q n1 n2, List.length_map]
theorem w_tr (h : StOk own other) (h' : StOk (own.map q.f1) (other.map q.f2)) : (∀ l ∈ own, wO (own.map q.f1) (other.map q.f2) (q.f1 l) = wO own other l) ∧ ∀ l ∈ other, wT (own.map q.f1) (other.map q.f2) (q.f2 l) = wT own other l := by
  have hn := ky_nodup h.n1 h.n2
  have hn' := ky_nodup h'.n1 h'.n2
  refine ⟨fun l hl => ?_, fun l hl => ?_⟩
  · obtain ⟨i, hi⟩ := List.mem_iff_getElem?.mp (seq_mem (own := own) (other := other) (s := true) (l := l) |>.mpr hl)
    have hi' : (seqF (own.map q.f1) (other.map q.f2))[i]? = some (true, q.f1 l) := by rw [seq_tr q h.n1 h.n2, List.getElem?_map, hi]; rfl
    exact (wOf_at hn' hi').trans (wOf_at hn hi).symm
  · obtain ⟨i, hi⟩ := List.mem_iff_getElem?.mp (seq_mem (own := own) (other := other) (s := false) (l := l) |>.mpr hl)
    have hi' : (seqF (own.map q.f1) (other.map q.f2))[i]? = some (false, q.f2 l) := by rw [seq_tr q h.n1 h.n2, List.getElem?_map, hi]; rfl
    exact (wOf_at hn' hi').trans (wOf_at hn hi).symm
theorem linesF_unique {book L : List Ln} {a : Int} (p : L.Perm (book.filter fun l => decide (l.2.2 = a))) (pw : L.Pairwise fun x y => lexLe [x.2.1, x.1] [y.2.1, y.1] = true) : L = linesF book a := by
  refine List.Perm.eq_of_pairwise (le := fun x y : Ln => lexLe [x.2.1, x.1] [y.2.1, y.1] = true) (fun x y hx hy h1 h2 => ?_) pw linesF_pw (p.trans linesF_perm.symm)
  have e := lexLe_antisymm h1 h2
  have ex := of_decide_eq_true (List.mem_filter.mp (p.mem_iff.mp hx)).2
  have ey := (mem_linesF.mp hy).2
  obtain ⟨x1, x2, x3⟩ := x
  obtain ⟨y1, y2, y3⟩ := y
  simp at e ex ey ⊢
  omega
theorem lines_tr (g : Int → Int) (m : ∀ x y, x < y → g x < g y) (book : List Ln) (a : Int) : linesF (book.map fun l => (g l.1, q.s * l.2.1 + q.c, q.am l.2.2)) (q.am a) = (linesF book a).map fun l => (g l.1, q.s * l.2.1 + q.c, q.am l.2.2) := by
  refine (linesF_unique ?_ ?_).symm
  · refine (linesF_perm.map _).trans ?_
    rw [List.filter_map]
    refine List.Perm.map _ (List.Perm.of_eq (List.filter_congr fun l _ => ?_))
    show decide (l.2.2 = a) = decide (q.am l.2.2 = q.am a)
    rw [decide_eq_decide]
    exact ⟨fun e => by rw [e], fun e => q.inj _ _ e⟩
  · rw [List.pairwise_map]
    refine linesF_pw.imp fun {x y} h => ?_
    have := lex_cons (X := [x.1]) (Y := [y.1]) (X' := [g x.1]) (Y' := [g y.1]) (q.day x.2.1 y.2.1).1.symm (q.day x.2.1 y.2.1).2.symm fun _ => lex_cons (mono_iff m x.1 y.1).1.symm (mono_iff m x.1 y.1).2.symm fun _ => rfl
    rw [← this]
    exact h
end
end Ml

/-! Ml49: the steps and the best matchings of changed books. -/
namespace Ml
open PySem L2 PySem.W PySem.Calls PyProof.Rows
abbrev dltS (s : Int) (l m : Ln) : Int := s * dlt l m
theorem cost_scale (s : Int) (M : List (Ln × Ln)) : St.cost (dltS s) M = s * St.cost dlt M := by
  induction M with
  | nil => simp [St.cost]
  | cons p M ih => rw [St.cost_cons, St.cost_cons, ih, Int.mul_add]
theorem lex_scale {s a b u x y : Int} (hs : 0 < s) (hu : 0 < u) (hx : 0 ≤ x) (hx' : x < u) (hy : 0 ≤ y) (hy' : y < u) (h : a * u + x ≤ b * u + y) : s * a * u + x ≤ s * b * u + y := by
  rcases lex_of hu hx hy' h with g | ⟨rfl, g⟩
  · have h1 : s * a + 1 ≤ s * b := by
      have := Int.mul_lt_mul_of_pos_left g hs
      omega
    have := Int.mul_le_mul_of_nonneg_right h1 (Int.le_of_lt hu)
    rw [Int.add_mul, Int.one_mul] at this
    omega
  · omega
section
variable {own other : List Ln}
theorem bits_range (S : List Sl) (sq : List Sl) : (0 : Int) ≤ ((bits S sq : Nat) : Int) ∧ ((bits S sq : Nat) : Int) < 2 ^ sq.length := by
  refine ⟨Int.natCast_nonneg _, ?_⟩
  have := Int.ofNat_lt.mpr (bits_lt S sq)
  push_cast at this
  exact this
theorem cwS_bits (h : StOk own other) {A B : List Ln} {M : List (Ln × Ln)} (s : Int) (hM : St.IsM A B M) (sA : ∀ l ∈ A, l ∈ own) (sB : ∀ l ∈ B, l ∈ other) :
    St.cost (St.cw (dltS s) (wO own other) (wT own other) (2 ^ (seqF own other).length)) M = s * St.cost dlt M * 2 ^ (seqF own other).length + ((bits (mOf M) (seqF own other) : Nat) : Int) := by
  rw [St.cost_cw, Int.add_assoc, w_bits h hM.n1 hM.n2 (fun l hl => by
    obtain ⟨p, hp, rfl⟩ := List.mem_map.mp hl
    exact sA _ (hM.s1 p hp)) (fun l hl => by
    obtain ⟨p, hp, rfl⟩ := List.mem_map.mp hl
    exact sB _ (hM.s2 p hp)), cost_scale]
theorem tab_scale (h1 : (ids own).Nodup) (h2 : (ids other).Nodup) (a : Int) (p q : Ln → Int) (N : Nat) {s : Int} (hs : 0 < s) : St.Tab (linesF own a).reverse (linesF other a).reverse (St.cw (dltS s) p q (2 ^ N)) where
  nA := ((List.reverse_perm _).nodup_iff).mpr (linesF_nodup h1)
  nB := ((List.reverse_perm _).nodup_iff).mpr (linesF_nodup h2)
  un := fun x A' y B' hx hy a' ha b' hb => by
    have px : (x :: A').Pairwise fun u v => v.2.1 ≤ u.2.1 := (List.pairwise_reverse.mpr linesF_days).sublist hx.sublist
    have py : (y :: B').Pairwise fun u v => v.2.1 ≤ u.2.1 := (List.pairwise_reverse.mpr linesF_days).sublist hy.sublist
    have g1 := (List.pairwise_cons.mp px).1 a' ha
    have g2 := (List.pairwise_cons.mp py).1 b' hb
    have m := absI_monge g1 g2
    have pos : (0 : Int) ≤ 2 ^ N := Int.le_of_lt (Int.pow_pos (by decide))
    have m1 := Int.mul_le_mul_of_nonneg_left m (Int.le_of_lt hs)
    rw [Int.mul_add, Int.mul_add] at m1
    have m2 := Int.mul_le_mul_of_nonneg_right m1 pos
    rw [Int.add_mul, Int.add_mul] at m2
    unfold St.cw dltS dlt
    omega
abbrev scJ (s : Int) (j : Int × Ln × Ln) : Int × Ln × Ln := (s * j.1, j.2)
theorem sum_scale (s : Int) (J : List (Int × Ln × Ln)) : ((J.map (scJ s)).map (·.1)).sum = s * (J.map (·.1)).sum := by
  induction J with
  | nil => simp
  | cons j J ih =>
    rw [List.map_cons, List.map_cons, List.sum_cons, ih, List.map_cons, List.sum_cons, Int.mul_add]
theorem joins_scale (h : StOk own other) {a : Int} {J : List (Int × Ln × Ln)} (d : AmtJ own other a J) {s : Int} (hs : 0 < s) : St.Joins (linesF own a).reverse (linesF other a).reverse (dltS s) (wO own other) (wT own other) (2 ^ (seqF own other).length) (J.map (scJ s)) := by
  have t := tab_of h.n1 h.n2 a (wO own other) (wT own other) (seqF own other).length
  have t2 := tab_scale h.n1 h.n2 a (wO own other) (wT own other) (seqF own other).length hs
  have hu := unit_pos (seqF own other).length
  have sA : ∀ l ∈ (linesF own a).reverse, l ∈ own := fun l hl => (mem_linesF.mp (List.mem_reverse.mp hl)).1
  have sB : ∀ l ∈ (linesF other a).reverse, l ∈ other := fun l hl => (mem_linesF.mp (List.mem_reverse.mp hl)).1
  refine ⟨?_, ?_, ?_, ?_, ?_⟩
  · rw [List.map_map]; exact d.joins.n1
  · rw [List.map_map]; exact d.joins.n2
  · intro j hj
    obtain ⟨i, hi, rfl⟩ := List.mem_map.mp hj
    exact d.joins.s1 i hi
  · intro j hj
    obtain ⟨i, hi, rfl⟩ := List.mem_map.mp hj
    exact d.joins.s2 i hi
  · intro k hk
    rw [List.length_map] at hk
    obtain ⟨M, hM, p1, p2, cd, hb⟩ := d.joins.best k hk
    have tk : (J.map (scJ s)).take k = (J.take k).map (scJ s) := (List.map_take).symm
    refine ⟨M, hM, ?_, ?_, ?_, ?_⟩
    · rw [tk, List.map_map]; exact p1
    · rw [tk, List.map_map]; exact p2
    · rw [tk, cost_scale, cd, sum_scale]
    · have lM : M.length = k := by
        have := p1.length_eq
        rw [List.length_map, List.length_map, List.length_take] at this
        omega
      have lk := hM.le
      rw [lM] at lk
      obtain ⟨v, hv, ⟨M2, hM2, l2, c2⟩, low⟩ := t2.at lk
      obtain ⟨v1, hv1, _, low1⟩ := t.at lk
      rw [hb] at hv1
      cases hv1
      rw [hv]
      refine congrArg some (Int.le_antisymm (low M hM lM) ?_)
      rw [← c2]
      have := low1 M2 hM2 l2
      rw [cw_bits h hM sA sB, cw_bits h hM2 sA sB] at this
      rw [cwS_bits h s hM sA sB, cwS_bits h s hM2 sA sB]
      have b1 := bits_range (mOf M) (seqF own other)
      have b2 := bits_range (mOf M2) (seqF own other)
      exact lex_scale hs hu b1.1 b1.2 b2.1 b2.2 this
theorem dp_congr {c c' : Ln → Ln → Int} : ∀ {A B : List Ln}, (∀ x ∈ A, ∀ y ∈ B, c x y = c' x y) → St.dp c A B = St.dp c' A B
  | [], _, _ => by rw [St.dp, St.dp]
  | _ :: _, [], _ => by rw [St.dp, St.dp]
  | a :: A, b :: B, h => by
    rw [St.dp, St.dp, h a List.mem_cons_self b List.mem_cons_self, dp_congr (A := A) (B := b :: B) fun x hx y hy => h x (List.mem_cons_of_mem _ hx) y hy, dp_congr (A := a :: A) (B := B) fun x hx y hy => h x hx y (List.mem_cons_of_mem _ hy), dp_congr (A := A) (B := B) fun x hx y hy => h x (List.mem_cons_of_mem _ hx) y (List.mem_cons_of_mem _ hy)]
termination_by A B => A.length + B.length
/-- the number of a step of the changed books -/
def valS (own other : List Ln) (s : Int) (j : Int × Ln × Ln) : Int := s * j.1 * 2 ^ (seqF own other).length + wO own other j.2.1 + wT own other j.2.2
theorem absI_scale (q : Tr) (x y : Int) : absI (q.s * x + q.c - (q.s * y + q.c)) = q.s * absI (x - y) := by
  have e : q.s * x + q.c - (q.s * y + q.c) = q.s * (x - y) := by rw [Int.mul_sub]; omega
  rw [e]
  unfold absI
  have hs := q.hs
  by_cases h : x - y < 0
  · have : q.s * (x - y) < 0 := Int.mul_neg_of_pos_of_neg hs h
    rw [if_pos h, if_pos this, Int.mul_neg]
  · have : ¬ q.s * (x - y) < 0 := Int.not_lt.mpr (Int.mul_nonneg (Int.le_of_lt hs) (by omega))
    rw [if_neg h, if_neg this]
variable (q : Tr)
theorem nums_tr (h : StOk own other) (h' : StOk (own.map q.f1) (other.map q.f2)) {a : Int} {J : List (Int × Ln × Ln)} (d : AmtJ own other a J) : St.diffs (numsF (own.map q.f1) (other.map q.f2) (q.am a)) = J.map (valS own other q.s) := by
  have l1 : linesF (own.map q.f1) (q.am a) = (linesF own a).map q.f1 := lines_tr q q.g1 q.m1 own a
  have l2 : linesF (other.map q.f2) (q.am a) = (linesF other a).map q.f2 := lines_tr q q.g2 q.m2 other a
  obtain ⟨e1, e2⟩ := w_tr q h h'
  have e : numsF (own.map q.f1) (other.map q.f2) (q.am a) = St.dp (St.cw (dltS q.s) (wO own other) (wT own other) (2 ^ (seqF own other).length)) (linesF own a).reverse (linesF other a).reverse := by
    rw [nums_cw, l1, l2, ← List.map_reverse, ← List.map_reverse, dp_map _ _ _ _ _ _ rfl, len_tr q h.n1 h.n2]
    refine dp_congr fun x hx y hy => ?_
    have hx := (mem_linesF.mp (List.mem_reverse.mp hx)).1
    have hy := (mem_linesF.mp (List.mem_reverse.mp hy)).1
    unfold St.cw
    rw [e1 x hx, e2 y hy]
    show absI (q.s * x.2.1 + q.c - (q.s * y.2.1 + q.c)) * _ + _ + _ = _
    rw [absI_scale]
  rw [e, (joins_scale h d q.hs).diffs (by rw [List.length_map, List.length_reverse, List.length_reverse]; exact d.full), List.map_map]
  rfl
end
end Ml

/-! Ml50: the steps and the best matchings of changed books, told. -/
namespace Ml
open PySem L2 PySem.W PySem.Calls PyProof.Rows
section
variable {own other : List Ln} (q : Tr)
/-- a step of the changed books -/
def Tr.row (r : Ln) : Ln := (q.s * r.1, q.g1 r.2.1, q.g2 r.2.2)
def Tr.j (j : Int × Ln × Ln) : Int × Ln × Ln := (q.s * j.1, q.f1 j.2.1, q.f2 j.2.2)
theorem mem_amts {a : Int} : a ∈ amtsF own other ↔ (∃ l ∈ own, l.2.2 = a) ∧ ∃ l ∈ other, l.2.2 = a := by
  unfold amtsF
  rw [(sortI_perm _).mem_iff, mem_ddI, List.mem_map]
  constructor
  · rintro ⟨l, hl, rfl⟩
    obtain ⟨h1, h2⟩ := List.mem_filter.mp hl
    obtain ⟨m, hm, e⟩ := List.mem_map.mp (of_decide_eq_true h2)
    exact ⟨⟨l, h1, rfl⟩, m, hm, e⟩
  · rintro ⟨⟨l, hl, rfl⟩, m, hm, e⟩
    exact ⟨l, List.mem_filter.mpr ⟨hl, decide_eq_true (List.mem_map.mpr ⟨m, hm, e⟩)⟩, rfl⟩
theorem amts_nodup : (amtsF own other).Nodup := ((sortI_perm _).nodup_iff).mpr (ddI_nodup _)
theorem nodup_map {α β : Type} {f : α → β} (hf : ∀ a b, f a = f b → a = b) {l : List α} (h : l.Nodup) : (l.map f).Nodup := List.Pairwise.map _ (fun a b hab e => hab (hf a b e)) h
theorem amts_tr : (amtsF (own.map q.f1) (other.map q.f2)).Perm ((amtsF own other).map q.am) := by
  refine (List.perm_ext_iff_of_nodup amts_nodup (nodup_map q.inj amts_nodup)).mpr fun a => ?_
  rw [mem_amts, List.mem_map]
  constructor
  · rintro ⟨⟨l, hl, e⟩, m, hm, e2⟩
    obtain ⟨l0, h0, rfl⟩ := List.mem_map.mp hl
    obtain ⟨m0, h1, rfl⟩ := List.mem_map.mp hm
    have e : q.am l0.2.2 = a := e
    have e2 : q.am m0.2.2 = a := e2
    exact ⟨l0.2.2, mem_amts.mpr ⟨⟨l0, h0, rfl⟩, m0, h1, q.inj _ _ (e2.trans e.symm)⟩, e⟩
  · rintro ⟨b, hb, rfl⟩
    obtain ⟨⟨l, hl, e⟩, m, hm, e2⟩ := mem_amts.mp hb
    exact ⟨⟨q.f1 l, List.mem_map.mpr ⟨l, hl, rfl⟩, by show q.am l.2.2 = _; rw [e]⟩, q.f2 m, List.mem_map.mpr ⟨m, hm, rfl⟩, by show q.am m.2.2 = _; rw [e2]⟩
theorem valS_eq (h : StOk own other) (h' : StOk (own.map q.f1) (other.map q.f2)) {j : Int × Ln × Ln} (h1 : j.2.1 ∈ own) (h2 : j.2.2 ∈ other) : valS own other q.s j = valJ (seqF (own.map q.f1) (other.map q.f2)) (q.j j) := by
  obtain ⟨e1, e2⟩ := w_tr q h h'
  have a1 := e1 _ h1
  have a2 := e2 _ h2
  unfold valS valJ Tr.j
  simp only [wO, wT] at a1 a2
  rw [len_tr q h.n1 h.n2, a1, a2]
/-- the weights of two lines are below the unit -/
theorem two_w (h : StOk own other) {x y : Ln} (h1 : x ∈ own) (h2 : y ∈ other) : 0 ≤ wO own other x + wT own other y ∧ wO own other x + wT own other y < 2 ^ (seqF own other).length := by
  have e := w_bits h (S1 := [x]) (S2 := [y]) (by simp) (by simp) (by simpa using h1) (by simpa using h2)
  have b := bits_range (slOf [x] [y]) (seqF own other)
  rw [← e] at b
  simpa [St.sumU] using b
theorem exact_tr (h : StOk own other) (h' : StOk (own.map q.f1) (other.map q.f2)) {Ja : Int → List (Int × Ln × Ln)} {J : List (Int × Ln × Ln)} (A : AllJ own other Ja J) : exactF (own.map q.f1) (other.map q.f2) = J.map (valS own other q.s) := by
  have hu := unit_pos (seqF own other).length
  have p : ((amtsF (own.map q.f1) (other.map q.f2)).flatMap fun a => St.diffs (numsF (own.map q.f1) (other.map q.f2) a)).Perm (J.map (valS own other q.s)) := by
    refine ((amts_tr q).flatMap_right _).trans ?_
    rw [List.flatMap_map]
    have e : (amtsF own other).flatMap (fun a => St.diffs (numsF (own.map q.f1) (other.map q.f2) (q.am a))) = (amtsF own other).flatMap fun a => (Ja a).map (valS own other q.s) := by
      congr 1
      funext a
      exact nums_tr q h h' (A.amt a)
    rw [e, ← List.map_flatMap]
    exact (A.perm.map _).symm
  have pw : (J.map (valS own other q.s)).Pairwise (· ≤ ·) := by
    have := A.pw
    rw [List.pairwise_map] at this ⊢
    refine this.imp_of_mem fun {i k} hi hk hik => ?_
    obtain ⟨m1, m2, _⟩ := A.mem i hi
    obtain ⟨m3, m4, _⟩ := A.mem k hk
    have w1 := two_w h m1 m2
    have w2 := two_w h m3 m4
    have := lex_scale (a := i.1) (b := k.1) (x := wO own other i.2.1 + wT own other i.2.2) (y := wO own other k.2.1 + wT own other k.2.2) q.hs hu w1.1 w1.2 w2.1 w2.2 (by
      unfold valJ at hik
      simp only [wO, wT]
      omega)
    unfold valS
    omega
  unfold exactF
  exact (sortI_eq p.symm pw).symm
theorem steps_tr (h : StOk own other) (h' : StOk (own.map q.f1) (other.map q.f2)) : stepsF (own.map q.f1) (other.map q.f2) = (stepsF own other).map q.row := by
  obtain ⟨Ja, J, A⟩ := allJ h
  unfold stepsF
  rw [exact_tr q h h' A, A.exact_, List.map_map, List.map_map, List.map_map]
  apply List.map_congr_left
  intro j hj
  obtain ⟨m1, m2, _⟩ := A.mem j hj
  obtain ⟨p1, p2⟩ := step_keys h m1 m2
  obtain ⟨p3, p4⟩ := step_keys h' (j := q.j j) (List.mem_map.mpr ⟨_, m1, rfl⟩) (List.mem_map.mpr ⟨_, m2, rfl⟩)
  show (valS own other q.s j / 2 ^ (seqF (own.map q.f1) (other.map q.f2)).length, dec (keysOf (seqF (own.map q.f1) (other.map q.f2)) (valS own other q.s j))) = q.row (valJ (seqF own other) j / 2 ^ (seqF own other).length, dec (keysOf (seqF own other) (valJ (seqF own other) j)))
  rw [valS_eq q h h' m1 m2, p3, p1]
  have d1 : dec (keysOf (seqF own other) (valJ (seqF own other) j)) = (j.2.1.1, j.2.2.1) := by rcases p2 with p2 | p2 <;> rw [p2] <;> rfl
  have d2 : dec (keysOf (seqF (own.map q.f1) (other.map q.f2)) (valJ (seqF (own.map q.f1) (other.map q.f2)) (q.j j))) = (q.g1 j.2.1.1, q.g2 j.2.2.1) := by rcases p4 with p4 | p4 <;> rw [p4] <;> rfl
  rw [d1, d2]
  rfl
theorem pairsAt_tr (h : StOk own other) (h' : StOk (own.map q.f1) (other.map q.f2)) {cap cap' : Int} (hc : ∀ d : Int, q.s * d ≤ cap' ↔ d ≤ cap) : pairsAtF (own.map q.f1) (other.map q.f2) cap' = pairsAtF own other cap := by
  unfold pairsAtF
  rw [steps_tr q h h', List.filter_map, List.length_map]
  congr 1
  apply List.filter_congr
  intro r _
  show decide (q.s * r.1 ≤ cap') = decide (r.1 ≤ cap)
  rw [decide_eq_decide]
  exact hc r.1
theorem chosen_tr {g : Int → Int} (m : ∀ x y, x < y → g x < g y) {f : Ln → Ln} (hf : ∀ l, (f l).1 = g l.1) (book : List Ln) (is : List Int) : chosenF (book.map f) (is.map g) = (chosenF book is).map f := by
  unfold chosenF
  rw [List.filter_map]
  congr 1
  apply List.filter_congr
  intro l _
  show decide ((f l).1 ∈ is.map g) = decide (l.1 ∈ is)
  rw [decide_eq_decide, hf, List.mem_map]
  constructor
  · rintro ⟨i, hi, e⟩
    rw [← (mono_iff m i l.1).1.mp e]
    exact hi
  · exact fun hi => ⟨_, hi, rfl⟩
theorem sortPr_tr (L : List Pr) : sortPr (L.map q.G) = (sortPr L).map q.G := by
  unfold sortPr
  refine (List.map_mergeSort fun a _ b _ => ?_).symm
  exact lex_cons (mono_iff q.m1 _ _).1.symm (mono_iff q.m1 _ _).2.symm fun _ => lex_cons (mono_iff q.m2 _ _).1.symm (mono_iff q.m2 _ _).2.symm fun _ => rfl
theorem inSeq_tr (owns others : List Ln) : inSeqF (owns.map q.f1) (others.map q.f2) = (inSeqF owns others).map q.G := by
  have hb := ddI_nodup (owns.map (·.2.2))
  have m1 : ∀ l ∈ owns, l.2.2 ∈ ddI (owns.map (·.2.2)) := fun l hl => mem_ddI.mpr (List.mem_map.mpr ⟨l, hl, rfl⟩)
  rw [inSeq_any (nodup_map q.inj hb) (fun l hl => by
    obtain ⟨l0, h0, rfl⟩ := List.mem_map.mp hl
    exact List.mem_map.mpr ⟨l0.2.2, m1 l0 h0, rfl⟩), inSeq_any hb m1, ← sortPr_tr]
  congr 1
  rw [List.flatMap_map, List.map_flatMap]
  congr 1
  funext a
  have l1 : linesF (owns.map q.f1) (q.am a) = (linesF owns a).map q.f1 := lines_tr q q.g1 q.m1 owns a
  have l2 : linesF (others.map q.f2) (q.am a) = (linesF others a).map q.f2 := lines_tr q q.g2 q.m2 others a
  rw [l1, l2, List.zip_map, List.map_map, List.map_map]
  rfl
theorem best_tr (h : StOk own other) (h' : StOk (own.map q.f1) (other.map q.f2)) (n : Nat) : bestF (own.map q.f1) (other.map q.f2) n = (bestF own other n).map q.G := by
  unfold bestF
  rw [steps_tr q h h', ← List.map_take, List.map_map, List.map_map]
  have e1 : ((stepsF own other).take n).map ((fun r : Ln => r.2.1) ∘ q.row) = (((stepsF own other).take n).map fun r : Ln => r.2.1).map q.g1 := by rw [List.map_map]; rfl
  have e2 : ((stepsF own other).take n).map ((fun r : Ln => r.2.2) ∘ q.row) = (((stepsF own other).take n).map fun r : Ln => r.2.2).map q.g2 := by rw [List.map_map]; rfl
  rw [e1, e2, chosen_tr q.m1 (fun _ => rfl), chosen_tr q.m2 (fun _ => rfl)]
  exact inSeq_tr q _ _
end
/-! ### states -/
def Tr.st (q : Tr) (cap : Int) (t : Stt) : Stt := ⟨t.own.map q.f1, t.other.map q.f2, cap, t.fixed.map q.G⟩
section
variable (q : Tr) {t : Stt} {cap : Int}
theorem open_tr : openOwn (q.st cap t) = (openOwn t).map q.f1 ∧ openOther (q.st cap t) = (openOther t).map q.f2 := by
  constructor
  · unfold openOwn Tr.st
    rw [List.filter_map, List.map_map]
    congr 1
    apply List.filter_congr
    intro l _
    show (!decide (q.g1 l.1 ∈ t.fixed.map fun p => q.g1 p.1)) = !decide (l.1 ∈ t.fixed.map (·.1))
    congr 1
    rw [decide_eq_decide, List.mem_map, List.mem_map]
    exact ⟨fun ⟨p, hp, e⟩ => ⟨p, hp, (mono_iff q.m1 _ _).1.mp e⟩, fun ⟨p, hp, e⟩ => ⟨p, hp, by rw [e]⟩⟩
  · unfold openOther Tr.st
    rw [List.filter_map, List.map_map]
    congr 1
    apply List.filter_congr
    intro l _
    show (!decide (q.g2 l.1 ∈ t.fixed.map fun p => q.g2 p.2)) = !decide (l.1 ∈ t.fixed.map (·.2))
    congr 1
    rw [decide_eq_decide, List.mem_map, List.mem_map]
    exact ⟨fun ⟨p, hp, e⟩ => ⟨p, hp, (mono_iff q.m2 _ _).1.mp e⟩, fun ⟨p, hp, e⟩ => ⟨p, hp, by rw [e]⟩⟩
theorem osteps_tr (g : StOk (openOwn t) (openOther t)) (g' : StOk (openOwn (q.st cap t)) (openOther (q.st cap t))) : stepsF (openOwn (q.st cap t)) (openOther (q.st cap t)) = (stepsF (openOwn t) (openOther t)).map q.row := by
  rw [(open_tr q).1, (open_tr q).2] at g' ⊢
  exact steps_tr q g g'
theorem matched_tr (g : StOk (openOwn t) (openOther t)) (g' : StOk (openOwn (q.st cap t)) (openOther (q.st cap t))) (hc : ∀ d : Int, q.s * d ≤ cap ↔ d ≤ t.cap) : matchedF (q.st cap t) = (matchedF t).map q.G := by
  unfold matchedF
  rw [(open_tr q).1, (open_tr q).2] at g' ⊢
  rw [show (q.st cap t).cap = cap from rfl, pairsAt_tr q g g' hc]
  exact best_tr q g g' _
theorem left_tr (g : StOk (openOwn t) (openOther t)) (g' : StOk (openOwn (q.st cap t)) (openOther (q.st cap t))) (hc : ∀ d : Int, q.s * d ≤ cap ↔ d ≤ t.cap) : leftOwn (q.st cap t) = (leftOwn t).map q.g1 ∧ leftOther (q.st cap t) = (leftOther t).map q.g2 := by
  have em := matched_tr q g g' hc
  constructor
  · unfold leftOwn
    rw [em, (open_tr q).1, List.filter_map, List.map_map, List.map_map]
    have e : (openOwn t).filter ((fun l => !decide (l.1 ∈ ((matchedF t).map q.G).map (·.1))) ∘ q.f1) = (openOwn t).filter fun l => !decide (l.1 ∈ (matchedF t).map (·.1)) := by
      apply List.filter_congr
      intro l _
      show (!decide (q.g1 l.1 ∈ ((matchedF t).map q.G).map (·.1))) = _
      congr 1
      rw [List.map_map, decide_eq_decide, List.mem_map, List.mem_map]
      exact ⟨fun ⟨p, hp, e⟩ => ⟨p, hp, (mono_iff q.m1 _ _).1.mp e⟩, fun ⟨p, hp, e⟩ => ⟨p, hp, by rw [← e]; rfl⟩⟩
    rw [← List.map_map, ← List.map_map, e]
    rw [List.map_map, List.map_map]
    rfl
  · unfold leftOther
    rw [em, (open_tr q).2, List.filter_map, List.map_map, List.map_map]
    have e : (openOther t).filter ((fun l => !decide (l.1 ∈ ((matchedF t).map q.G).map (·.2))) ∘ q.f2) = (openOther t).filter fun l => !decide (l.1 ∈ (matchedF t).map (·.2)) := by
      apply List.filter_congr
      intro l _
      show (!decide (q.g2 l.1 ∈ ((matchedF t).map q.G).map (·.2))) = _
      congr 1
      rw [List.map_map, decide_eq_decide, List.mem_map, List.mem_map]
      exact ⟨fun ⟨p, hp, e⟩ => ⟨p, hp, (mono_iff q.m2 _ _).1.mp e⟩, fun ⟨p, hp, e⟩ => ⟨p, hp, by rw [← e]; rfl⟩⟩
    rw [← List.map_map, ← List.map_map, e]
    rw [List.map_map, List.map_map]
    rfl
end
end Ml

/-! Ml51: books exchanged, time turned round: the days of the steps. -/
namespace Ml
open PySem L2 PySem.W PySem.Calls PyProof.Rows
theorem sortLn_map {g : Int → Int} (m : ∀ x y, x < y → g x < g y) {f : Ln → Ln} (hf : ∀ l, (f l).1 = g l.1) {ls : List Ln} (n : (ids ls).Nodup) : sortLn (ls.map f) = (sortLn ls).map f := by
  unfold sortLn
  refine (List.map_mergeSort fun a ha b hb => ?_).symm
  by_cases e : a = b
  · subst e
    rw [lexLe_refl, lexLe_refl]
  · have ne : ¬ a.1 = b.1 := fun z => e (ids_inj n ha hb z)
    unfold lnL
    refine lex_cons ?_ ?_ fun z => absurd z ne
    · rw [hf, hf]; exact (mono_iff m _ _).1.symm
    · rw [hf, hf]; exact (mono_iff m _ _).2.symm
section
variable {own other : List Ln}
/-- the least days apart of k pairs -/
theorem AmtJ.least (h : StOk own other) {a : Int} {J : List (Int × Ln × Ln)} (d : AmtJ own other a J) {k : Nat} (hk : k ≤ J.length) : (∃ M, St.IsM (linesF own a).reverse (linesF other a).reverse M ∧ M.length = k ∧ St.cost dlt M = ((J.take k).map (·.1)).sum) ∧ ∀ M, St.IsM (linesF own a).reverse (linesF other a).reverse M → M.length = k → ((J.take k).map (·.1)).sum ≤ St.cost dlt M := by
  have t := tab_of h.n1 h.n2 a (wO own other) (wT own other) (seqF own other).length
  have hu := unit_pos (seqF own other).length
  have sA : ∀ l ∈ (linesF own a).reverse, l ∈ own := fun l hl => (mem_linesF.mp (List.mem_reverse.mp hl)).1
  have sB : ∀ l ∈ (linesF other a).reverse, l ∈ other := fun l hl => (mem_linesF.mp (List.mem_reverse.mp hl)).1
  obtain ⟨M, hM, p1, p2, cd, hb⟩ := d.joins.best k hk
  have lM : M.length = k := by
    have := p1.length_eq
    rw [List.length_map, List.length_map, List.length_take] at this
    omega
  refine ⟨⟨M, hM, lM, cd⟩, fun N hN lN => ?_⟩
  obtain ⟨v, hv, _, low⟩ := t.at (m := k) (by have := hM.le; omega)
  rw [hb] at hv
  cases hv
  have := low N hN lN
  rw [cw_bits h hM sA sB, cw_bits h hN sA sB] at this
  have b1 := bits_range (mOf M) (seqF own other)
  have b2 := bits_range (mOf N) (seqF own other)
  rw [← cd]
  rcases lex_of hu b1.1 b2.2 this with g | g <;> omega
theorem prefix_eq : ∀ {X Y : List Int}, X.length = Y.length → (∀ k, k ≤ X.length → (X.take k).sum = (Y.take k).sum) → X = Y
  | [], [], _, _ => rfl
  | x :: X, y :: Y, hl, h => by
    have e : x = y := by simpa using h 1 (by simp)
    subst e
    congr 1
    refine prefix_eq (by simpa using hl) fun k hk => ?_
    have := h (k + 1) (by simpa using hk)
    rw [List.take_succ_cons, List.take_succ_cons, List.sum_cons, List.sum_cons] at this
    omega
/-- a line at the turned day -/
def turn (e : Int) (l : Ln) : Ln := (l.1, l.2.1 * (0 - 1) + e, l.2.2)
theorem turn_turn (e : Int) (l : Ln) : turn e (turn e l) = l := by
  obtain ⟨a, b, c⟩ := l
  simp only [turn]
  congr 2
  omega
theorem turn_inj {e : Int} {a b : Ln} (h : turn e a = turn e b) : a = b := by rw [← turn_turn e a, h, turn_turn]
theorem dlt_turn (e : Int) (a b : Ln) : dlt (turn e b) (turn e a) = dlt a b := by
  show absI (b.2.1 * (0 - 1) + e - (a.2.1 * (0 - 1) + e)) = absI (a.2.1 - b.2.1)
  unfold absI
  split <;> split <;> omega
theorem map_turn (e : Int) (l : List Ln) : (l.map (turn e)).map (turn e) = l := by
  rw [List.map_map]
  conv => rhs; rw [← List.map_id l]
  exact List.map_congr_left fun x _ => turn_turn e x
theorem mem_turn {e : Int} {l : List Ln} {x : Ln} : turn e x ∈ l.map (turn e) ↔ x ∈ l := by
  rw [List.mem_map]
  exact ⟨fun ⟨y, hy, h⟩ => turn_inj h ▸ hy, fun h => ⟨x, h, rfl⟩⟩
def back (e : Int) (M : List (Ln × Ln)) : List (Ln × Ln) := M.map fun p => (turn e p.2, turn e p.1)
theorem back_isM {e a : Int} {M : List (Ln × Ln)} (h : St.IsM (linesF own a).reverse (linesF other a).reverse M) : St.IsM (linesF (other.map (turn e)) a).reverse (linesF (own.map (turn e)) a).reverse (back e M) := by
  have amt : ∀ x : Ln, (turn e x).2.2 = x.2.2 := fun _ => rfl
  refine ⟨?_, ?_, ?_, ?_⟩
  · unfold back
    rw [List.map_map]
    have := nodup_map (f := turn e) (fun a b => turn_inj) h.n2
    rwa [List.map_map] at this
  · unfold back
    rw [List.map_map]
    have := nodup_map (f := turn e) (fun a b => turn_inj) h.n1
    rwa [List.map_map] at this
  · intro p hp
    obtain ⟨q, hq, rfl⟩ := List.mem_map.mp hp
    have m := mem_linesF.mp (List.mem_reverse.mp (h.s2 q hq))
    exact List.mem_reverse.mpr (mem_linesF.mpr ⟨mem_turn.mpr m.1, m.2⟩)
  · intro p hp
    obtain ⟨q, hq, rfl⟩ := List.mem_map.mp hp
    have m := mem_linesF.mp (List.mem_reverse.mp (h.s1 q hq))
    exact List.mem_reverse.mpr (mem_linesF.mpr ⟨mem_turn.mpr m.1, m.2⟩)
theorem back_cost (e : Int) (M : List (Ln × Ln)) : St.cost dlt (back e M) = St.cost dlt M := by
  induction M with
  | nil => rfl
  | cons p M ih =>
    show St.cost dlt ((turn e p.2, turn e p.1) :: back e M) = _
    rw [St.cost_cons, St.cost_cons, ih]
    show dlt (turn e p.2) (turn e p.1) + _ = _
    rw [dlt_turn]
theorem lines_len_turn (e a : Int) (book : List Ln) : (linesF (book.map (turn e)) a).length = (linesF book a).length := by
  rw [linesF_perm.length_eq, linesF_perm.length_eq, List.filter_map, List.length_map]
  rfl
/-- the days of one amount -/
theorem amt_turn {e : Int} (h : StOk own other) (h' : StOk (other.map (turn e)) (own.map (turn e))) {a : Int} {J J' : List (Int × Ln × Ln)} (d : AmtJ own other a J) (d' : AmtJ (other.map (turn e)) (own.map (turn e)) a J') : J'.map (·.1) = J.map (·.1) := by
  have ll : J'.length = J.length := by rw [d'.full, d.full, lines_len_turn, lines_len_turn, Nat.min_comm]
  refine prefix_eq (by rw [List.length_map, List.length_map, ll]) fun k hk => ?_
  rw [List.length_map] at hk
  rw [← List.map_take, ← List.map_take]
  obtain ⟨⟨M, hM, lM, cM⟩, low⟩ := d.least h (k := k) (by omega)
  obtain ⟨⟨N, hN, lN, cN⟩, low'⟩ := d'.least h' hk
  have hN2 : St.IsM (linesF own a).reverse (linesF other a).reverse (back e N) := by
    have := back_isM (e := e) hN
    rwa [map_turn, map_turn] at this
  have g1 := low' (back e M) (back_isM hM) (by rw [back, List.length_map]; exact lM)
  have g2 := low (back e N) hN2 (by rw [back, List.length_map]; exact lN)
  rw [back_cost] at g1 g2
  omega
theorem days_turn {e : Int} (h : StOk own other) (h' : StOk (other.map (turn e)) (own.map (turn e))) : (stepsF (other.map (turn e)) (own.map (turn e))).map (·.1) = (stepsF own other).map (·.1) := by
  obtain ⟨Ja, J, A⟩ := allJ h
  obtain ⟨Ja', J', A'⟩ := allJ h'
  have s1 := A.days h
  have s2 := A'.days h'
  have e1 : (stepsF own other).map (·.1) = J.map (·.1) := by rw [A.steps h, List.map_map]; rfl
  have e2 : (stepsF (other.map (turn e)) (own.map (turn e))).map (·.1) = J'.map (·.1) := by rw [A'.steps h', List.map_map]; rfl
  rw [e1, e2]
  refine List.Perm.eq_of_pairwise (le := fun a b : Int => a ≤ b) (fun a b _ _ h1 h2 => Int.le_antisymm h1 h2) s2 s1 ?_
  refine (A'.perm.map _).trans (List.Perm.trans ?_ (A.perm.map _).symm)
  rw [List.map_flatMap, List.map_flatMap]
  have ea : (fun a => (Ja' a).map fun j : Int × Ln × Ln => j.1) = fun a => (Ja a).map fun j : Int × Ln × Ln => j.1 := by
    funext a
    exact amt_turn h h' (A.amt a) (A'.amt a)
  rw [ea]
  refine List.Perm.flatMap_right _ ((List.perm_ext_iff_of_nodup amts_nodup amts_nodup).mpr fun a => ?_)
  rw [mem_amts, mem_amts]
  constructor
  · rintro ⟨⟨l, hl, e1⟩, m, hm, e2⟩
    obtain ⟨l0, h0, rfl⟩ := List.mem_map.mp hl
    obtain ⟨m0, h1, rfl⟩ := List.mem_map.mp hm
    exact ⟨⟨m0, h1, e2⟩, l0, h0, e1⟩
  · rintro ⟨⟨l, hl, e1⟩, m, hm, e2⟩
    exact ⟨⟨turn e m, List.mem_map.mpr ⟨m, hm, rfl⟩, e2⟩, turn e l, List.mem_map.mpr ⟨l, hl, rfl⟩, e1⟩
theorem pairsAt_days {own' other' : List Ln} (h : (stepsF own' other').map (·.1) = (stepsF own other).map (·.1)) (p : Int) : pairsAtF own' other' p = pairsAtF own other p := by
  have key : ∀ l : List Ln, (l.filter fun r => decide (r.1 ≤ p)).length = ((l.map fun r : Ln => r.1).filter fun d => decide (d ≤ p)).length := fun l => by rw [List.filter_map, List.length_map]; rfl
  unfold pairsAtF
  rw [key, key, h]
/-- so many pairs -/
theorem best_len (h : StOk own other) (p : Int) : (bestF own other (pairsAtF own other p)).length = pairsAtF own other p := by
  obtain ⟨Ja, J, A⟩ := allJ h
  have e1 := (m_bal h p).ids.1.length_eq
  rw [List.length_map] at e1
  have e2 := (A.own_at h (p := p)).length_eq
  have e3 : pairsAtF own other p = (upto p J).length := by
    unfold pairsAtF
    rw [A.steps h, List.filter_map, List.length_map]
    rfl
  rw [best_eq, e1, e3]
  rw [List.length_map] at e2
  rw [show (ids (mOwn own other p)).length = (mOwn own other p).length from List.length_map _, e2]
end
/-! ### states -/
def backSt (e : Int) (t : Stt) : Stt := ⟨t.other.map (turn e), t.own.map (turn e), t.cap, sortPr (t.fixed.map fun p => (p.2, p.1))⟩
theorem open_turn {e : Int} {t : Stt} : openOwn (backSt e t) = (openOther t).map (turn e) ∧ openOther (backSt e t) = (openOwn t).map (turn e) := by
  have m1 : ∀ i, i ∈ (sortPr (t.fixed.map fun p => (p.2, p.1))).map (·.1) ↔ i ∈ t.fixed.map (·.2) := fun i => by
    rw [((sortPr_perm _).map (·.1)).mem_iff, List.map_map]
    exact Iff.rfl
  have m2 : ∀ i, i ∈ (sortPr (t.fixed.map fun p => (p.2, p.1))).map (·.2) ↔ i ∈ t.fixed.map (·.1) := fun i => by
    rw [((sortPr_perm _).map (·.2)).mem_iff, List.map_map]
    exact Iff.rfl
  constructor
  · unfold openOwn openOther backSt
    rw [List.filter_map]
    congr 1
    apply List.filter_congr
    intro l _
    show (!decide (l.1 ∈ (sortPr (t.fixed.map fun p => (p.2, p.1))).map (·.1))) = _
    rw [decide_eq_decide.mpr (m1 l.1)]
  · unfold openOwn openOther backSt
    rw [List.filter_map]
    congr 1
    apply List.filter_congr
    intro l _
    show (!decide (l.1 ∈ (sortPr (t.fixed.map fun p => (p.2, p.1))).map (·.2))) = _
    rw [decide_eq_decide.mpr (m2 l.1)]
theorem back_days {e : Int} {t : Stt} (g : StOk (openOwn t) (openOther t)) (g' : StOk (openOwn (backSt e t)) (openOther (backSt e t))) : (stepsF (openOwn (backSt e t)) (openOther (backSt e t))).map (·.1) = (stepsF (openOwn t) (openOther t)).map (·.1) ∧ (matchedF (backSt e t)).length = (matchedF t).length := by
  rw [open_turn.1, open_turn.2] at g'
  have d := days_turn g g'
  refine ⟨by rw [open_turn.1, open_turn.2]; exact d, ?_⟩
  unfold matchedF
  rw [open_turn.1, open_turn.2, best_len g, show (backSt e t).cap = t.cap from rfl, best_len g', pairsAt_days d]
end Ml

/-! Ml52: small things that several laws share. -/
namespace Ml
open PySem L2 PySem.W PySem.Calls PyProof.Rows
theorem py_two (a b : List Int) : (Dt.tup [.lst (a.map .int), .lst (b.map .int)]).py = some (.tuple [.list (a.map .int), .list (b.map .int)]) := by
  simp only [Dt.py, Dt.pys, pys_ints, Option.map]
theorem sh_two (a b : List Int) : SeqAt.shaped (.tuple [.list (a.map .int), .list (b.map .int)]) = true := (low_tup (n := 1) fun x hx => by
  rcases List.mem_cons.mp hx with rfl | hx
  · exact low_list (n := 0) fun x hx => by obtain ⟨y, _, rfl⟩ := List.mem_map.mp hx; exact low_int y
  · obtain rfl := List.mem_singleton.mp hx
    exact low_list (n := 0) fun x hx => by obtain ⟨y, _, rfl⟩ := List.mem_map.mp hx; exact low_int y).shaped (by decide)
theorem eqv_two (a b : List Int) : PyData.eqv (.tuple [.list (a.map .int), .list (b.map .int)]) (.tuple [.list (a.map .int), .list (b.map .int)]) = true := by
  rw [eqv_tup]
  simp only [PyData.eqvAll, eqv_ints]
  simp
theorem str_same {μ : Mem} {c : Nat} {a : Addr} (h : StrAt μ c a) : ∃ x, μ.set c (a, x) = μ := by
  obtain ⟨dg, sd, h1, h2⟩ := h.ex
  exact ⟨_, set_same h1⟩
theorem nes_self {α : Type} [DecidableEq α] {x : α} : (!decide (x = x)) = false := by simp
theorem left_nodup {t : Stt} (g : StOk (openOwn t) (openOther t)) : (leftOwn t).Nodup ∧ (leftOther t).Nodup := ⟨List.Nodup.sublist (List.Sublist.map _ List.filter_sublist) g.n1, List.Nodup.sublist (List.Sublist.map _ List.filter_sublist) g.n2⟩
theorem drop_next {l : List Int} {i : Nat} {y : Int} (hn : l.Nodup) (h : l[i]? = some y) : y ∈ l.drop i ∧ ∀ j ∈ l.drop (i + 1), j ∈ l.drop i ∧ j ≠ y := by
  obtain ⟨hi, e⟩ := List.getElem?_eq_some_iff.mp h
  have ed : l.drop i = y :: l.drop (i + 1) := by rw [List.drop_eq_getElem_cons hi, e]
  have nd : (l.drop i).Nodup := hn.sublist (List.drop_sublist i l)
  rw [ed] at nd ⊢
  exact ⟨List.mem_cons_self, fun j hj => ⟨List.mem_cons_of_mem _ hj, fun e => (List.nodup_cons.mp nd).1 (e ▸ hj)⟩⟩
theorem matched_nodup {t : Stt} (g : StOk (openOwn t) (openOther t)) : (matchedF t).Nodup := nodup_fst ((matched_ids g).1.nodup_iff.mpr (m_bal g t.cap).n1)
/-- ways joined behind a statement -/
theorem wps_mid {K : Frag} {Y : Wish} {μ : Mem} {ρ : Ro} {D : DE} {t : TS} (J : Ro → Mem → Prop) (h : WPS K Y ρ μ t { D with nx := J }) (g : ∀ ρ' μ', J ρ' μ' → D.nx ρ' μ') : WPS K Y ρ μ t D := WPS.imp h (fun r m j => g r m j) (fun _ _ w => w) (fun _ _ w => w) (fun _ _ w => w)
end Ml

/-! Ml53: days tripled; books exchanged and days turned: what a comparison shows. -/
namespace Ml
open PySem L2 PySem.W PySem.Calls PyProof.Rows
/-- a line on another day -/
abbrev mv (s e : Int) (l : Ln) : Ln := (l.1, l.2.1 * s + e, l.2.2)
theorem ids_map {f : Ln → Ln} (hf : ∀ l, (f l).1 = l.1) (ls : List Ln) : ids (ls.map f) = ids ls := by
  unfold ids
  rw [List.map_map]
  exact List.map_congr_left fun l _ => hf l
theorem StOk.map {own other : List Ln} (h : StOk own other) {f : Ln → Ln} (hf : ∀ l, (f l).1 = l.1) (h1 : ∀ l ∈ own, -(2 ^ 59) ≤ (f l).2.1 ∧ (f l).2.1 ≤ 2 ^ 59) (h2 : ∀ l ∈ other, -(2 ^ 59) ≤ (f l).2.1 ∧ (f l).2.1 ≤ 2 ^ 59) : StOk (own.map f) (other.map f) :=
  ⟨by rw [ids_map hf]; exact h.n1, by rw [ids_map hf]; exact h.n2, by rw [List.length_map]; exact h.l1, by rw [List.length_map]; exact h.l2, fun l hl => by
    obtain ⟨x, hx, rfl⟩ := List.mem_map.mp hl
    exact h1 x hx, fun l hl => by
    obtain ⟨x, hx, rfl⟩ := List.mem_map.mp hl
    exact h2 x hx⟩
theorem StOk.swap {own other : List Ln} (h : StOk own other) : StOk other own := ⟨h.n2, h.n1, h.l2, h.l1, h.d2, h.d1⟩
def triple (e : Int) : Tr := ⟨fun x => x, fun x => x, 3, e, fun x => x, by decide, fun _ _ h => h, fun _ _ h => h, fun _ _ h => h⟩
theorem triple_f (e : Int) : (triple e).f1 = mv 3 e ∧ (triple e).f2 = mv 3 e := by
  constructor <;> (funext l; show (l.1, 3 * l.2.1 + e, l.2.2) = (l.1, l.2.1 * 3 + e, l.2.2); rw [Int.mul_comm])
theorem sort_mv {s e : Int} {ls : List Ln} (n : (ids ls).Nodup) (h : sortLn ls = ls) : sortLn (ls.map (mv s e)) = ls.map (mv s e) := by
  rw [sortLn_map (g := fun x => x) (f := mv s e) (fun _ _ h => h) (fun _ => rfl) n, h]
section
variable {m : Nat} {t : Stt}
def tripleSt (e : Int) (t : Stt) : Stt := ⟨sortLn (t.own.map (mv 3 e)), sortLn (t.other.map (mv 3 e)), 3 * t.cap, sortPr t.fixed⟩
theorem triple_st (v : Val m t) (e : Int) : tripleSt e t = (triple e).st (3 * t.cap) t := by
  unfold tripleSt Tr.st
  rw [sort_mv v.nd1 v.so, sort_mv v.nd2 v.st, v.sf, (triple_f e).1, (triple_f e).2]
  have : t.fixed.map (triple e).G = t.fixed := by
    conv => rhs; rw [← List.map_id t.fixed]
    exact List.map_congr_left fun _ _ => rfl
  rw [this]
theorem days_val (v : Val m t) : (∀ l ∈ t.own, 0 ≤ l.2.1 ∧ l.2.1 ≤ 1000000) ∧ ∀ l ∈ t.other, 0 ≤ l.2.1 ∧ l.2.1 ≤ 1000000 := by
  refine ⟨fun l hl => ?_, fun l hl => ?_⟩
  · have := v.own l hl
    rw [lineOk_iff] at this
    omega
  · have := v.other l hl
    rw [lineOk_iff] at this
    omega
theorem triple_facts (v : Val m t) (hm : m ≤ 63) {e : Int} (h0 : 0 ≤ e) (h1 : e ≤ 1000000) : StOk (openOwn (tripleSt e t)) (openOther (tripleSt e t)) ∧ matchedF (tripleSt e t) = matchedF t ∧ leftOwn (tripleSt e t) = leftOwn t ∧ leftOther (tripleSt e t) = leftOther t ∧
    stepsF (openOwn (tripleSt e t)) (openOther (tripleSt e t)) = (stepsF (openOwn t) (openOther t)).map (fun r => ((r.1 * 3, r.2.1, r.2.2) : Ln)) ∧ (tripleSt e t).own.length = t.own.length ∧ (tripleSt e t).other.length = t.other.length ∧ (tripleSt e t).fixed.length = t.fixed.length := by
  have g := v.stok hm
  have dv := days_val v
  have g' : StOk (openOwn ((triple e).st (3 * t.cap) t)) (openOther ((triple e).st (3 * t.cap) t)) := by
    rw [(open_tr (triple e)).1, (open_tr (triple e)).2, (triple_f e).1, (triple_f e).2]
    refine g.map (fun _ => rfl) (fun l hl => ?_) fun l hl => ?_
    · have := dv.1 l (List.mem_filter.mp hl).1
      show -(2 ^ 59) ≤ l.2.1 * 3 + e ∧ l.2.1 * 3 + e ≤ 2 ^ 59
      omega
    · have := dv.2 l (List.mem_filter.mp hl).1
      show -(2 ^ 59) ≤ l.2.1 * 3 + e ∧ l.2.1 * 3 + e ≤ 2 ^ 59
      omega
  have hc : ∀ d : Int, (triple e).s * d ≤ 3 * t.cap ↔ d ≤ t.cap := fun d => by show 3 * d ≤ 3 * t.cap ↔ _; omega
  have l1 := left_tr (triple e) g g' hc
  rw [triple_st v]
  refine ⟨g', ?_, ?_, ?_, ?_, ?_, ?_, ?_⟩
  · rw [matched_tr (triple e) g g' hc]
    conv => rhs; rw [← List.map_id (matchedF t)]
    exact List.map_congr_left fun _ _ => rfl
  · rw [l1.1]
    conv => rhs; rw [← List.map_id (leftOwn t)]
    exact List.map_congr_left fun _ _ => rfl
  · rw [l1.2]
    conv => rhs; rw [← List.map_id (leftOther t)]
    exact List.map_congr_left fun _ _ => rfl
  · rw [osteps_tr (triple e) g g']
    refine List.map_congr_left fun r _ => ?_
    show (3 * r.1, r.2.1, r.2.2) = _
    rw [Int.mul_comm]
  · exact List.length_map _
  · exact List.length_map _
  · exact List.length_map _
def turnSt (t : Stt) : Stt := ⟨sortLn (t.other.map (mv (0 - 1) 100)), sortLn (t.own.map (mv (0 - 1) 100)), t.cap, sortPr (t.fixed.map fun p => (p.2, p.1))⟩
theorem turn_facts (v : Val m t) (hm : m ≤ 63) : StOk (openOwn (turnSt t)) (openOther (turnSt t)) ∧ (stepsF (openOwn (turnSt t)) (openOther (turnSt t))).map (·.1) = (stepsF (openOwn t) (openOther t)).map (·.1) ∧ (matchedF (turnSt t)).length = (matchedF t).length ∧
    (turnSt t).own.length = t.other.length ∧ (turnSt t).other.length = t.own.length ∧ (turnSt t).fixed.length = t.fixed.length := by
  have g := v.stok hm
  have dv := days_val v
  have e : turnSt t = backSt 100 t := by
    unfold turnSt backSt
    rw [sort_mv v.nd1 v.so, sort_mv v.nd2 v.st]
    rfl
  have g' : StOk (openOwn (backSt 100 t)) (openOther (backSt 100 t)) := by
    rw [open_turn.1, open_turn.2]
    refine g.swap.map (fun _ => rfl) (fun l hl => ?_) fun l hl => ?_
    · have := dv.2 l (List.mem_filter.mp hl).1
      show -(2 ^ 59) ≤ l.2.1 * (0 - 1) + 100 ∧ l.2.1 * (0 - 1) + 100 ≤ 2 ^ 59
      omega
    · have := dv.1 l (List.mem_filter.mp hl).1
      show -(2 ^ 59) ≤ l.2.1 * (0 - 1) + 100 ∧ l.2.1 * (0 - 1) + 100 ≤ 2 ^ 59
      omega
  obtain ⟨d1, d2⟩ := back_days g g'
  rw [e]
  refine ⟨g', d1, d2, List.length_map _, List.length_map _, ?_⟩
  show (sortPr _).length = _
  rw [(sortPr_perm _).length_eq, List.length_map]
end
end Ml

/-! Ml54: sums, tuple(..); reports in plain words; lines of an amount of their own. -/
namespace Ml
open PySem L2 PySem.W PySem.Calls PyProof.Rows
def rTupO (K : Frag) : List V → Hp → VK → Prop := fun xs H Q => ∃ p ys, xs = [.ref p] ∧ ((SqL K H p ys ∧ ∀ l, H l = none → Q (.ref l) (upd H l (.tup ys))) ∨ (SqT K H p ys ∧ Q (.ref p) H))
theorem cr_tupO {X : Cx} : CallR X (.type "tuple") (rTupO X.K) := call_tuple_of
section
variable {K : Frag} {μ : Mem}
theorem ints_vals {T : Hp} : ∀ {ns : List Int} {vs : List V}, Reps K T vs (ns.map Dt.int) → vs = ns.map V.int
  | [], _, r => r.nil_inv
  | n :: ns, _, r => by
    obtain ⟨v, us, rfl, r1, r2⟩ := r.cons_inv
    obtain rfl := r1.int_inv
    rw [ints_vals r2]
    rfl
theorem rw_sum {d : Dt} {ns : List Int} {W : Dt → Mem → Prop} (h : IsLst μ d (ns.map Dt.int)) (w : W (.int ns.sum) μ) : RWL K μ (rSum K) [d] W := fun T H xs M r Q F => by
  obtain ⟨v, us, rfl, r1, r2⟩ := r.cons_inv
  obtain rfl := r2.nil_inv
  obtain ⟨a, ys, rfl, ha, ra⟩ := h.at M r1
  obtain rfl := ints_vals ra
  exact ⟨a, ns, rfl, SqL.of ha, F T _ H _ μ w (Step.refl _ _ _) M (.int _)⟩
theorem rw_sumI {ns : List Int} {W : Dt → Mem → Prop} (w : W (.int ns.sum) μ) : RWL K μ (rSum K) [.lst (ns.map Dt.int)] W := rw_sum isl w
theorem rw_tupO {d : Dt} {ds : List Dt} {W : Dt → Mem → Prop} (h : IsLst μ d ds) (w : W (.tup ds) μ) : RWL K μ (rTupO K) [d] W := fun T H xs M r Q F => by
  obtain ⟨v, us, rfl, r1, r2⟩ := r.cons_inv
  obtain rfl := r2.nil_inv
  obtain ⟨a, ys, rfl, ha, ra⟩ := h.at M r1
  refine ⟨a, ys, rfl, .inl ⟨SqL.of ha, fun p hp => ?_⟩⟩
  obtain ⟨M2, S2⟩ := M.lay (o := .tup ys) hp
  exact F _ _ _ _ μ w S2 M2 (.tup upd_same (ra.mono S2.grow))
end
/-! ### reports -/
def amtS (ls : List Ln) : Int := (ls.map (·.2.2)).sum
def betw (a b : Int) (ls : List Ln) : List Ln := ls.filter fun l => decide (a ≤ l.2.1) && decide (l.2.1 ≤ b)
/-- the four sums of a book -/
def bookS (ls : List Ln) (fs ms : List Int) : List Int := [amtS ls, amtS (ls.filter fun l => decide (l.1 ∈ fs)), amtS (ls.filter fun l => decide (l.1 ∈ ms)), amtS ls - amtS (ls.filter fun l => decide (l.1 ∈ fs)) - amtS (ls.filter fun l => decide (l.1 ∈ ms))]
def repOwn (t : Stt) (a b : Int) : List Int := bookS (betw a b t.own) (t.fixed.map (·.1)) ((matchedF t).map (·.1))
def repOther (t : Stt) (a b : Int) : List Int := bookS (betw a b t.other) (t.fixed.map (·.2)) ((matchedF t).map (·.2))
def repD (t : Stt) (a b : Int) : Dt := .tup [.tup ((repOwn t a b).map .int), .tup ((repOther t a b).map .int)]
def repP (t : Stt) (a b : Int) : PyData := .tuple [.tuple ((repOwn t a b).map .int), .tuple ((repOther t a b).map .int)]
def balF (t : Stt) : Int := amtS t.own - amtS t.other
theorem repD_py (t : Stt) (a b : Int) : (repD t a b).py = some (repP t a b) := by
  unfold repD repP
  simp only [Dt.py, Dt.pys, pys_ints, Option.map]
/-- as the law sums: line by line -/
def addS (fs ms : List Int) (acc : Int × Int × Int × Int) (l : Ln) : Int × Int × Int × Int :=
  if l.1 ∈ fs then (acc.1 + l.2.2, acc.2.1 + l.2.2, acc.2.2.1, acc.2.2.2) else if l.1 ∈ ms then (acc.1 + l.2.2, acc.2.1, acc.2.2.1 + l.2.2, acc.2.2.2) else (acc.1 + l.2.2, acc.2.1, acc.2.2.1, acc.2.2.2 + l.2.2)
theorem add_sums {fs ms : List Int} : ∀ (ls : List Ln) (acc : Int × Int × Int × Int), (∀ l ∈ ls, l.1 ∈ ms → l.1 ∉ fs) → ls.foldl (addS fs ms) acc = (acc.1 + amtS ls, acc.2.1 + amtS (ls.filter fun l => decide (l.1 ∈ fs)), acc.2.2.1 + amtS (ls.filter fun l => decide (l.1 ∈ ms)), acc.2.2.2 + (amtS ls - amtS (ls.filter fun l => decide (l.1 ∈ fs)) - amtS (ls.filter fun l => decide (l.1 ∈ ms))))
  | [], acc, _ => by simp [amtS]
  | l :: ls, acc, h => by
    have h0 := h l List.mem_cons_self
    rw [List.foldl_cons, add_sums ls _ fun x hx => h x (List.mem_cons_of_mem _ hx)]
    have e : amtS (l :: ls) = l.2.2 + amtS ls := by simp [amtS]
    have e2 : ∀ xs : List Ln, amtS (l :: xs) = l.2.2 + amtS xs := fun xs => by simp [amtS]
    unfold addS
    by_cases h1 : l.1 ∈ fs
    · have h2 : l.1 ∉ ms := fun z => h0 z h1
      rw [if_pos h1, List.filter_cons, if_pos (decide_eq_true h1), List.filter_cons, if_neg (by simpa using h2), e, e2]
      refine Prod.ext ?_ (Prod.ext ?_ (Prod.ext ?_ ?_)) <;> dsimp only <;> omega
    · by_cases h2 : l.1 ∈ ms
      · rw [if_neg h1, if_pos h2, List.filter_cons, if_neg (by simpa using h1), List.filter_cons, if_pos (decide_eq_true h2), e, e2]
        refine Prod.ext ?_ (Prod.ext ?_ (Prod.ext ?_ ?_)) <;> dsimp only <;> omega
      · rw [if_neg h1, if_neg h2, List.filter_cons, if_neg (by simpa using h1), List.filter_cons, if_neg (by simpa using h2), e]
        refine Prod.ext ?_ (Prod.ext ?_ (Prod.ext ?_ ?_)) <;> dsimp only <;> omega
theorem fixed_apart {t : Stt} : (∀ i ∈ (matchedF t).map (·.1), i ∉ t.fixed.map (·.1)) ∧ ∀ i ∈ (matchedF t).map (·.2), i ∉ t.fixed.map (·.2) := by
  refine ⟨fun i hi => ?_, fun i hi => ?_⟩
  · obtain ⟨p, hp, rfl⟩ := List.mem_map.mp hi
    obtain ⟨l, hl, e⟩ := List.mem_map.mp (best_mem hp).1
    exact e ▸ (open_own_at.mp hl).2
  · obtain ⟨p, hp, rfl⟩ := List.mem_map.mp hi
    obtain ⟨l, hl, e⟩ := List.mem_map.mp (best_mem hp).2
    exact e ▸ (open_other_at.mp hl).2
theorem amtS_small {ls : List Ln} (h : ∀ l ∈ ls, lineOk l.1 l.2.1 l.2.2 = true) : (amtS ls).natAbs ≤ 1000000000000 * ls.length := by
  induction ls with
  | nil => simp [amtS]
  | cons l ls ih =>
    have := ih fun x hx => h x (List.mem_cons_of_mem _ hx)
    have hl := h l List.mem_cons_self
    rw [lineOk_iff] at hl
    have e : amtS (l :: ls) = l.2.2 + amtS ls := by simp [amtS]
    rw [e, List.length_cons]
    omega
theorem bookS_small {ls : List Ln} {fs ms : List Int} (h : ∀ l ∈ ls, lineOk l.1 l.2.1 l.2.2 = true) (hl : ls.length ≤ 1000) : ∀ x ∈ bookS ls fs ms, x.natAbs < 10 ^ 38 := by
  have e38 : (1000000000000 * 3000 : Nat) < 10 ^ 38 := by decide
  have a := amtS_small h
  have b := amtS_small (ls := ls.filter fun l => decide (l.1 ∈ fs)) fun l hl => h l (List.mem_filter.mp hl).1
  have c := amtS_small (ls := ls.filter fun l => decide (l.1 ∈ ms)) fun l hl => h l (List.mem_filter.mp hl).1
  have lb := List.length_filter_le (fun l : Ln => decide (l.1 ∈ fs)) ls
  have lc := List.length_filter_le (fun l : Ln => decide (l.1 ∈ ms)) ls
  intro x hx
  unfold bookS at hx
  simp only [List.mem_cons, List.not_mem_nil, or_false] at hx
  rcases hx with rfl | rfl | rfl | rfl <;> omega
theorem shw_rep {m : Nat} {t : Stt} (v : Val m t) (hm : m ≤ 63) (a b : Int) : Shw (repP t a b) 2 (2 * (4 * (128 + 1) + 1)) := by
  have one : ∀ ns : List Int, ns.length ≤ 4 → (∀ x ∈ ns, x.natAbs < 10 ^ 38) → Shw (.tuple (ns.map .int)) 1 (4 * (128 + 1)) := fun ns hl h => shw_tup (fun x hx => by
    obtain ⟨y, hy, rfl⟩ := List.mem_map.mp hx
    exact shw_int (h y hy)) (by rw [List.length_map]; exact hl)
  have l1 := v.l1
  have l2 := v.l2
  have f1 := List.length_filter_le (fun l : Ln => decide (a ≤ l.2.1) && decide (l.2.1 ≤ b)) t.own
  have f2 := List.length_filter_le (fun l : Ln => decide (a ≤ l.2.1) && decide (l.2.1 ≤ b)) t.other
  refine shw_tup (k := 2) (fun x hx => ?_) (by simp)
  simp only [List.mem_cons, List.not_mem_nil, or_false] at hx
  rcases hx with rfl | rfl
  · exact one _ (by simp [repOwn, bookS]) (bookS_small (fun l hl => v.own l (List.mem_filter.mp hl).1) (by unfold betw; omega))
  · exact one _ (by simp [repOther, bookS]) (bookS_small (fun l hl => v.other l (List.mem_filter.mp hl).1) (by unfold betw; omega))
/-! ### a line of an amount of its own -/
theorem single_at {own other : List Ln} (h : StOk own other) {l m : Ln} (hl : l ∈ own) (hm : m ∈ other) (e : m.2.2 = l.2.2) (u1 : ∀ x ∈ own, x.2.2 = l.2.2 → x = l) (u2 : ∀ x ∈ other, x.2.2 = l.2.2 → x = m) (p : Int) : (l ∈ mOwn own other p ↔ dlt l m ≤ p) ∧ (m ∈ mOther own other p ↔ dlt l m ≤ p) := by
  obtain ⟨Ja, J, A⟩ := allJ h
  have s1 : ∀ x, x ∈ linesF own l.2.2 ↔ x = l := fun x => by
    rw [mem_linesF]
    exact ⟨fun ⟨a, b⟩ => u1 x a b, fun z => by subst z; exact ⟨hl, rfl⟩⟩
  have s2 : ∀ x, x ∈ linesF other l.2.2 ↔ x = m := fun x => by
    rw [mem_linesF]
    exact ⟨fun ⟨a, b⟩ => u2 x a b, fun z => by subst z; exact ⟨hm, e⟩⟩
  have one : ∀ (L : List Ln) (y : Ln), L.Nodup → (∀ x, x ∈ L ↔ x = y) → L = [y] := fun L y n hy => by
    have p : L.Perm [y] := (List.perm_ext_iff_of_nodup n (by simp)).mpr fun x => by rw [hy, List.mem_singleton]
    exact List.perm_singleton.mp p
  have e1 := one _ l (linesF_nodup h.n1) s1
  have e2 := one _ m (linesF_nodup h.n2) s2
  have d := A.amt l.2.2
  have lJ : (Ja l.2.2).length = 1 := by rw [d.full, e1, e2]; rfl
  obtain ⟨j, ej⟩ := List.length_eq_one_iff.mp lJ
  have j1 : j.2.1 = l := (s1 _).mp (List.mem_reverse.mp (d.joins.s1 j (by rw [ej]; exact List.mem_cons_self)))
  have j2 : j.2.2 = m := (s2 _).mp (List.mem_reverse.mp (d.joins.s2 j (by rw [ej]; exact List.mem_cons_self)))
  have jd : j.1 = dlt l m := by
    obtain ⟨⟨M, hM, lM, cM⟩, _⟩ := d.least h (k := 1) (by omega)
    rw [ej] at cM
    obtain ⟨q, rfl⟩ := List.length_eq_one_iff.mp lM
    have q1 : q.1 = l := (s1 _).mp (List.mem_reverse.mp (hM.s1 q List.mem_cons_self))
    have q2 : q.2 = m := (s2 _).mp (List.mem_reverse.mp (hM.s2 q List.mem_cons_self))
    have : St.cost dlt [q] = j.1 := by simpa using cM
    rw [← this]
    show (([q].map fun p : Ln × Ln => dlt p.1 p.2).sum) = _
    simp [q1, q2]
  constructor
  · rw [(A.own_at h).mem_iff, List.mem_map]
    constructor
    · rintro ⟨i, hi, ei⟩
      obtain ⟨i1, i2⟩ := List.mem_filter.mp hi
      have := (A.mem i i1).2.2.2
      rw [ei, ej, List.mem_singleton] at this
      rw [← jd, ← this]
      exact of_decide_eq_true i2
    · intro hd
      exact ⟨j, List.mem_filter.mpr ⟨A.all h (x := l.2.2) (by rw [ej]; exact List.mem_cons_self), decide_eq_true (by rw [jd]; exact hd)⟩, j1⟩
  · rw [(A.other_at h).mem_iff, List.mem_map]
    constructor
    · rintro ⟨i, hi, ei⟩
      obtain ⟨i1, i2⟩ := List.mem_filter.mp hi
      have h3 := A.mem i i1
      have := h3.2.2.2
      rw [h3.2.2.1, ei, e, ej, List.mem_singleton] at this
      rw [← jd, ← this]
      exact of_decide_eq_true i2
    · intro hd
      exact ⟨j, List.mem_filter.mpr ⟨A.all h (x := l.2.2) (by rw [ej]; exact List.mem_cons_self), decide_eq_true (by rw [jd]; exact hd)⟩, j2⟩
end Ml

/-! Ml55: sixty lines of amounts of their own (k53). -/
namespace Ml
open PySem L2 PySem.W PySem.Calls PyProof.Rows
namespace Full
def lo (i : Nat) : Ln := (1 + (i : Int), 1 + (i : Int), 10 + (1 + (i : Int)))
def lt (i : Nat) : Ln := (1 + (i : Int), 1 + (i : Int) + 2 * ((1 + (i : Int)) % 2), 10 + (1 + (i : Int)))
def own : List Ln := (List.range 60).map lo
def other : List Ln := (List.range 60).map lt
def st (c : Int) : Stt := ⟨own, other, c, [(58, 60), (60, 58)]⟩
theorem sort_own : sortLn own = own := (sortF_iff lnL).mpr (by decide +kernel)
theorem sort_other : sortLn other = other := (sortF_iff lnL).mpr (by decide +kernel)
theorem sorted_fixed : sortPr [(58, 60), (60, 58)] = [(58, 60), (60, 58)] := (sortF_iff prL).mpr (by decide +kernel)
theorem sort_fixed : sortPr [(60, 58), (58, 60)] = [(58, 60), (60, 58)] := sortPr_of (List.Perm.swap _ _ _) sorted_fixed
theorem val (c : Int) (h0 : 0 ≤ c) (h1 : c ≤ 1) : Val 60 (st c) where
  own := show ∀ l ∈ own, lineOk l.1 l.2.1 l.2.2 = true by decide +kernel
  other := show ∀ l ∈ other, lineOk l.1 l.2.1 l.2.2 = true by decide +kernel
  nd1 := show (ids own).Nodup by decide +kernel
  nd2 := show (ids other).Nodup by decide +kernel
  so := sort_own
  st := sort_other
  cap := by show priceOk c = true; simp [priceOk]; omega
  sf := sorted_fixed
  f1 := show ([(58, 60), (60, 58)].map (·.1) : List Int).Nodup by decide +kernel
  f2 := show ([(58, 60), (60, 58)].map (·.2) : List Int).Nodup by decide +kernel
  in1 := show ∀ p ∈ ([(58, 60), (60, 58)] : List Pr), p.1 ∈ ids own by decide +kernel
  in2 := show ∀ p ∈ ([(58, 60), (60, 58)] : List Pr), p.2 ∈ ids other by decide +kernel
  l1 := Nat.le_of_ble_eq_true rfl
  l2 := Nat.le_of_ble_eq_true rfl
theorem mem_own {l : Ln} : l ∈ own ↔ ∃ i, i < 60 ∧ lo i = l := by
  unfold own
  rw [List.mem_map]
  exact ⟨fun ⟨i, h, e⟩ => ⟨i, List.mem_range.mp h, e⟩, fun ⟨i, h, e⟩ => ⟨i, List.mem_range.mpr h, e⟩⟩
theorem mem_other {l : Ln} : l ∈ other ↔ ∃ i, i < 60 ∧ lt i = l := by
  unfold other
  rw [List.mem_map]
  exact ⟨fun ⟨i, h, e⟩ => ⟨i, List.mem_range.mp h, e⟩, fun ⟨i, h, e⟩ => ⟨i, List.mem_range.mpr h, e⟩⟩
/-- line i is matched exactly if its number is even and not confirmed -/
theorem at_ {c : Int} (h0 : 0 ≤ c) (h1 : c ≤ 1) {i : Nat} (hi : i < 60) : ((lo i).1 ∈ (matchedF (st c)).map (·.1) ↔ (i % 2 = 1 ∧ i < 57)) ∧ ((lt i).1 ∈ (matchedF (st c)).map (·.2) ↔ (i % 2 = 1 ∧ i < 57)) := by
  have g := (val c h0 h1).stok (by decide)
  by_cases hf : i = 57 ∨ i = 59
  · have no : ∀ j : Int, j ∈ ([(58, 60), (60, 58)] : List Pr).map (·.1) ∨ j ∈ ([(58, 60), (60, 58)] : List Pr).map (·.2) ↔ j = 58 ∨ j = 60 := fun j => by simp; omega
    have n1 : (lo i).1 ∈ (st c).fixed.map (·.1) := by
      rcases hf with rfl | rfl <;> (show _ ∈ ([(58, 60), (60, 58)] : List Pr).map (·.1); decide +kernel)
    have n2 : (lt i).1 ∈ (st c).fixed.map (·.2) := by
      rcases hf with rfl | rfl <;> (show _ ∈ ([(58, 60), (60, 58)] : List Pr).map (·.2); decide +kernel)
    refine ⟨⟨fun z => absurd n1 (fixed_apart.1 _ z), fun z => by omega⟩, ⟨fun z => absurd n2 (fixed_apart.2 _ z), fun z => by omega⟩⟩
  · have f1 : (lo i).1 ∉ (st c).fixed.map (·.1) := fun z => by
      have z : (1 + (i : Int)) ∈ ([(58, 60), (60, 58)] : List Pr).map (·.1) := z
      simp at z
      omega
    have f2 : (lt i).1 ∉ (st c).fixed.map (·.2) := fun z => by
      have z : (1 + (i : Int)) ∈ ([(58, 60), (60, 58)] : List Pr).map (·.2) := z
      simp at z
      omega
    have o1 : lo i ∈ openOwn (st c) := open_own_at.mpr ⟨mem_own.mpr ⟨i, hi, rfl⟩, f1⟩
    have o2 : lt i ∈ openOther (st c) := open_other_at.mpr ⟨mem_other.mpr ⟨i, hi, rfl⟩, f2⟩
    have s := single_at g o1 o2 rfl (fun x hx e => by
      obtain ⟨k, hk, rfl⟩ := mem_own.mp (open_own_at.mp hx).1
      have e : 10 + (1 + (k : Int)) = 10 + (1 + (i : Int)) := e
      have : k = i := by omega
      rw [this]) (fun x hx e => by
      obtain ⟨k, hk, rfl⟩ := mem_other.mp (open_other_at.mp hx).1
      have e : 10 + (1 + (k : Int)) = 10 + (1 + (i : Int)) := e
      have : k = i := by omega
      rw [this]) c
    have d : dlt (lo i) (lt i) ≤ c ↔ i % 2 = 1 := by
      show absI (1 + (i : Int) - (1 + (i : Int) + 2 * ((1 + (i : Int)) % 2))) ≤ c ↔ _
      unfold absI
      split <;> omega
    have s1 : lo i ∈ mO (st c) ↔ _ := s.1
    have s2 : lt i ∈ mT (st c) ↔ _ := s.2
    rw [matched_fst g o1, matched_snd g o2, s1, s2, d]
    constructor <;> omega
theorem sums {c : Int} (h0 : 0 ≤ c) (h1 : c ≤ 1) : repOwn (st c) 0 100 = [2430, 138, 1092, 1200] ∧ repOther (st c) 0 100 = [2430, 138, 1092, 1200] := by
  have b1 : betw 0 100 own = own := by decide +kernel
  have b2 : betw 0 100 other = other := by decide +kernel
  have m1 : own.filter (fun l => decide (l.1 ∈ (matchedF (st c)).map (·.1))) = own.filter fun l => decide (l.1 % 2 = 0) && decide (l.1 < 58) := by
    apply List.filter_congr
    intro l hl
    obtain ⟨i, hi, rfl⟩ := mem_own.mp hl
    rw [Bool.eq_iff_iff, decide_eq_true_eq, (at_ h0 h1 hi).1, Bool.and_eq_true, decide_eq_true_eq, decide_eq_true_eq]
    show _ ↔ (1 + (i : Int)) % 2 = 0 ∧ 1 + (i : Int) < 58
    omega
  have m2 : other.filter (fun l => decide (l.1 ∈ (matchedF (st c)).map (·.2))) = other.filter fun l => decide (l.1 % 2 = 0) && decide (l.1 < 58) := by
    apply List.filter_congr
    intro l hl
    obtain ⟨i, hi, rfl⟩ := mem_other.mp hl
    rw [Bool.eq_iff_iff, decide_eq_true_eq, (at_ h0 h1 hi).2, Bool.and_eq_true, decide_eq_true_eq, decide_eq_true_eq]
    show _ ↔ (1 + (i : Int)) % 2 = 0 ∧ 1 + (i : Int) < 58
    omega
  constructor
  · show bookS (betw 0 100 own) ([58, 60] : List Int) _ = _
    rw [b1]
    unfold bookS
    rw [m1]
    decide +kernel
  · show bookS (betw 0 100 other) ([60, 58] : List Int) _ = _
    rw [b2]
    unfold bookS
    rw [m2]
    decide +kernel
theorem bal (c : Int) : balF (st c) = 0 := by
  show amtS own - amtS other = 0
  decide +kernel
end Full
end Ml

namespace Ml.K53
open PySem L2 PySem.W PySem.Calls PyProof.Rows Ml
local macro_rules | `(tactic| nofun) => `(tactic| first | assumption | exact at0 | (apply at_set; nofun) | (apply at1; nofun))
local macro_rules | `(tactic| ac_rfl) => `(tactic| first
  | (with_reducible apply wp_var; with_unfolding_all rfl)
  | with_reducible first
  | refine wps_seq ?_ | refine wps_ret ?_ | refine wps_retN ?_ | refine wps_if ?_ | refine wps_asg ?_ | refine wps_drop ?_ | refine wps_next ?_ | refine wps_par ?_ | refine wps_par3 ?_ | refine wp_dget ?_ | refine wps_dput ?_ | refine wp_methN ?_ | refine wp_cmethN ?_
  | (with_reducible apply wpg_nameN; first | (simp only [startN, wipeR, List.map_cons, List.map_nil, List.set_cons_succ, List.set_cons_zero]; rfl) | rfl) | refine wpgs_nil ?_ | refine wpgs_cons ?_
  | refine wp_int ?_ | refine wp_bl ?_ | refine wp_str ?_ | refine wp_non ?_ | refine wp_ty ?_ | refine wp_ref ?_
  | refine wp_op ?_ | refine wp_un ?_ | refine wp_cb ?_ | refine wpa_nil ?_ | refine wpa_cons ?_ | refine wpa_star ?_ | refine wp_tup ?_
  | refine wpt_B ?_ | refine wpt_test ?_ | refine wpt_and ?_ | refine wpt_or ?_ | refine wpt_not ?_ | refine wp_andV ?_ | refine wp_orV ?_ | refine wp_notV ?_ | refine wp_if ?_ | refine wpt_yes ?_
  | refine wp_chain ?_ | refine wp_call ?_ | refine wp_fldX ?_ | refine wps_fldP ?_ | refine wp_methUX (fun _ _ _ _ => rfl) ?_ | refine wp_methU ?_ | refine wp_prop ?_ | refine wp_lst ?_
  | refine wp_isN ?_ | refine wp_notN ?_ | refine rw_eqI ?_ | refine rw_neI ?_ | refine rw_eqS ?_ | refine rw_neS ?_ | refine elem_i ?_ | refine rw_U (fun _ => .int _) ?_
  | refine in1 ?_ | refine in2 ?_ | refine in3 ?_ | refine in4 ?_ | refine in5 ?_ | refine in0 ?_ | refine in6 ?_
  | refine exB ?_ | refine exI ?_ | refine exL ?_
  | refine rw_I0 (fun _ => .bl _) ?_ | refine rw_I0 (fun _ => .int _) ?_
  | (with_reducible apply wpg_tup; with_unfolding_all rfl)
  | (with_reducible apply fldI; assumption; assumption; with_unfolding_all rfl)
  | (with_reducible apply fldC; nofun; assumption; assumption; with_unfolding_all rfl)
  | (with_reducible apply putat; nofun; assumption; assumption; with_unfolding_all rfl)
  | (with_reducible apply methat; nofun; with_unfolding_all rfl)
  | (with_reducible apply methatI; with_unfolding_all rfl)
  | (with_reducible apply dgetS; nofun; with_unfolding_all rfl)
  | (with_reducible apply dputS; nofun; with_unfolding_all rfl; first | exact put_states | exact put_place | with_unfolding_all rfl)
  | (with_reducible apply propat; nofun)
  | (with_reducible apply lenat; with_unfolding_all rfl)
  | (with_reducible apply itT; with_unfolding_all rfl)
  | (with_reducible apply itF; with_unfolding_all rfl))
local macro_rules | `(tactic| infer_instance) => `(tactic| first
  | ac_rfl
  | with_reducible first
  | refine rw_ixT0 ?_ | refine rw_ixT1 ?_ | refine rw_ixT2 ?_ | refine rw_ixT3 ?_ | refine rw_ixL0 ?_
  | refine wp_lcS1 ?_ | refine wp_lcS2 ?_ | refine wp_lcS3 ?_ | refine wpi_list ?_ | refine wpi_r1 ?_ | refine wpi_r2 ?_ | refine rg1 ?_ ?_ | refine rg2 ?_ ?_ | refine wpi_z ?_ | refine zp ?_ | refine wpi_enum ?_ | refine en ?_
  | exact ⟨rfl, rfl⟩ | refine ⟨rfl, rfl, fun _ => ?_⟩
  | refine rw_catM ?_ ?_ | refine rw_lenM ?_ | refine rw_lenL ?_ | refine rw_lenT ?_ | refine rw_inF ?_ | refine rw_inN ?_
  | refine rw_srtL ?_ ?_ | refine rw_srtP ?_ ?_
  | refine rw_neL0 ?_ | refine rw_neP0 ?_ | refine rw_neI0 ?_ | refine rw_eqL0 ?_ | refine rw_eqP0 ?_ | refine rw_eqI0 ?_
  | refine rw_eqLL ?_ | refine rw_eqPP ?_ | refine rw_eqII ?_ | refine rw_neLL ?_ | refine rw_nePP ?_ | refine rw_neII ?_
  | refine wpa_starL ?_ | refine wp_methT ?_ | refine wp_xfE ?_ | (with_reducible apply xfat; nofun; with_unfolding_all rfl) | refine wp_bm ?_ | refine wp_bm0 ?_ | (with_reducible apply bmC; nofun) | refine bmL ?_ | (with_reducible apply rwm_appA; nofun) | refine rw_eqTS ?_)
def top (i : Nat) : Stmt := PySem.Challenge.pw_matchlines_k53_reports_of_days.main.body.getD i (.Pass ⟨0, 0, 0, 0⟩)
abbrev s_BadLine___init__ : Stmt := inClass (top 15) 0
def N_BadLine___init__ : List Str := ["self", "value"]
theorem sc_BadLine___init__ : FnScope N_BadLine___init__ ["self", "value"] (defScope s_BadLine___init__) := ⟨rfl, rfl, rfl, by decide +kernel, rfl, by decide +kernel, by decide +kernel⟩
abbrev s_BadPrice___init__ : Stmt := inClass (top 16) 0
def N_BadPrice___init__ : List Str := ["self", "value"]
theorem sc_BadPrice___init__ : FnScope N_BadPrice___init__ ["self", "value"] (defScope s_BadPrice___init__) := ⟨rfl, rfl, rfl, by decide +kernel, rfl, by decide +kernel, by decide +kernel⟩
abbrev s_BadNumber___init__ : Stmt := inClass (top 17) 0
def N_BadNumber___init__ : List Str := ["self", "value"]
theorem sc_BadNumber___init__ : FnScope N_BadNumber___init__ ["self", "value"] (defScope s_BadNumber___init__) := ⟨rfl, rfl, rfl, by decide +kernel, rfl, by decide +kernel, by decide +kernel⟩
abbrev s_UnknownLine___init__ : Stmt := inClass (top 19) 0
def N_UnknownLine___init__ : List Str := ["self", "row_id"]
theorem sc_UnknownLine___init__ : FnScope N_UnknownLine___init__ ["self", "row_id"] (defScope s_UnknownLine___init__) := ⟨rfl, rfl, rfl, by decide +kernel, rfl, by decide +kernel, by decide +kernel⟩
abbrev s_TakenId___init__ : Stmt := inClass (top 20) 0
def N_TakenId___init__ : List Str := ["self", "row_id"]
theorem sc_TakenId___init__ : FnScope N_TakenId___init__ ["self", "row_id"] (defScope s_TakenId___init__) := ⟨rfl, rfl, rfl, by decide +kernel, rfl, by decide +kernel, by decide +kernel⟩
abbrev s_TakenLine___init__ : Stmt := inClass (top 21) 0
def N_TakenLine___init__ : List Str := ["self", "row_id"]
theorem sc_TakenLine___init__ : FnScope N_TakenLine___init__ ["self", "row_id"] (defScope s_TakenLine___init__) := ⟨rfl, rfl, rfl, by decide +kernel, rfl, by decide +kernel, by decide +kernel⟩
abbrev s_NothingToDo___init__ : Stmt := inClass (top 23) 0
def N_NothingToDo___init__ : List Str := ["self", "action"]
theorem sc_NothingToDo___init__ : FnScope N_NothingToDo___init__ ["self", "action"] (defScope s_NothingToDo___init__) := ⟨rfl, rfl, rfl, by decide +kernel, rfl, by decide +kernel, by decide +kernel⟩
abbrev s_Unpaired___init__ : Stmt := inClass (top 22) 0
def N_Unpaired___init__ : List Str := ["self", "amount"]
theorem sc_Unpaired___init__ : FnScope N_Unpaired___init__ ["self", "amount"] (defScope s_Unpaired___init__) := ⟨rfl, rfl, rfl, by decide +kernel, rfl, by decide +kernel, by decide +kernel⟩
abbrev s_is_integer : Stmt := top 6
def N_is_integer : List Str := ["value"]
theorem sc_is_integer : FnScope N_is_integer ["value"] (defScope s_is_integer) := ⟨rfl, rfl, rfl, by decide +kernel, rfl, by decide +kernel, by decide +kernel⟩
abbrev s_is_between : Stmt := top 7
def N_is_between : List Str := ["value", "low", "high"]
theorem sc_is_between : FnScope N_is_between ["value", "low", "high"] (defScope s_is_between) := ⟨rfl, rfl, rfl, by decide +kernel, rfl, by decide +kernel, by decide +kernel⟩
abbrev s_is_line : Stmt := top 8
def N_is_line : List Str := ["value", "row_id", "day", "amount"]
theorem sc_is_line : FnScope N_is_line ["value"] (defScope s_is_line) := ⟨rfl, rfl, rfl, by decide +kernel, rfl, by decide +kernel, by decide +kernel⟩
abbrev s_is_price : Stmt := top 9
def N_is_price : List Str := ["value"]
theorem sc_is_price : FnScope N_is_price ["value"] (defScope s_is_price) := ⟨rfl, rfl, rfl, by decide +kernel, rfl, by decide +kernel, by decide +kernel⟩
abbrev s_is_id_in : Stmt := top 48
def N_is_id_in : List Str := ["value", "lines", "line"]
theorem sc_is_id_in : FnScope N_is_id_in ["value", "lines"] (defScope s_is_id_in) := ⟨rfl, rfl, rfl, by decide +kernel, rfl, by decide +kernel, by decide +kernel⟩
abbrev s_with_line : Stmt := top 49
def N_with_line : List Str := ["lines", "line"]
theorem sc_with_line : FnScope N_with_line ["lines", "line"] (defScope s_with_line) := ⟨rfl, rfl, rfl, by decide +kernel, rfl, by decide +kernel, by decide +kernel⟩
abbrev s_without_id : Stmt := top 50
def N_without_id : List Str := ["lines", "row_id", "line"]
theorem sc_without_id : FnScope N_without_id ["lines", "row_id"] (defScope s_without_id) := ⟨rfl, rfl, rfl, by decide +kernel, rfl, by decide +kernel, by decide +kernel⟩
abbrev s_State___init__ : Stmt := inClass (top 51) 0
def N_State___init__ : List Str := ["self", "mine", "theirs", "cap", "fixed"]
theorem sc_State___init__ : FnScope N_State___init__ ["self", "mine", "theirs", "cap", "fixed"] (defScope s_State___init__) := ⟨rfl, rfl, rfl, by decide +kernel, rfl, by decide +kernel, by decide +kernel⟩
abbrev s_State_is_same : Stmt := inClass (top 51) 1
def N_State_is_same : List Str := ["self", "second"]
theorem sc_State_is_same : FnScope N_State_is_same ["self", "second"] (defScope s_State_is_same) := ⟨rfl, rfl, rfl, by decide +kernel, rfl, by decide +kernel, by decide +kernel⟩
abbrev s_Comparison___init__ : Stmt := inClass (top 52) 1
def N_Comparison___init__ : List Str := ["self"]
theorem sc_Comparison___init__ : FnScope N_Comparison___init__ ["self"] (defScope s_Comparison___init__) := ⟨rfl, rfl, rfl, by decide +kernel, rfl, by decide +kernel, by decide +kernel⟩
abbrev s_Comparison_made : Stmt := inClass (top 52) 2
def N_Comparison_made : List Str := ["cls", "own", "other", "price", "confirmed", "found"]
theorem sc_Comparison_made : FnScope N_Comparison_made ["cls", "own", "other", "price", "confirmed"] (defScope s_Comparison_made) := ⟨rfl, rfl, rfl, by decide +kernel, rfl, by decide +kernel, by decide +kernel⟩
abbrev s_Comparison_now : Stmt := inClass (top 52) 3
def N_Comparison_now : List Str := ["self"]
theorem sc_Comparison_now : FnScope N_Comparison_now ["self"] (defScope s_Comparison_now) := ⟨rfl, rfl, rfl, by decide +kernel, rfl, by decide +kernel, by decide +kernel⟩
abbrev s_Comparison_own : Stmt := inClass (top 52) 4
def N_Comparison_own : List Str := ["self"]
theorem sc_Comparison_own : FnScope N_Comparison_own ["self"] (defScope s_Comparison_own) := ⟨rfl, rfl, rfl, by decide +kernel, rfl, by decide +kernel, by decide +kernel⟩
abbrev s_Comparison_other : Stmt := inClass (top 52) 5
def N_Comparison_other : List Str := ["self"]
theorem sc_Comparison_other : FnScope N_Comparison_other ["self"] (defScope s_Comparison_other) := ⟨rfl, rfl, rfl, by decide +kernel, rfl, by decide +kernel, by decide +kernel⟩
abbrev s_Comparison_price : Stmt := inClass (top 52) 6
def N_Comparison_price : List Str := ["self"]
theorem sc_Comparison_price : FnScope N_Comparison_price ["self"] (defScope s_Comparison_price) := ⟨rfl, rfl, rfl, by decide +kernel, rfl, by decide +kernel, by decide +kernel⟩
abbrev s_Comparison_confirmed : Stmt := inClass (top 52) 7
def N_Comparison_confirmed : List Str := ["self"]
theorem sc_Comparison_confirmed : FnScope N_Comparison_confirmed ["self"] (defScope s_Comparison_confirmed) := ⟨rfl, rfl, rfl, by decide +kernel, rfl, by decide +kernel, by decide +kernel⟩
abbrev s_Comparison_keep : Stmt := inClass (top 52) 8
def N_Comparison_keep : List Str := ["self", "mine", "theirs", "cap", "fixed"]
theorem sc_Comparison_keep : FnScope N_Comparison_keep ["self", "mine", "theirs", "cap", "fixed"] (defScope s_Comparison_keep) := ⟨rfl, rfl, rfl, by decide +kernel, rfl, by decide +kernel, by decide +kernel⟩
abbrev s_Comparison_need_line : Stmt := inClass (top 52) 9
def N_Comparison_need_line : List Str := ["self", "lines", "line"]
theorem sc_Comparison_need_line : FnScope N_Comparison_need_line ["self", "lines", "line"] (defScope s_Comparison_need_line) := ⟨rfl, rfl, rfl, by decide +kernel, rfl, by decide +kernel, by decide +kernel⟩
abbrev s_Comparison_need_known : Stmt := inClass (top 52) 10
def N_Comparison_need_known : List Str := ["self", "lines", "row_id"]
theorem sc_Comparison_need_known : FnScope N_Comparison_need_known ["self", "lines", "row_id"] (defScope s_Comparison_need_known) := ⟨rfl, rfl, rfl, by decide +kernel, rfl, by decide +kernel, by decide +kernel⟩
abbrev s_Comparison_add_own : Stmt := inClass (top 52) 11
def N_Comparison_add_own : List Str := ["self", "row_id", "day", "amount", "line", "state"]
theorem sc_Comparison_add_own : FnScope N_Comparison_add_own ["self", "row_id", "day", "amount"] (defScope s_Comparison_add_own) := ⟨rfl, rfl, rfl, by decide +kernel, rfl, by decide +kernel, by decide +kernel⟩
abbrev s_Comparison_add_other : Stmt := inClass (top 52) 12
def N_Comparison_add_other : List Str := ["self", "row_id", "day", "amount", "line", "state"]
theorem sc_Comparison_add_other : FnScope N_Comparison_add_other ["self", "row_id", "day", "amount"] (defScope s_Comparison_add_other) := ⟨rfl, rfl, rfl, by decide +kernel, rfl, by decide +kernel, by decide +kernel⟩
abbrev s_Comparison_drop_own : Stmt := inClass (top 52) 13
def N_Comparison_drop_own : List Str := ["self", "row_id", "state", "fixed", "pair"]
theorem sc_Comparison_drop_own : FnScope N_Comparison_drop_own ["self", "row_id"] (defScope s_Comparison_drop_own) := ⟨rfl, rfl, rfl, by decide +kernel, rfl, by decide +kernel, by decide +kernel⟩
abbrev s_Comparison_drop_other : Stmt := inClass (top 52) 14
def N_Comparison_drop_other : List Str := ["self", "row_id", "state", "fixed", "pair"]
theorem sc_Comparison_drop_other : FnScope N_Comparison_drop_other ["self", "row_id"] (defScope s_Comparison_drop_other) := ⟨rfl, rfl, rfl, by decide +kernel, rfl, by decide +kernel, by decide +kernel⟩
abbrev s_Comparison_set_price : Stmt := inClass (top 52) 15
def N_Comparison_set_price : List Str := ["self", "price", "state"]
theorem sc_Comparison_set_price : FnScope N_Comparison_set_price ["self", "price"] (defScope s_Comparison_set_price) := ⟨rfl, rfl, rfl, by decide +kernel, rfl, by decide +kernel, by decide +kernel⟩
abbrev s_Comparison_open_again : Stmt := inClass (top 52) 17
def N_Comparison_open_again : List Str := ["self", "own_id", "state", "pair"]
theorem sc_Comparison_open_again : FnScope N_Comparison_open_again ["self", "own_id"] (defScope s_Comparison_open_again) := ⟨rfl, rfl, rfl, by decide +kernel, rfl, by decide +kernel, by decide +kernel⟩
abbrev s_Comparison_confirm : Stmt := inClass (top 52) 16
def N_Comparison_confirm : List Str := ["self", "own_id", "other_id", "state", "pair"]
theorem sc_Comparison_confirm : FnScope N_Comparison_confirm ["self", "own_id", "other_id"] (defScope s_Comparison_confirm) := ⟨rfl, rfl, rfl, by decide +kernel, rfl, by decide +kernel, by decide +kernel⟩
abbrev s_Comparison___eq__ : Stmt := inClass (top 52) 26
def N_Comparison___eq__ : List Str := ["self", "other"]
theorem sc_Comparison___eq__ : FnScope N_Comparison___eq__ ["self", "other"] (defScope s_Comparison___eq__) := ⟨rfl, rfl, rfl, by decide +kernel, rfl, by decide +kernel, by decide +kernel⟩
abbrev s_Comparison_undo : Stmt := inClass (top 52) 23
def N_Comparison_undo : List Str := ["self"]
theorem sc_Comparison_undo : FnScope N_Comparison_undo ["self"] (defScope s_Comparison_undo) := ⟨rfl, rfl, rfl, by decide +kernel, rfl, by decide +kernel, by decide +kernel⟩
abbrev s_Comparison_redo : Stmt := inClass (top 52) 24
def N_Comparison_redo : List Str := ["self"]
theorem sc_Comparison_redo : FnScope N_Comparison_redo ["self"] (defScope s_Comparison_redo) := ⟨rfl, rfl, rfl, by decide +kernel, rfl, by decide +kernel, by decide +kernel⟩
abbrev s__law_draw : Stmt := top 55
def N__law_draw : List Str := ["stream", "size", "found"]
theorem sc__law_draw : FnScope N__law_draw ["stream", "size"] (defScope s__law_draw) := ⟨rfl, rfl, rfl, by decide +kernel, rfl, by decide +kernel, by decide +kernel⟩
abbrev s__law_stream : Stmt := top 54
def N__law_stream : List Str := ["script", "start", "seed", "number", "digits"]
theorem sc__law_stream : FnScope N__law_stream ["script", "start"] (defScope s__law_stream) := ⟨rfl, rfl, rfl, by decide +kernel, rfl, by decide +kernel, by decide +kernel⟩
abbrev s__law_choose : Stmt := top 56
def N__law_choose : List Str := ["stream", "items"]
theorem sc__law_choose : FnScope N__law_choose ["stream", "items"] (defScope s__law_choose) := ⟨rfl, rfl, rfl, by decide +kernel, rfl, by decide +kernel, by decide +kernel⟩
abbrev s__law_now : Stmt := top 57
def N__law_now : List Str := ["box"]
theorem sc__law_now : FnScope N__law_now ["box"] (defScope s__law_now) := ⟨rfl, rfl, rfl, by decide +kernel, rfl, by decide +kernel, by decide +kernel⟩
abbrev s__law_keep : Stmt := top 58
def N__law_keep : List Str := ["box", "own", "other", "price", "fixed"]
theorem sc__law_keep : FnScope N__law_keep ["box", "own", "other", "price", "fixed"] (defScope s__law_keep) := ⟨rfl, rfl, rfl, by decide +kernel, rfl, by decide +kernel, by decide +kernel⟩
abbrev s__law_play : Stmt := top 59
def N__law_play : List Str := ["box", "deed", "own", "other", "price", "fixed", "word", "kept", "pair", "line"]
theorem sc__law_play : FnScope N__law_play ["box", "deed"] (defScope s__law_play) := ⟨rfl, rfl, rfl, by decide +kernel, rfl, by decide +kernel, by decide +kernel⟩
abbrev s__law_done : Stmt := top 60
def N__law_done : List Str := ["book", "deed", "word"]
theorem sc__law_done : FnScope N__law_done ["book", "deed"] (defScope s__law_done) := ⟨rfl, rfl, rfl, by decide +kernel, rfl, by decide +kernel, by decide +kernel⟩
abbrev s__law_free : Stmt := top 61
def N__law_free : List Str := ["box", "own", "other", "price", "fixed", "mine", "line", "pair"]
theorem sc__law_free : FnScope N__law_free ["box"] (defScope s__law_free) := ⟨rfl, rfl, rfl, by decide +kernel, rfl, by decide +kernel, by decide +kernel⟩
abbrev s__law_far : Stmt := top 63
def N__law_far : List Str := ["stream", "near"]
theorem sc__law_far : FnScope N__law_far ["stream"] (defScope s__law_far) := ⟨rfl, rfl, rfl, by decide +kernel, rfl, by decide +kernel, by decide +kernel⟩
abbrev s__law_deed : Stmt := top 62
def N__law_deed : List Str := ["stream", "box", "words", "own", "other", "price", "fixed", "mine", "theirs", "word", "book", "ids", "row_id", "amount", "one", "line"]
theorem sc__law_deed : FnScope N__law_deed ["stream", "box", "words"] (defScope s__law_deed) := ⟨rfl, rfl, rfl, by decide +kernel, rfl, by decide +kernel, by decide +kernel⟩
abbrev s__law_begun : Stmt := top 64
def N__law_begun : List Str := ["stream", "book", "box", "turn", "deed"]
theorem sc__law_begun : FnScope N__law_begun ["stream"] (defScope s__law_begun) := ⟨rfl, rfl, rfl, by decide +kernel, rfl, by decide +kernel, by decide +kernel⟩
abbrev s__law_same : Stmt := top 65
def N__law_same : List Str := ["book", "box", "own", "other", "price", "fixed"]
theorem sc__law_same : FnScope N__law_same ["book", "box"] (defScope s__law_same) := ⟨rfl, rfl, rfl, by decide +kernel, rfl, by decide +kernel, by decide +kernel⟩
abbrev s_sequence : Stmt := top 10
def N_sequence : List Str := ["own", "other", "ranked", "line", "day", "side", "row_id"]
theorem sc_sequence : FnScope N_sequence ["own", "other"] (defScope s_sequence) := ⟨rfl, rfl, rfl, by decide +kernel, rfl, by decide +kernel, by decide +kernel⟩
abbrev s_lines_of : Stmt := top 11
def N_lines_of : List Str := ["book", "amount", "ranked", "line", "day", "row_id"]
theorem sc_lines_of : FnScope N_lines_of ["book", "amount"] (defScope s_lines_of) := ⟨rfl, rfl, rfl, by decide +kernel, rfl, by decide +kernel, by decide +kernel⟩
abbrev s_amounts_of : Stmt := top 12
def N_amounts_of : List Str := ["own", "other", "others", "line"]
theorem sc_amounts_of : FnScope N_amounts_of ["own", "other"] (defScope s_amounts_of) := ⟨rfl, rfl, rfl, by decide +kernel, rfl, by decide +kernel, by decide +kernel⟩
abbrev s_chosen : Stmt := top 34
def N_chosen : List Str := ["book", "ids", "line"]
theorem sc_chosen : FnScope N_chosen ["book", "ids"] (defScope s_chosen) := ⟨rfl, rfl, rfl, by decide +kernel, rfl, by decide +kernel, by decide +kernel⟩
abbrev s_lesser : Stmt := top 38
def N_lesser : List Str := ["first", "second", "longer", "one", "two"]
theorem sc_lesser : FnScope N_lesser ["first", "second"] (defScope s_lesser) := ⟨rfl, rfl, rfl, by decide +kernel, rfl, by decide +kernel, by decide +kernel⟩
abbrev s_least_by_number : Stmt := top 39
def N_least_by_number : List Str := ["owns", "others", "unit", "before", "day", "weight", "row", "place", "other_day", "other_weight", "cost", "paired", "line", "number"]
theorem sc_least_by_number : FnScope N_least_by_number ["owns", "others", "unit"] (defScope s_least_by_number) := ⟨rfl, rfl, rfl, by decide +kernel, rfl, by decide +kernel, by decide +kernel⟩
abbrev s_first_unpaired : Stmt := top 35
def N_first_unpaired : List Str := ["owns", "others", "amount", "line"]
theorem sc_first_unpaired : FnScope N_first_unpaired ["owns", "others"] (defScope s_first_unpaired) := ⟨rfl, rfl, rfl, by decide +kernel, rfl, by decide +kernel, by decide +kernel⟩
abbrev s_in_sequence : Stmt := top 36
def N_in_sequence : List Str := ["own", "other", "own_ids", "other_ids", "owns", "others", "amount", "found", "own_line", "other_line", "line"]
theorem sc_in_sequence : FnScope N_in_sequence ["own", "other", "own_ids", "other_ids"] (defScope s_in_sequence) := ⟨rfl, rfl, rfl, by decide +kernel, rfl, by decide +kernel, by decide +kernel⟩
abbrev s_exact_steps : Stmt := top 40
def N_exact_steps : List Str := ["own", "other", "weights", "unit", "side", "line", "found", "amount", "owns", "others", "numbers", "sooner", "later"]
theorem sc_exact_steps : FnScope N_exact_steps ["own", "other"] (defScope s_exact_steps) := ⟨rfl, rfl, rfl, by decide +kernel, rfl, by decide +kernel, by decide +kernel⟩
abbrev s_steps : Stmt := top 41
def N_steps : List Str := ["own", "other", "exact", "weights", "unit", "found", "number", "joined", "key", "weight"]
theorem sc_steps : FnScope N_steps ["own", "other"] (defScope s_steps) := ⟨rfl, rfl, rfl, by decide +kernel, rfl, by decide +kernel, by decide +kernel⟩
abbrev s_need_number : Stmt := top 42
def N_need_number : List Str := ["rows", "number"]
theorem sc_need_number : FnScope N_need_number ["rows", "number"] (defScope s_need_number) := ⟨rfl, rfl, rfl, by decide +kernel, rfl, by decide +kernel, by decide +kernel⟩
abbrev s_best_matching : Stmt := top 43
def N_best_matching : List Str := ["own", "other", "number", "rows", "row"]
theorem sc_best_matching : FnScope N_best_matching ["own", "other", "number"] (defScope s_best_matching) := ⟨rfl, rfl, rfl, by decide +kernel, rfl, by decide +kernel, by decide +kernel⟩
abbrev s_pairs_at : Stmt := top 45
def N_pairs_at : List Str := ["own", "other", "price", "row"]
theorem sc_pairs_at : FnScope N_pairs_at ["own", "other", "price"] (defScope s_pairs_at) := ⟨rfl, rfl, rfl, by decide +kernel, rfl, by decide +kernel, by decide +kernel⟩
abbrev s_matching_at : Stmt := top 46
def N_matching_at : List Str := ["own", "other", "price"]
theorem sc_matching_at : FnScope N_matching_at ["own", "other", "price"] (defScope s_matching_at) := ⟨rfl, rfl, rfl, by decide +kernel, rfl, by decide +kernel, by decide +kernel⟩
abbrev s_State_open_mine : Stmt := inClass (top 51) 2
def N_State_open_mine : List Str := ["self", "held", "pair", "line"]
theorem sc_State_open_mine : FnScope N_State_open_mine ["self"] (defScope s_State_open_mine) := ⟨rfl, rfl, rfl, by decide +kernel, rfl, by decide +kernel, by decide +kernel⟩
abbrev s_State_open_theirs : Stmt := inClass (top 51) 3
def N_State_open_theirs : List Str := ["self", "held", "pair", "line"]
theorem sc_State_open_theirs : FnScope N_State_open_theirs ["self"] (defScope s_State_open_theirs) := ⟨rfl, rfl, rfl, by decide +kernel, rfl, by decide +kernel, by decide +kernel⟩
abbrev s_State_matched : Stmt := inClass (top 51) 4
def N_State_matched : List Str := ["self"]
theorem sc_State_matched : FnScope N_State_matched ["self"] (defScope s_State_matched) := ⟨rfl, rfl, rfl, by decide +kernel, rfl, by decide +kernel, by decide +kernel⟩
abbrev s_Comparison_pairs : Stmt := inClass (top 52) 18
def N_Comparison_pairs : List Str := ["self"]
theorem sc_Comparison_pairs : FnScope N_Comparison_pairs ["self"] (defScope s_Comparison_pairs) := ⟨rfl, rfl, rfl, by decide +kernel, rfl, by decide +kernel, by decide +kernel⟩
abbrev s_BadSpan___init__ : Stmt := inClass (top 18) 0
def N_BadSpan___init__ : List Str := ["self", "value"]
theorem sc_BadSpan___init__ : FnScope N_BadSpan___init__ ["self", "value"] (defScope s_BadSpan___init__) := ⟨rfl, rfl, rfl, by decide +kernel, rfl, by decide +kernel, by decide +kernel⟩
abbrev s_is_day : Stmt := top 26
def N_is_day : List Str := ["value"]
theorem sc_is_day : FnScope N_is_day ["value"] (defScope s_is_day) := ⟨rfl, rfl, rfl, by decide +kernel, rfl, by decide +kernel, by decide +kernel⟩
abbrev s_need_span : Stmt := top 27
def N_need_span : List Str := ["first", "last"]
theorem sc_need_span : FnScope N_need_span ["first", "last"] (defScope s_need_span) := ⟨rfl, rfl, rfl, by decide +kernel, rfl, by decide +kernel, by decide +kernel⟩
abbrev s_amount_of : Stmt := top 28
def N_amount_of : List Str := ["lines", "ids", "line"]
theorem sc_amount_of : FnScope N_amount_of ["lines", "ids"] (defScope s_amount_of) := ⟨rfl, rfl, rfl, by decide +kernel, rfl, by decide +kernel, by decide +kernel⟩
abbrev s_lines_between : Stmt := top 29
def N_lines_between : List Str := ["lines", "first", "last", "line"]
theorem sc_lines_between : FnScope N_lines_between ["lines", "first", "last"] (defScope s_lines_between) := ⟨rfl, rfl, rfl, by decide +kernel, rfl, by decide +kernel, by decide +kernel⟩
abbrev s_book_sums : Stmt := top 30
def N_book_sums : List Str := ["lines", "fixed_ids", "matched_ids", "found", "line"]
theorem sc_book_sums : FnScope N_book_sums ["lines", "fixed_ids", "matched_ids"] (defScope s_book_sums) := ⟨rfl, rfl, rfl, by decide +kernel, rfl, by decide +kernel, by decide +kernel⟩
abbrev s_report : Stmt := top 31
def N_report : List Str := ["comparison", "first", "last", "fixed", "matched", "mine", "theirs", "own_sums", "pair"]
theorem sc_report : FnScope N_report ["comparison", "first", "last"] (defScope s_report) := ⟨rfl, rfl, rfl, by decide +kernel, rfl, by decide +kernel, by decide +kernel⟩
abbrev s_balance : Stmt := top 32
def N_balance : List Str := ["comparison", "line"]
theorem sc_balance : FnScope N_balance ["comparison"] (defScope s_balance) := ⟨rfl, rfl, rfl, by decide +kernel, rfl, by decide +kernel, by decide +kernel⟩
abbrev s__law_sums : Stmt := top 66
def N__law_sums : List Str := ["lines", "fixed", "matched", "first", "last", "found", "row_id", "day", "amount", "place"]
theorem sc__law_sums : FnScope N__law_sums ["lines", "fixed", "matched", "first", "last"] (defScope s__law_sums) := ⟨rfl, rfl, rfl, by decide +kernel, rfl, by decide +kernel, by decide +kernel⟩
abbrev s__law_told_right : Stmt := top 68
def N__law_told_right : List Str := ["stream", "book", "box", "own", "other", "price", "fixed", "pairs", "begin", "far", "first", "last", "due", "pair", "line"]
theorem sc__law_told_right : FnScope N__law_told_right ["stream", "book", "box"] (defScope s__law_told_right) := ⟨rfl, rfl, rfl, by decide +kernel, rfl, by decide +kernel, by decide +kernel⟩
abbrev s__law_full_right : Stmt := top 67
def N__law_full_right : List Str := ["cap", "own", "other", "book", "pairs", "held", "matched", "whole", "due", "number", "line"]
theorem sc__law_full_right : FnScope N__law_full_right ["cap"] (defScope s__law_full_right) := ⟨rfl, rfl, rfl, by decide +kernel, rfl, by decide +kernel, by decide +kernel⟩
abbrev s_law : Stmt := top 69
def N_law : List Str := ["script", "start", "stream", "book", "box", "turn", "words", "deed"]
theorem sc_law : FnScope N_law ["script"] (defScope s_law) := ⟨rfl, rfl, rfl, by decide +kernel, rfl, by decide +kernel, by decide +kernel⟩
abbrev fa : List Fc := [
  .he (.free "isinstance"),
  .he (.free "int"),
  .he (.free "bool"),
  .he (.glo "is_integer"),
  .he (.free "tuple"),
  .he (.free "len"),
  .he (.glo "is_between"),
  .he (.int "GREATEST_ID" 1000000),
  .he (.int "LAST_DAY" 1000000),
  .he (.int "GREATEST_AMOUNT" 1000000000000),
  .he (.int "GREATEST_PRICE" 1000000000000),
  .he (.free "sorted"),
  .he (.mkr "State"),
  .he (.glo "State"),
  .he (.mkr "Comparison"),
  .he (.free "list"),
  .he (.glo "is_line"),
  .exc1 "BadLine" "value",
  .he (.glo "BadLine"),
  .he (.glo "is_id_in"),
  .exc1 "TakenId" "row_id",
  .he (.glo "TakenId"),
  .con "Comparison" "LIMIT" 60,
  .exc1 "BadNumber" "value",
  .he (.glo "BadNumber"),
  .exc1 "UnknownLine" "row_id",
  .he (.glo "UnknownLine"),
  .he (.cls "Comparison"),
  .he (.meth "Comparison" "need_line"),
  .prop "Comparison" "own",
  .he (.meth "Comparison" "now"),
  .he (.meth "Comparison" "keep"),
  .he (.glo "with_line"),
  .prop "Comparison" "other",
  .he (.meth "Comparison" "need_known"),
  .he (.glo "without_id"),
  .he (.glo "is_price"),
  .exc1 "BadPrice" "value",
  .he (.glo "BadPrice"),
  .prop "Comparison" "confirmed",
  .exc1 "TakenLine" "row_id",
  .he (.glo "TakenLine"),
  .he (.glo "Comparison"),
  .he (.cls "State"),
  .he (.meth "State" "is_same"),
  .exc1 "NothingToDo" "action",
  .he (.glo "NothingToDo"),
  .he (.glo "_law_draw"),
  .he (.glo "_law_now"),
  .he (.glo "_law_keep"),
  .he (.meth "Comparison" "add_own"),
  .he (.meth "Comparison" "add_other"),
  .he (.meth "Comparison" "drop_own"),
  .he (.meth "Comparison" "drop_other"),
  .he (.meth "Comparison" "set_price"),
  .he (.meth "Comparison" "confirm"),
  .he (.meth "Comparison" "open_again"),
  .he (.meth "Comparison" "undo"),
  .he (.meth "Comparison" "redo"),
  .he (.glo "_law_choose"),
  .he (.glo "_law_free"),
  .he (.free "range"),
  .he (.glo "_law_far"),
  .he (.glo "_law_deed"),
  .he (.glo "_law_play"),
  .he (.glo "_law_done"),
  .prop "Comparison" "price",
  .he (.free "zip"),
  .he (.free "min"),
  .he (.free "enumerate"),
  .he (.free "abs"),
  .he (.glo "lesser"),
  .he (.glo "lines_of"),
  .he (.glo "chosen"),
  .he (.glo "first_unpaired"),
  .exc1 "Unpaired" "amount",
  .he (.glo "Unpaired"),
  .he (.glo "sequence"),
  .he (.glo "amounts_of"),
  .he (.glo "least_by_number"),
  .he (.glo "exact_steps"),
  .he (.free "dict"),
  .he (.glo "steps"),
  .he (.glo "need_number"),
  .he (.glo "in_sequence"),
  .he (.glo "best_matching"),
  .he (.glo "pairs_at"),
  .he (.glo "matching_at"),
  .he (.meth "State" "open_theirs"),
  .he (.meth "State" "open_mine"),
  .he (.meth "State" "matched"),
  .he (.int "MAX_DAY" 1000000),
  .he (.glo "is_day"),
  .exc1 "BadSpan" "value",
  .he (.glo "BadSpan"),
  .he (.free "sum"),
  .he (.glo "amount_of"),
  .he (.glo "need_span"),
  .he (.meth "Comparison" "pairs"),
  .he (.glo "lines_between"),
  .he (.glo "book_sums"),
  .he (.glo "_law_sums"),
  .he (.free "repr"),
  .he (.glo "report"),
  .he (.glo "_law_same"),
  .he (.glo "balance"),
  .cmet "Comparison" "made",
  .he (.glo "_law_stream"),
  .he (.glo "_law_begun"),
  .he (.glo "_law_told_right"),
  .he (.glo "_law_full_right"),
  .he (.glo "law"),
  .he (.glo "MatchError"),
  .exc0 "MatchError",
  .he (.noat "State" "mine"),
  .he (.noat "State" "theirs"),
  .he (.noat "State" "cap"),
  .he (.noat "State" "fixed"),
  .he (.noat "Comparison" "states"),
  .he (.noat "Comparison" "spot"),
  .isi "Comparison"]
abbrev fn : List DefP := [
  ⟨mA "BadLine" "__init__", "__init__", "BadLine.__init__", s_BadLine___init__, []⟩,
  ⟨mA "BadPrice" "__init__", "__init__", "BadPrice.__init__", s_BadPrice___init__, []⟩,
  ⟨mA "BadNumber" "__init__", "__init__", "BadNumber.__init__", s_BadNumber___init__, []⟩,
  ⟨mA "UnknownLine" "__init__", "__init__", "UnknownLine.__init__", s_UnknownLine___init__, []⟩,
  ⟨mA "TakenId" "__init__", "__init__", "TakenId.__init__", s_TakenId___init__, []⟩,
  ⟨mA "TakenLine" "__init__", "__init__", "TakenLine.__init__", s_TakenLine___init__, []⟩,
  ⟨mA "NothingToDo" "__init__", "__init__", "NothingToDo.__init__", s_NothingToDo___init__, []⟩,
  ⟨mA "Unpaired" "__init__", "__init__", "Unpaired.__init__", s_Unpaired___init__, []⟩,
  ⟨gA "is_integer", "is_integer", "is_integer", s_is_integer, []⟩,
  ⟨gA "is_between", "is_between", "is_between", s_is_between, []⟩,
  ⟨gA "is_line", "is_line", "is_line", s_is_line, []⟩,
  ⟨gA "is_price", "is_price", "is_price", s_is_price, []⟩,
  ⟨gA "is_id_in", "is_id_in", "is_id_in", s_is_id_in, []⟩,
  ⟨gA "with_line", "with_line", "with_line", s_with_line, []⟩,
  ⟨gA "without_id", "without_id", "without_id", s_without_id, []⟩,
  ⟨mA "State" "__init__", "__init__", "State.__init__", s_State___init__, []⟩,
  ⟨mA "State" "is_same", "is_same", "State.is_same", s_State_is_same, []⟩,
  ⟨mA "Comparison" "__init__", "__init__", "Comparison.__init__", s_Comparison___init__, []⟩,
  ⟨cA "Comparison" "made", "made", "Comparison.made", s_Comparison_made, []⟩,
  ⟨mA "Comparison" "now", "now", "Comparison.now", s_Comparison_now, []⟩,
  ⟨pA "Comparison" "own", "own", "Comparison.own", s_Comparison_own, []⟩,
  ⟨pA "Comparison" "other", "other", "Comparison.other", s_Comparison_other, []⟩,
  ⟨pA "Comparison" "price", "price", "Comparison.price", s_Comparison_price, []⟩,
  ⟨pA "Comparison" "confirmed", "confirmed", "Comparison.confirmed", s_Comparison_confirmed, []⟩,
  ⟨mA "Comparison" "keep", "keep", "Comparison.keep", s_Comparison_keep, []⟩,
  ⟨mA "Comparison" "need_line", "need_line", "Comparison.need_line", s_Comparison_need_line, []⟩,
  ⟨mA "Comparison" "need_known", "need_known", "Comparison.need_known", s_Comparison_need_known, []⟩,
  ⟨mA "Comparison" "add_own", "add_own", "Comparison.add_own", s_Comparison_add_own, []⟩,
  ⟨mA "Comparison" "add_other", "add_other", "Comparison.add_other", s_Comparison_add_other, []⟩,
  ⟨mA "Comparison" "drop_own", "drop_own", "Comparison.drop_own", s_Comparison_drop_own, []⟩,
  ⟨mA "Comparison" "drop_other", "drop_other", "Comparison.drop_other", s_Comparison_drop_other, []⟩,
  ⟨mA "Comparison" "set_price", "set_price", "Comparison.set_price", s_Comparison_set_price, []⟩,
  ⟨mA "Comparison" "open_again", "open_again", "Comparison.open_again", s_Comparison_open_again, []⟩,
  ⟨mA "Comparison" "confirm", "confirm", "Comparison.confirm", s_Comparison_confirm, []⟩,
  ⟨mA "Comparison" "__eq__", "__eq__", "Comparison.__eq__", s_Comparison___eq__, []⟩,
  ⟨mA "Comparison" "undo", "undo", "Comparison.undo", s_Comparison_undo, []⟩,
  ⟨mA "Comparison" "redo", "redo", "Comparison.redo", s_Comparison_redo, []⟩,
  ⟨gA "_law_draw", "_law_draw", "_law_draw", s__law_draw, []⟩,
  ⟨gA "_law_stream", "_law_stream", "_law_stream", s__law_stream, []⟩,
  ⟨gA "_law_choose", "_law_choose", "_law_choose", s__law_choose, []⟩,
  ⟨gA "_law_now", "_law_now", "_law_now", s__law_now, []⟩,
  ⟨gA "_law_keep", "_law_keep", "_law_keep", s__law_keep, []⟩,
  ⟨gA "_law_play", "_law_play", "_law_play", s__law_play, []⟩,
  ⟨gA "_law_done", "_law_done", "_law_done", s__law_done, []⟩,
  ⟨gA "_law_free", "_law_free", "_law_free", s__law_free, []⟩,
  ⟨gA "_law_far", "_law_far", "_law_far", s__law_far, []⟩,
  ⟨gA "_law_deed", "_law_deed", "_law_deed", s__law_deed, []⟩,
  ⟨gA "_law_begun", "_law_begun", "_law_begun", s__law_begun, []⟩,
  ⟨gA "_law_same", "_law_same", "_law_same", s__law_same, []⟩,
  ⟨gA "sequence", "sequence", "sequence", s_sequence, []⟩,
  ⟨gA "lines_of", "lines_of", "lines_of", s_lines_of, []⟩,
  ⟨gA "amounts_of", "amounts_of", "amounts_of", s_amounts_of, []⟩,
  ⟨gA "chosen", "chosen", "chosen", s_chosen, []⟩,
  ⟨gA "lesser", "lesser", "lesser", s_lesser, []⟩,
  ⟨gA "least_by_number", "least_by_number", "least_by_number", s_least_by_number, []⟩,
  ⟨gA "first_unpaired", "first_unpaired", "first_unpaired", s_first_unpaired, []⟩,
  ⟨gA "in_sequence", "in_sequence", "in_sequence", s_in_sequence, []⟩,
  ⟨gA "exact_steps", "exact_steps", "exact_steps", s_exact_steps, []⟩,
  ⟨gA "steps", "steps", "steps", s_steps, []⟩,
  ⟨gA "need_number", "need_number", "need_number", s_need_number, []⟩,
  ⟨gA "best_matching", "best_matching", "best_matching", s_best_matching, []⟩,
  ⟨gA "pairs_at", "pairs_at", "pairs_at", s_pairs_at, []⟩,
  ⟨gA "matching_at", "matching_at", "matching_at", s_matching_at, []⟩,
  ⟨mA "State" "open_mine", "open_mine", "State.open_mine", s_State_open_mine, []⟩,
  ⟨mA "State" "open_theirs", "open_theirs", "State.open_theirs", s_State_open_theirs, []⟩,
  ⟨mA "State" "matched", "matched", "State.matched", s_State_matched, []⟩,
  ⟨mA "Comparison" "pairs", "pairs", "Comparison.pairs", s_Comparison_pairs, []⟩,
  ⟨mA "BadSpan" "__init__", "__init__", "BadSpan.__init__", s_BadSpan___init__, []⟩,
  ⟨gA "is_day", "is_day", "is_day", s_is_day, []⟩,
  ⟨gA "need_span", "need_span", "need_span", s_need_span, []⟩,
  ⟨gA "amount_of", "amount_of", "amount_of", s_amount_of, []⟩,
  ⟨gA "lines_between", "lines_between", "lines_between", s_lines_between, []⟩,
  ⟨gA "book_sums", "book_sums", "book_sums", s_book_sums, []⟩,
  ⟨gA "report", "report", "report", s_report, []⟩,
  ⟨gA "balance", "balance", "balance", s_balance, []⟩,
  ⟨gA "_law_sums", "_law_sums", "_law_sums", s__law_sums, []⟩,
  ⟨gA "_law_told_right", "_law_told_right", "_law_told_right", s__law_told_right, []⟩,
  ⟨gA "_law_full_right", "_law_full_right", "_law_full_right", s__law_full_right, []⟩,
  ⟨gA "law", "law", "law", s_law, []⟩]

abbrev R : OpenRow := OpenLaw.row PySem.Challenge.rw_matchlines_k53_reports_of_days
abbrev qv : Program := view R.prog [69]
def loose : List Str := (["_wall", "GREATEST_ID", "LAST_DAY", "GREATEST_AMOUNT", "GREATEST_PRICE", "is_integer", "is_between", "is_line", "is_price", "sequence", "lines_of", "amounts_of", "MatchError", "BadLine", "BadPrice", "BadNumber", "BadSpan", "UnknownLine", "TakenId", "TakenLine"] : List Str) ++ (["Unpaired", "NothingToDo", "MAX_DAY", "is_day", "need_span", "amount_of", "lines_between", "book_sums", "report", "balance", "chosen", "first_unpaired", "in_sequence", "lesser", "least_by_number", "exact_steps", "steps", "need_number", "best_matching", "pairs_at"] : List Str) ++ (["matching_at", "is_id_in", "with_line", "without_id", "State", "Comparison", "_law_stream", "_law_draw", "_law_choose", "_law_now", "_law_keep", "_law_play", "_law_done", "_law_free", "_law_deed", "_law_far", "_law_begun", "_law_same", "_law_sums", "_law_full_right"] : List Str) ++ (["_law_told_right"] : List Str)
theorem runA0 (w : World) : HandSHeadRun.RunEq R qv (hookP 5 fa []) (obP 5 fa []) 9000 loose w := by
  intro os
  kernel_rfl
theorem runB0 (w : World) : HandSHeadRun.RunEq R qv (hookP 5 [] ((fn.drop 0).take 40)) (obP 5 [] ((fn.drop 0).take 40)) 9000 loose w := by
  intro os
  kernel_rfl
theorem runB1 (w : World) : HandSHeadRun.RunEq R qv (hookP 5 [] ((fn.drop 0).drop 40)) (obP 5 [] ((fn.drop 0).drop 40)) 9000 loose w := by
  intro os
  kernel_rfl
theorem run (w : World) : HandSHeadRun.RunEq R qv (hookP 5 fa fn) (obP 5 fa fn) 9000 loose w := run_cutF 0 (runA0 w) (run_cutF 40 (runB0 w) (runB1 w))

theorem b_BadLine___init__ {K : Frag} {mg : Str → Option Value} (G : Good fa fn K mg) : L2.Binds K (fdOf K (mA "BadLine" "__init__" K)) ["self", "value"] [] := G.binds 0 rfl rfl fun _ _ _ _ _ _ us hl => match us, hl with | [_, _], _ => rfl
theorem b_BadPrice___init__ {K : Frag} {mg : Str → Option Value} (G : Good fa fn K mg) : L2.Binds K (fdOf K (mA "BadPrice" "__init__" K)) ["self", "value"] [] := G.binds 1 rfl rfl fun _ _ _ _ _ _ us hl => match us, hl with | [_, _], _ => rfl
theorem b_BadNumber___init__ {K : Frag} {mg : Str → Option Value} (G : Good fa fn K mg) : L2.Binds K (fdOf K (mA "BadNumber" "__init__" K)) ["self", "value"] [] := G.binds 2 rfl rfl fun _ _ _ _ _ _ us hl => match us, hl with | [_, _], _ => rfl
theorem b_UnknownLine___init__ {K : Frag} {mg : Str → Option Value} (G : Good fa fn K mg) : L2.Binds K (fdOf K (mA "UnknownLine" "__init__" K)) ["self", "row_id"] [] := G.binds 3 rfl rfl fun _ _ _ _ _ _ us hl => match us, hl with | [_, _], _ => rfl
theorem b_TakenId___init__ {K : Frag} {mg : Str → Option Value} (G : Good fa fn K mg) : L2.Binds K (fdOf K (mA "TakenId" "__init__" K)) ["self", "row_id"] [] := G.binds 4 rfl rfl fun _ _ _ _ _ _ us hl => match us, hl with | [_, _], _ => rfl
theorem b_TakenLine___init__ {K : Frag} {mg : Str → Option Value} (G : Good fa fn K mg) : L2.Binds K (fdOf K (mA "TakenLine" "__init__" K)) ["self", "row_id"] [] := G.binds 5 rfl rfl fun _ _ _ _ _ _ us hl => match us, hl with | [_, _], _ => rfl
theorem b_NothingToDo___init__ {K : Frag} {mg : Str → Option Value} (G : Good fa fn K mg) : L2.Binds K (fdOf K (mA "NothingToDo" "__init__" K)) ["self", "action"] [] := G.binds 6 rfl rfl fun _ _ _ _ _ _ us hl => match us, hl with | [_, _], _ => rfl
theorem b_Unpaired___init__ {K : Frag} {mg : Str → Option Value} (G : Good fa fn K mg) : L2.Binds K (fdOf K (mA "Unpaired" "__init__" K)) ["self", "amount"] [] := G.binds 7 rfl rfl fun _ _ _ _ _ _ us hl => match us, hl with | [_, _], _ => rfl
theorem b_is_integer {K : Frag} {mg : Str → Option Value} (G : Good fa fn K mg) : L2.Binds K (fdOf K (gA "is_integer" K)) ["value"] [] := G.binds 8 rfl rfl fun _ _ _ _ _ _ us hl => match us, hl with | [_], _ => rfl
theorem b_is_between {K : Frag} {mg : Str → Option Value} (G : Good fa fn K mg) : L2.Binds K (fdOf K (gA "is_between" K)) ["value", "low", "high"] [] := G.binds 9 rfl rfl fun _ _ _ _ _ _ us hl => match us, hl with | [_, _, _], _ => rfl
theorem b_is_line {K : Frag} {mg : Str → Option Value} (G : Good fa fn K mg) : L2.Binds K (fdOf K (gA "is_line" K)) ["value"] [] := G.binds 10 rfl rfl fun _ _ _ _ _ _ us hl => match us, hl with | [_], _ => rfl
theorem b_is_price {K : Frag} {mg : Str → Option Value} (G : Good fa fn K mg) : L2.Binds K (fdOf K (gA "is_price" K)) ["value"] [] := G.binds 11 rfl rfl fun _ _ _ _ _ _ us hl => match us, hl with | [_], _ => rfl
theorem b_is_id_in {K : Frag} {mg : Str → Option Value} (G : Good fa fn K mg) : L2.Binds K (fdOf K (gA "is_id_in" K)) ["value", "lines"] [] := G.binds 12 rfl rfl fun _ _ _ _ _ _ us hl => match us, hl with | [_, _], _ => rfl
theorem b_with_line {K : Frag} {mg : Str → Option Value} (G : Good fa fn K mg) : L2.Binds K (fdOf K (gA "with_line" K)) ["lines", "line"] [] := G.binds 13 rfl rfl fun _ _ _ _ _ _ us hl => match us, hl with | [_, _], _ => rfl
theorem b_without_id {K : Frag} {mg : Str → Option Value} (G : Good fa fn K mg) : L2.Binds K (fdOf K (gA "without_id" K)) ["lines", "row_id"] [] := G.binds 14 rfl rfl fun _ _ _ _ _ _ us hl => match us, hl with | [_, _], _ => rfl
theorem b_State___init__ {K : Frag} {mg : Str → Option Value} (G : Good fa fn K mg) : L2.Binds K (fdOf K (mA "State" "__init__" K)) ["self", "mine", "theirs", "cap", "fixed"] [] := G.binds 15 rfl rfl fun _ _ _ _ _ _ us hl => match us, hl with | [_, _, _, _, _], _ => rfl
theorem b_State_is_same {K : Frag} {mg : Str → Option Value} (G : Good fa fn K mg) : L2.Binds K (fdOf K (mA "State" "is_same" K)) ["self", "second"] [] := G.binds 16 rfl rfl fun _ _ _ _ _ _ us hl => match us, hl with | [_, _], _ => rfl
theorem b_Comparison___init__ {K : Frag} {mg : Str → Option Value} (G : Good fa fn K mg) : L2.Binds K (fdOf K (mA "Comparison" "__init__" K)) ["self"] [] := G.binds 17 rfl rfl fun _ _ _ _ _ _ us hl => match us, hl with | [_], _ => rfl
theorem b_Comparison_made {K : Frag} {mg : Str → Option Value} (G : Good fa fn K mg) : L2.Binds K (fdOf K (cA "Comparison" "made" K)) ["cls", "own", "other", "price", "confirmed"] [] := G.binds 18 rfl rfl fun _ _ _ _ _ _ us hl => match us, hl with | [_, _, _, _, _], _ => rfl
theorem b_Comparison_now {K : Frag} {mg : Str → Option Value} (G : Good fa fn K mg) : L2.Binds K (fdOf K (mA "Comparison" "now" K)) ["self"] [] := G.binds 19 rfl rfl fun _ _ _ _ _ _ us hl => match us, hl with | [_], _ => rfl
theorem b_Comparison_own {K : Frag} {mg : Str → Option Value} (G : Good fa fn K mg) : L2.Binds K (fdOf K (pA "Comparison" "own" K)) ["self"] [] := G.binds 20 rfl rfl fun _ _ _ _ _ _ us hl => match us, hl with | [_], _ => rfl
theorem b_Comparison_other {K : Frag} {mg : Str → Option Value} (G : Good fa fn K mg) : L2.Binds K (fdOf K (pA "Comparison" "other" K)) ["self"] [] := G.binds 21 rfl rfl fun _ _ _ _ _ _ us hl => match us, hl with | [_], _ => rfl
theorem b_Comparison_price {K : Frag} {mg : Str → Option Value} (G : Good fa fn K mg) : L2.Binds K (fdOf K (pA "Comparison" "price" K)) ["self"] [] := G.binds 22 rfl rfl fun _ _ _ _ _ _ us hl => match us, hl with | [_], _ => rfl
theorem b_Comparison_confirmed {K : Frag} {mg : Str → Option Value} (G : Good fa fn K mg) : L2.Binds K (fdOf K (pA "Comparison" "confirmed" K)) ["self"] [] := G.binds 23 rfl rfl fun _ _ _ _ _ _ us hl => match us, hl with | [_], _ => rfl
theorem b_Comparison_keep {K : Frag} {mg : Str → Option Value} (G : Good fa fn K mg) : L2.Binds K (fdOf K (mA "Comparison" "keep" K)) ["self", "mine", "theirs", "cap", "fixed"] [] := G.binds 24 rfl rfl fun _ _ _ _ _ _ us hl => match us, hl with | [_, _, _, _, _], _ => rfl
theorem b_Comparison_need_line {K : Frag} {mg : Str → Option Value} (G : Good fa fn K mg) : L2.Binds K (fdOf K (mA "Comparison" "need_line" K)) ["self", "lines", "line"] [] := G.binds 25 rfl rfl fun _ _ _ _ _ _ us hl => match us, hl with | [_, _, _], _ => rfl
theorem b_Comparison_need_known {K : Frag} {mg : Str → Option Value} (G : Good fa fn K mg) : L2.Binds K (fdOf K (mA "Comparison" "need_known" K)) ["self", "lines", "row_id"] [] := G.binds 26 rfl rfl fun _ _ _ _ _ _ us hl => match us, hl with | [_, _, _], _ => rfl
theorem b_Comparison_add_own {K : Frag} {mg : Str → Option Value} (G : Good fa fn K mg) : L2.Binds K (fdOf K (mA "Comparison" "add_own" K)) ["self", "row_id", "day", "amount"] [] := G.binds 27 rfl rfl fun _ _ _ _ _ _ us hl => match us, hl with | [_, _, _, _], _ => rfl
theorem b_Comparison_add_other {K : Frag} {mg : Str → Option Value} (G : Good fa fn K mg) : L2.Binds K (fdOf K (mA "Comparison" "add_other" K)) ["self", "row_id", "day", "amount"] [] := G.binds 28 rfl rfl fun _ _ _ _ _ _ us hl => match us, hl with | [_, _, _, _], _ => rfl
theorem b_Comparison_drop_own {K : Frag} {mg : Str → Option Value} (G : Good fa fn K mg) : L2.Binds K (fdOf K (mA "Comparison" "drop_own" K)) ["self", "row_id"] [] := G.binds 29 rfl rfl fun _ _ _ _ _ _ us hl => match us, hl with | [_, _], _ => rfl
theorem b_Comparison_drop_other {K : Frag} {mg : Str → Option Value} (G : Good fa fn K mg) : L2.Binds K (fdOf K (mA "Comparison" "drop_other" K)) ["self", "row_id"] [] := G.binds 30 rfl rfl fun _ _ _ _ _ _ us hl => match us, hl with | [_, _], _ => rfl
theorem b_Comparison_set_price {K : Frag} {mg : Str → Option Value} (G : Good fa fn K mg) : L2.Binds K (fdOf K (mA "Comparison" "set_price" K)) ["self", "price"] [] := G.binds 31 rfl rfl fun _ _ _ _ _ _ us hl => match us, hl with | [_, _], _ => rfl
theorem b_Comparison_open_again {K : Frag} {mg : Str → Option Value} (G : Good fa fn K mg) : L2.Binds K (fdOf K (mA "Comparison" "open_again" K)) ["self", "own_id"] [] := G.binds 32 rfl rfl fun _ _ _ _ _ _ us hl => match us, hl with | [_, _], _ => rfl
theorem b_Comparison_confirm {K : Frag} {mg : Str → Option Value} (G : Good fa fn K mg) : L2.Binds K (fdOf K (mA "Comparison" "confirm" K)) ["self", "own_id", "other_id"] [] := G.binds 33 rfl rfl fun _ _ _ _ _ _ us hl => match us, hl with | [_, _, _], _ => rfl
theorem b_Comparison___eq__ {K : Frag} {mg : Str → Option Value} (G : Good fa fn K mg) : L2.Binds K (fdOf K (mA "Comparison" "__eq__" K)) ["self", "other"] [] := G.binds 34 rfl rfl fun _ _ _ _ _ _ us hl => match us, hl with | [_, _], _ => rfl
theorem b_Comparison_undo {K : Frag} {mg : Str → Option Value} (G : Good fa fn K mg) : L2.Binds K (fdOf K (mA "Comparison" "undo" K)) ["self"] [] := G.binds 35 rfl rfl fun _ _ _ _ _ _ us hl => match us, hl with | [_], _ => rfl
theorem b_Comparison_redo {K : Frag} {mg : Str → Option Value} (G : Good fa fn K mg) : L2.Binds K (fdOf K (mA "Comparison" "redo" K)) ["self"] [] := G.binds 36 rfl rfl fun _ _ _ _ _ _ us hl => match us, hl with | [_], _ => rfl
theorem b__law_draw {K : Frag} {mg : Str → Option Value} (G : Good fa fn K mg) : L2.Binds K (fdOf K (gA "_law_draw" K)) ["stream", "size"] [] := G.binds 37 rfl rfl fun _ _ _ _ _ _ us hl => match us, hl with | [_, _], _ => rfl
theorem b__law_stream {K : Frag} {mg : Str → Option Value} (G : Good fa fn K mg) : L2.Binds K (fdOf K (gA "_law_stream" K)) ["script", "start"] [] := G.binds 38 rfl rfl fun _ _ _ _ _ _ us hl => match us, hl with | [_, _], _ => rfl
theorem b__law_choose {K : Frag} {mg : Str → Option Value} (G : Good fa fn K mg) : L2.Binds K (fdOf K (gA "_law_choose" K)) ["stream", "items"] [] := G.binds 39 rfl rfl fun _ _ _ _ _ _ us hl => match us, hl with | [_, _], _ => rfl
theorem b__law_now {K : Frag} {mg : Str → Option Value} (G : Good fa fn K mg) : L2.Binds K (fdOf K (gA "_law_now" K)) ["box"] [] := G.binds 40 rfl rfl fun _ _ _ _ _ _ us hl => match us, hl with | [_], _ => rfl
theorem b__law_keep {K : Frag} {mg : Str → Option Value} (G : Good fa fn K mg) : L2.Binds K (fdOf K (gA "_law_keep" K)) ["box", "own", "other", "price", "fixed"] [] := G.binds 41 rfl rfl fun _ _ _ _ _ _ us hl => match us, hl with | [_, _, _, _, _], _ => rfl
theorem b__law_play {K : Frag} {mg : Str → Option Value} (G : Good fa fn K mg) : L2.Binds K (fdOf K (gA "_law_play" K)) ["box", "deed"] [] := G.binds 42 rfl rfl fun _ _ _ _ _ _ us hl => match us, hl with | [_, _], _ => rfl
theorem b__law_done {K : Frag} {mg : Str → Option Value} (G : Good fa fn K mg) : L2.Binds K (fdOf K (gA "_law_done" K)) ["book", "deed"] [] := G.binds 43 rfl rfl fun _ _ _ _ _ _ us hl => match us, hl with | [_, _], _ => rfl
theorem b__law_free {K : Frag} {mg : Str → Option Value} (G : Good fa fn K mg) : L2.Binds K (fdOf K (gA "_law_free" K)) ["box"] [] := G.binds 44 rfl rfl fun _ _ _ _ _ _ us hl => match us, hl with | [_], _ => rfl
theorem b__law_far {K : Frag} {mg : Str → Option Value} (G : Good fa fn K mg) : L2.Binds K (fdOf K (gA "_law_far" K)) ["stream"] [] := G.binds 45 rfl rfl fun _ _ _ _ _ _ us hl => match us, hl with | [_], _ => rfl
theorem b__law_deed {K : Frag} {mg : Str → Option Value} (G : Good fa fn K mg) : L2.Binds K (fdOf K (gA "_law_deed" K)) ["stream", "box", "words"] [] := G.binds 46 rfl rfl fun _ _ _ _ _ _ us hl => match us, hl with | [_, _, _], _ => rfl
theorem b__law_begun {K : Frag} {mg : Str → Option Value} (G : Good fa fn K mg) : L2.Binds K (fdOf K (gA "_law_begun" K)) ["stream"] [] := G.binds 47 rfl rfl fun _ _ _ _ _ _ us hl => match us, hl with | [_], _ => rfl
theorem b__law_same {K : Frag} {mg : Str → Option Value} (G : Good fa fn K mg) : L2.Binds K (fdOf K (gA "_law_same" K)) ["book", "box"] [] := G.binds 48 rfl rfl fun _ _ _ _ _ _ us hl => match us, hl with | [_, _], _ => rfl
theorem b_sequence {K : Frag} {mg : Str → Option Value} (G : Good fa fn K mg) : L2.Binds K (fdOf K (gA "sequence" K)) ["own", "other"] [] := G.binds 49 rfl rfl fun _ _ _ _ _ _ us hl => match us, hl with | [_, _], _ => rfl
theorem b_lines_of {K : Frag} {mg : Str → Option Value} (G : Good fa fn K mg) : L2.Binds K (fdOf K (gA "lines_of" K)) ["book", "amount"] [] := G.binds 50 rfl rfl fun _ _ _ _ _ _ us hl => match us, hl with | [_, _], _ => rfl
theorem b_amounts_of {K : Frag} {mg : Str → Option Value} (G : Good fa fn K mg) : L2.Binds K (fdOf K (gA "amounts_of" K)) ["own", "other"] [] := G.binds 51 rfl rfl fun _ _ _ _ _ _ us hl => match us, hl with | [_, _], _ => rfl
theorem b_chosen {K : Frag} {mg : Str → Option Value} (G : Good fa fn K mg) : L2.Binds K (fdOf K (gA "chosen" K)) ["book", "ids"] [] := G.binds 52 rfl rfl fun _ _ _ _ _ _ us hl => match us, hl with | [_, _], _ => rfl
theorem b_lesser {K : Frag} {mg : Str → Option Value} (G : Good fa fn K mg) : L2.Binds K (fdOf K (gA "lesser" K)) ["first", "second"] [] := G.binds 53 rfl rfl fun _ _ _ _ _ _ us hl => match us, hl with | [_, _], _ => rfl
theorem b_least_by_number {K : Frag} {mg : Str → Option Value} (G : Good fa fn K mg) : L2.Binds K (fdOf K (gA "least_by_number" K)) ["owns", "others", "unit"] [] := G.binds 54 rfl rfl fun _ _ _ _ _ _ us hl => match us, hl with | [_, _, _], _ => rfl
theorem b_first_unpaired {K : Frag} {mg : Str → Option Value} (G : Good fa fn K mg) : L2.Binds K (fdOf K (gA "first_unpaired" K)) ["owns", "others"] [] := G.binds 55 rfl rfl fun _ _ _ _ _ _ us hl => match us, hl with | [_, _], _ => rfl
theorem b_in_sequence {K : Frag} {mg : Str → Option Value} (G : Good fa fn K mg) : L2.Binds K (fdOf K (gA "in_sequence" K)) ["own", "other", "own_ids", "other_ids"] [] := G.binds 56 rfl rfl fun _ _ _ _ _ _ us hl => match us, hl with | [_, _, _, _], _ => rfl
theorem b_exact_steps {K : Frag} {mg : Str → Option Value} (G : Good fa fn K mg) : L2.Binds K (fdOf K (gA "exact_steps" K)) ["own", "other"] [] := G.binds 57 rfl rfl fun _ _ _ _ _ _ us hl => match us, hl with | [_, _], _ => rfl
theorem b_steps {K : Frag} {mg : Str → Option Value} (G : Good fa fn K mg) : L2.Binds K (fdOf K (gA "steps" K)) ["own", "other"] [] := G.binds 58 rfl rfl fun _ _ _ _ _ _ us hl => match us, hl with | [_, _], _ => rfl
theorem b_need_number {K : Frag} {mg : Str → Option Value} (G : Good fa fn K mg) : L2.Binds K (fdOf K (gA "need_number" K)) ["rows", "number"] [] := G.binds 59 rfl rfl fun _ _ _ _ _ _ us hl => match us, hl with | [_, _], _ => rfl
theorem b_best_matching {K : Frag} {mg : Str → Option Value} (G : Good fa fn K mg) : L2.Binds K (fdOf K (gA "best_matching" K)) ["own", "other", "number"] [] := G.binds 60 rfl rfl fun _ _ _ _ _ _ us hl => match us, hl with | [_, _, _], _ => rfl
theorem b_pairs_at {K : Frag} {mg : Str → Option Value} (G : Good fa fn K mg) : L2.Binds K (fdOf K (gA "pairs_at" K)) ["own", "other", "price"] [] := G.binds 61 rfl rfl fun _ _ _ _ _ _ us hl => match us, hl with | [_, _, _], _ => rfl
theorem b_matching_at {K : Frag} {mg : Str → Option Value} (G : Good fa fn K mg) : L2.Binds K (fdOf K (gA "matching_at" K)) ["own", "other", "price"] [] := G.binds 62 rfl rfl fun _ _ _ _ _ _ us hl => match us, hl with | [_, _, _], _ => rfl
theorem b_State_open_mine {K : Frag} {mg : Str → Option Value} (G : Good fa fn K mg) : L2.Binds K (fdOf K (mA "State" "open_mine" K)) ["self"] [] := G.binds 63 rfl rfl fun _ _ _ _ _ _ us hl => match us, hl with | [_], _ => rfl
theorem b_State_open_theirs {K : Frag} {mg : Str → Option Value} (G : Good fa fn K mg) : L2.Binds K (fdOf K (mA "State" "open_theirs" K)) ["self"] [] := G.binds 64 rfl rfl fun _ _ _ _ _ _ us hl => match us, hl with | [_], _ => rfl
theorem b_State_matched {K : Frag} {mg : Str → Option Value} (G : Good fa fn K mg) : L2.Binds K (fdOf K (mA "State" "matched" K)) ["self"] [] := G.binds 65 rfl rfl fun _ _ _ _ _ _ us hl => match us, hl with | [_], _ => rfl
theorem b_Comparison_pairs {K : Frag} {mg : Str → Option Value} (G : Good fa fn K mg) : L2.Binds K (fdOf K (mA "Comparison" "pairs" K)) ["self"] [] := G.binds 66 rfl rfl fun _ _ _ _ _ _ us hl => match us, hl with | [_], _ => rfl
theorem b_BadSpan___init__ {K : Frag} {mg : Str → Option Value} (G : Good fa fn K mg) : L2.Binds K (fdOf K (mA "BadSpan" "__init__" K)) ["self", "value"] [] := G.binds 67 rfl rfl fun _ _ _ _ _ _ us hl => match us, hl with | [_, _], _ => rfl
theorem b_is_day {K : Frag} {mg : Str → Option Value} (G : Good fa fn K mg) : L2.Binds K (fdOf K (gA "is_day" K)) ["value"] [] := G.binds 68 rfl rfl fun _ _ _ _ _ _ us hl => match us, hl with | [_], _ => rfl
theorem b_need_span {K : Frag} {mg : Str → Option Value} (G : Good fa fn K mg) : L2.Binds K (fdOf K (gA "need_span" K)) ["first", "last"] [] := G.binds 69 rfl rfl fun _ _ _ _ _ _ us hl => match us, hl with | [_, _], _ => rfl
theorem b_amount_of {K : Frag} {mg : Str → Option Value} (G : Good fa fn K mg) : L2.Binds K (fdOf K (gA "amount_of" K)) ["lines", "ids"] [] := G.binds 70 rfl rfl fun _ _ _ _ _ _ us hl => match us, hl with | [_, _], _ => rfl
theorem b_lines_between {K : Frag} {mg : Str → Option Value} (G : Good fa fn K mg) : L2.Binds K (fdOf K (gA "lines_between" K)) ["lines", "first", "last"] [] := G.binds 71 rfl rfl fun _ _ _ _ _ _ us hl => match us, hl with | [_, _, _], _ => rfl
theorem b_book_sums {K : Frag} {mg : Str → Option Value} (G : Good fa fn K mg) : L2.Binds K (fdOf K (gA "book_sums" K)) ["lines", "fixed_ids", "matched_ids"] [] := G.binds 72 rfl rfl fun _ _ _ _ _ _ us hl => match us, hl with | [_, _, _], _ => rfl
theorem b_report {K : Frag} {mg : Str → Option Value} (G : Good fa fn K mg) : L2.Binds K (fdOf K (gA "report" K)) ["comparison", "first", "last"] [] := G.binds 73 rfl rfl fun _ _ _ _ _ _ us hl => match us, hl with | [_, _, _], _ => rfl
theorem b_balance {K : Frag} {mg : Str → Option Value} (G : Good fa fn K mg) : L2.Binds K (fdOf K (gA "balance" K)) ["comparison"] [] := G.binds 74 rfl rfl fun _ _ _ _ _ _ us hl => match us, hl with | [_], _ => rfl
theorem b__law_sums {K : Frag} {mg : Str → Option Value} (G : Good fa fn K mg) : L2.Binds K (fdOf K (gA "_law_sums" K)) ["lines", "fixed", "matched", "first", "last"] [] := G.binds 75 rfl rfl fun _ _ _ _ _ _ us hl => match us, hl with | [_, _, _, _, _], _ => rfl
theorem b__law_told_right {K : Frag} {mg : Str → Option Value} (G : Good fa fn K mg) : L2.Binds K (fdOf K (gA "_law_told_right" K)) ["stream", "book", "box"] [] := G.binds 76 rfl rfl fun _ _ _ _ _ _ us hl => match us, hl with | [_, _, _], _ => rfl
theorem b__law_full_right {K : Frag} {mg : Str → Option Value} (G : Good fa fn K mg) : L2.Binds K (fdOf K (gA "_law_full_right" K)) ["cap"] [] := G.binds 77 rfl rfl fun _ _ _ _ _ _ us hl => match us, hl with | [_], _ => rfl
theorem b_law {K : Frag} {mg : Str → Option Value} (G : Good fa fn K mg) : L2.Binds K (fdOf K (gA "law" K)) ["script"] [] := G.binds 78 rfl rfl fun _ _ _ _ _ _ us hl => match us, hl with | [_], _ => rfl

/-! ### errors -/
theorem ok_BadLine___init__ {P : Program} {w : World} {K : Frag} {mg : Str → Option Value} {base : Heap} (G : Good fa fn K mg) : FnOk P w K mg base (L2.CX P w) 1 (mA "BadLine" "__init__" K) (fdOf K (mA "BadLine" "__init__" K)) ["self", "value"] (spX K (gA "BadLine" K) (mA "BadLine" "__init__" K) "value") :=
  ok_exc (m := "invalid line") (G.def_ 0 rfl) sc_BadLine___init__ rfl (G.exc1 17 rfl) fun cdv A outer s0 H E hr => pss_cons (ps_expr (pe_oinit rfl (G.glo 112 rfl) (G.exc0 113 rfl) (pa_cons (pv 0) (pa_cons pe_str pa_nil)))) (pss_one (ps_ost (pv 0) (pv 1)))
theorem ok_BadPrice___init__ {P : Program} {w : World} {K : Frag} {mg : Str → Option Value} {base : Heap} (G : Good fa fn K mg) : FnOk P w K mg base (L2.CX P w) 1 (mA "BadPrice" "__init__" K) (fdOf K (mA "BadPrice" "__init__" K)) ["self", "value"] (spX K (gA "BadPrice" K) (mA "BadPrice" "__init__" K) "value") :=
  ok_exc (m := "invalid price") (G.def_ 1 rfl) sc_BadPrice___init__ rfl (G.exc1 37 rfl) fun cdv A outer s0 H E hr => pss_cons (ps_expr (pe_oinit rfl (G.glo 112 rfl) (G.exc0 113 rfl) (pa_cons (pv 0) (pa_cons pe_str pa_nil)))) (pss_one (ps_ost (pv 0) (pv 1)))
theorem ok_BadNumber___init__ {P : Program} {w : World} {K : Frag} {mg : Str → Option Value} {base : Heap} (G : Good fa fn K mg) : FnOk P w K mg base (L2.CX P w) 1 (mA "BadNumber" "__init__" K) (fdOf K (mA "BadNumber" "__init__" K)) ["self", "value"] (spX K (gA "BadNumber" K) (mA "BadNumber" "__init__" K) "value") :=
  ok_exc (m := "invalid number") (G.def_ 2 rfl) sc_BadNumber___init__ rfl (G.exc1 23 rfl) fun cdv A outer s0 H E hr => pss_cons (ps_expr (pe_oinit rfl (G.glo 112 rfl) (G.exc0 113 rfl) (pa_cons (pv 0) (pa_cons pe_str pa_nil)))) (pss_one (ps_ost (pv 0) (pv 1)))
theorem ok_UnknownLine___init__ {P : Program} {w : World} {K : Frag} {mg : Str → Option Value} {base : Heap} (G : Good fa fn K mg) : FnOk P w K mg base (L2.CX P w) 1 (mA "UnknownLine" "__init__" K) (fdOf K (mA "UnknownLine" "__init__" K)) ["self", "row_id"] (spX K (gA "UnknownLine" K) (mA "UnknownLine" "__init__" K) "row_id") :=
  ok_exc (m := "unknown line") (G.def_ 3 rfl) sc_UnknownLine___init__ rfl (G.exc1 25 rfl) fun cdv A outer s0 H E hr => pss_cons (ps_expr (pe_oinit rfl (G.glo 112 rfl) (G.exc0 113 rfl) (pa_cons (pv 0) (pa_cons pe_str pa_nil)))) (pss_one (ps_ost (pv 0) (pv 1)))
theorem ok_TakenId___init__ {P : Program} {w : World} {K : Frag} {mg : Str → Option Value} {base : Heap} (G : Good fa fn K mg) : FnOk P w K mg base (L2.CX P w) 1 (mA "TakenId" "__init__" K) (fdOf K (mA "TakenId" "__init__" K)) ["self", "row_id"] (spX K (gA "TakenId" K) (mA "TakenId" "__init__" K) "row_id") :=
  ok_exc (m := "id is taken") (G.def_ 4 rfl) sc_TakenId___init__ rfl (G.exc1 20 rfl) fun cdv A outer s0 H E hr => pss_cons (ps_expr (pe_oinit rfl (G.glo 112 rfl) (G.exc0 113 rfl) (pa_cons (pv 0) (pa_cons pe_str pa_nil)))) (pss_one (ps_ost (pv 0) (pv 1)))
theorem ok_TakenLine___init__ {P : Program} {w : World} {K : Frag} {mg : Str → Option Value} {base : Heap} (G : Good fa fn K mg) : FnOk P w K mg base (L2.CX P w) 1 (mA "TakenLine" "__init__" K) (fdOf K (mA "TakenLine" "__init__" K)) ["self", "row_id"] (spX K (gA "TakenLine" K) (mA "TakenLine" "__init__" K) "row_id") :=
  ok_exc (m := "line is confirmed") (G.def_ 5 rfl) sc_TakenLine___init__ rfl (G.exc1 40 rfl) fun cdv A outer s0 H E hr => pss_cons (ps_expr (pe_oinit rfl (G.glo 112 rfl) (G.exc0 113 rfl) (pa_cons (pv 0) (pa_cons pe_str pa_nil)))) (pss_one (ps_ost (pv 0) (pv 1)))

theorem ok_NothingToDo___init__ {P : Program} {w : World} {K : Frag} {mg : Str → Option Value} {base : Heap} (G : Good fa fn K mg) : FnOk P w K mg base (L2.CX P w) 1 (mA "NothingToDo" "__init__" K) (fdOf K (mA "NothingToDo" "__init__" K)) ["self", "action"] (spX K (gA "NothingToDo" K) (mA "NothingToDo" "__init__" K) "action") :=
  ok_exc (m := "nothing to do") (G.def_ 6 rfl) sc_NothingToDo___init__ rfl (G.exc1 45 rfl) fun cdv A outer s0 H E hr => pss_cons (ps_expr (pe_oinit rfl (G.glo 112 rfl) (G.exc0 113 rfl) (pa_cons (pv 0) (pa_cons pe_str pa_nil)))) (pss_one (ps_ost (pv 0) (pv 1)))
theorem ok_Unpaired___init__ {P : Program} {w : World} {K : Frag} {mg : Str → Option Value} {base : Heap} (G : Good fa fn K mg) : FnOk P w K mg base (L2.CX P w) 1 (mA "Unpaired" "__init__" K) (fdOf K (mA "Unpaired" "__init__" K)) ["self", "amount"] (spX K (gA "Unpaired" K) (mA "Unpaired" "__init__" K) "amount") :=
  ok_exc (m := "lines cannot be paired") (G.def_ 7 rfl) sc_Unpaired___init__ rfl (G.exc1 75 rfl) fun cdv A outer s0 H E hr => pss_cons (ps_expr (pe_oinit rfl (G.glo 112 rfl) (G.exc0 113 rfl) (pa_cons (pv 0) (pa_cons pe_str pa_nil)))) (pss_one (ps_ost (pv 0) (pv 1)))
/-! ### books -/
/-- b says whether a is a whole number -/
def IsInt (μ : Mem) (a : Dt) (b : Bool) : Prop := (∃ i, a = .int i ∧ b = true) ∨ (b = false ∧ ∃ t, TyD μ a t ∧ (t = "bool" ∨ kitB t "int" = some false))
theorem isInt (μ : Mem) (i : Int) : IsInt μ (.int i) true := .inl ⟨i, rfl, rfl⟩
def q_is_integer (a : Dt) : Post := fun μ W _ => ∃ b, IsInt μ a b ∧ W (.bl b) μ
abbrev sp_is_integer (_ : Frag) : DSp := sp1 q_is_integer
theorem ok_is_integer {P : Program} {w : World} {K : Frag} {mg : Str → Option Value} {base : Heap} (G : Good fa fn K mg) : FnOk P w K mg base (L2.CX P w) 1 (gA "is_integer" K) (fdOf K (gA "is_integer" K)) ["value"] (spD K (sp_is_integer K)) := by
  refine ok_defN 1 rfl rfl (G.def_ 8 rfl) sc_is_integer len1 fun cdv A outer s0 H E hr => ⟨_, (pss_one (ps_ret (pe_and (pe_callB (r := rIsi K) call_isi rfl (G.free 0 rfl) (by rfl) (pa_cons (pv 0) (pa_cons (pe_bltn (v := .ty "int") (u := .type "int") rfl (G.free 1 rfl) rfl rfl) pa_nil))) (pe_one (pe_not (pe_callB (r := rIsi K) call_isi rfl (G.free 0 rfl) (by rfl) (pa_cons (pv 0) (pa_cons (pe_bltn (v := .ty "bool") (u := .type "bool") rfl (G.free 2 rfl) rfl rfl) pa_nil)))))))), ?_⟩
  try dsimp only [cxOf]
  rintro ds μ W X ⟨a, rfl, b, hb, w⟩
  repeat ac_rfl
  rcases hb with ⟨i, rfl, rfl⟩ | ⟨rfl, t, ht, rfl | hk⟩
  · refine rw_isi (.int i) (b := true) (by decide +kernel) ⟨_, rfl, ?_⟩
    rw [if_pos rfl]
    repeat ac_rfl
    exact rw_isi (.int i) (b := false) (by decide +kernel) ⟨_, rfl, w⟩
  · refine rw_isi ht (b := true) (by decide +kernel) ⟨_, rfl, ?_⟩
    rw [if_pos rfl]
    repeat ac_rfl
    exact rw_isi ht (b := true) (by decide +kernel) ⟨_, rfl, w⟩
  · refine rw_isi ht hk ⟨_, rfl, ?_⟩
    rw [if_neg (by decide)]
    exact w
/-- low <= a <= high -/
def q_is_between (a lo hi : Dt) : Post := fun μ W _ => ∃ l h, lo = .int l ∧ hi = .int h ∧ ((∃ i, a = .int i ∧ W (.bl (decide (l ≤ i) && decide (i ≤ h))) μ) ∨ (IsInt μ a false ∧ W (.bl false) μ))
abbrev sp_is_between (_ : Frag) : DSp := sp3 q_is_between
theorem ok_is_between {P : Program} {w : World} {K : Frag} {mg : Str → Option Value} {base : Heap} (G : Good fa fn K mg) : FnOk P w K mg base (L2.CX P w) 2 (gA "is_between" K) (fdOf K (gA "is_between" K)) ["value", "low", "high"] (spD K (sp_is_between K)) := by
  have ok_is_integer : FnOk P w K mg base (L2.CX P w) 1 (gA "is_integer" K) (fdOf K (gA "is_integer" K)) ["value"] (spD K (sp_is_integer K)) := ok_is_integer G
  refine ok_defN 3 rfl rfl (G.def_ 9 rfl) sc_is_between len3 fun cdv A outer s0 H E hr => ⟨_, (pss_one (ps_ret (pe_and (pe_call ok_is_integer (hr.mono (by decide)) rfl (G.glo 3 rfl) (G.def_ 8 rfl).kp (b_is_integer G) .nil passL (pa_cons (pv 0) pa_nil)) (pe_one (pe_chain op_le op_le (pv 1) (pv 0) (pv 2)))))), ?_⟩
  try dsimp only [cxOf]
  rintro ds μ W X ⟨a, _, _, rfl, l, h, rfl, rfl, w⟩
  repeat ac_rfl
  rcases w with ⟨i, rfl, w⟩ | ⟨hb, w⟩
  · refine ⟨true, isInt _ _, true, rfl, ?_⟩
    repeat ac_rfl
    refine it2 (fun e => ?_) fun e => ?_
    · repeat ac_rfl
      rw [e] at w
      exact w
    · rw [e] at w
      exact w
  · refine ⟨false, hb, false, rfl, ?_⟩
    repeat ac_rfl
    exact w
def q_is_line (a : Dt) : Post := fun μ W _ => ∃ x y z, a = .tup [.int x, .int y, .int z] ∧ W (.bl (lineOk x y z)) μ
abbrev sp_is_line (_ : Frag) : DSp := sp1 q_is_line
theorem ok_is_line {P : Program} {w : World} {K : Frag} {mg : Str → Option Value} {base : Heap} (G : Good fa fn K mg) : FnOk P w K mg base (L2.CX P w) 3 (gA "is_line" K) (fdOf K (gA "is_line" K)) ["value"] (spD K (sp_is_line K)) := by
  have ok_is_between : FnOk P w K mg base (L2.CX P w) 2 (gA "is_between" K) (fdOf K (gA "is_between" K)) ["value", "low", "high"] (spD K (sp_is_between K)) := ok_is_between G
  obtain ⟨tk_GREATEST_ID, hk_GREATEST_ID⟩ := G.int 7 rfl
  obtain ⟨tk_LAST_DAY, hk_LAST_DAY⟩ := G.int 8 rfl
  obtain ⟨tk_GREATEST_AMOUNT, hk_GREATEST_AMOUNT⟩ := G.int 9 rfl
  refine ok_defN 4 rfl rfl (G.def_ 10 rfl) sc_is_line len1 fun cdv A outer s0 H E hr => ⟨_, (pss_cons (ps_if (PW.pt (pw_or (pt_not (pt_val (pe_callB (r := rIsi K) call_isi rfl (G.free 0 rfl) (by rfl) (pa_cons (pv 0) (pa_cons (pe_bltn (v := .ty "tuple") (u := .type "tuple") rfl (G.free 4 rfl) rfl rfl) pa_nil))))) (pw_or1 (pt_cmpR op_ne (pe_callB (r := Evl.rLenS K) cr_len rfl (G.free 5 rfl) (by rfl) (pa_cons (pv 0) pa_nil)) pe_int (nomark _))))) (pss_one (ps_ret pe_bl)) pss_nil) (pss_cons (ps_asg (pv 0) (pg_tup (n := 3) rfl (pgs_cons (pg_name (i := 1) sc_is_line.nd rfl (Or.inl rfl)) (pgs_cons (pg_name (i := 2) sc_is_line.nd rfl (Or.inl rfl)) (pgs_cons (pg_name (i := 3) sc_is_line.nd rfl (Or.inl rfl)) pgs_nil))))) (pss_cons (ps_if (PW.pt (pw_or (pt_not (pt_val (pe_call ok_is_between (hr.mono (by decide)) rfl (G.glo 6 rfl) (G.def_ 9 rfl).kp (b_is_between G) .nil passL (pa_cons (pv 1) (pa_cons pe_int (pa_cons (pe_glob (v := .int 1000000) rfl hk_GREATEST_ID ⟨_, rfl⟩) pa_nil)))))) (pw_or1 (pt_not (pt_val (pe_call ok_is_between (hr.mono (by decide)) rfl (G.glo 6 rfl) (G.def_ 9 rfl).kp (b_is_between G) .nil passL (pa_cons (pv 2) (pa_cons pe_int (pa_cons (pe_glob (v := .int 1000000) rfl hk_LAST_DAY ⟨_, rfl⟩) pa_nil))))))))) (pss_one (ps_ret pe_bl)) pss_nil) (pss_one (ps_ret (pe_and (pe_call ok_is_between (hr.mono (by decide)) rfl (G.glo 6 rfl) (G.def_ 9 rfl).kp (b_is_between G) .nil passL (pa_cons (pv 3) (pa_cons (pe_un un_neg (pe_glob (v := .int 1000000000000) rfl hk_GREATEST_AMOUNT ⟨_, rfl⟩)) (pa_cons (pe_glob (v := .int 1000000000000) rfl hk_GREATEST_AMOUNT ⟨_, rfl⟩) pa_nil)))) (pe_one (pe_cmpR op_ne (pv 3) pe_int (nomark _))))))))), ?_⟩
  try dsimp only [cxOf]
  rintro ds μ W X ⟨a, rfl, x, y, z, rfl, w⟩
  repeat ac_rfl
  refine rw_isi (.tup _) (b := true) (by decide +kernel) ?_
  repeat ac_rfl
  refine rw_len (.inr (.inl rfl)) ?_
  repeat ac_rfl
  refine ⟨_, _, rfl, rfl, .inl ⟨_, rfl, ?_⟩⟩
  repeat ac_rfl
  refine it2 (fun e => ?_) fun e => ?_
  · repeat ac_rfl
    have e' : lineOk x y z = false := by simp at e; simp [lineOk]; omega
    rw [e'] at w
    exact w
  · repeat ac_rfl
    refine ⟨_, _, rfl, rfl, .inl ⟨_, rfl, ?_⟩⟩
    repeat ac_rfl
    refine it2 (fun e2 => ?_) fun e2 => ?_
    · repeat ac_rfl
      have e' : lineOk x y z = false := by simp at e e2; simp [lineOk]; omega
      rw [e'] at w
      exact w
    · repeat ac_rfl
      refine ⟨_, _, rfl, rfl, .inl ⟨_, rfl, ?_⟩⟩
      repeat ac_rfl
      refine it2 (fun e3 => ?_) fun e3 => ?_
      · repeat ac_rfl
        have e' : lineOk x y z = !decide (z = 0) := by
          simp at e e2 e3
          have h1 : (1 ≤ x ∧ x ≤ 1000000) ∧ (0 ≤ y ∧ y ≤ 1000000) ∧ -1000000000000 ≤ z ∧ z ≤ 1000000000000 := by omega
          simp [lineOk, h1]
        rw [e'] at w
        exact w
      · have e' : lineOk x y z = false := by simp at e e2 e3; simp [lineOk]; omega
        rw [e'] at w
        exact w
def q_is_price (a : Dt) : Post := fun μ W _ => (∃ i, a = .int i ∧ W (.bl (decide (0 ≤ i) && decide (i ≤ 1000000000000))) μ) ∨ (IsInt μ a false ∧ W (.bl false) μ)
abbrev sp_is_price (_ : Frag) : DSp := sp1 q_is_price
theorem ok_is_price {P : Program} {w : World} {K : Frag} {mg : Str → Option Value} {base : Heap} (G : Good fa fn K mg) : FnOk P w K mg base (L2.CX P w) 3 (gA "is_price" K) (fdOf K (gA "is_price" K)) ["value"] (spD K (sp_is_price K)) := by
  have ok_is_between : FnOk P w K mg base (L2.CX P w) 2 (gA "is_between" K) (fdOf K (gA "is_between" K)) ["value", "low", "high"] (spD K (sp_is_between K)) := ok_is_between G
  obtain ⟨tk_GREATEST_PRICE, hk_GREATEST_PRICE⟩ := G.int 10 rfl
  refine ok_defN 1 rfl rfl (G.def_ 11 rfl) sc_is_price len1 fun cdv A outer s0 H E hr => ⟨_, (pss_one (ps_ret (pe_call ok_is_between (hr.mono (by decide)) rfl (G.glo 6 rfl) (G.def_ 9 rfl).kp (b_is_between G) .nil passL (pa_cons (pv 0) (pa_cons pe_int (pa_cons (pe_glob (v := .int 1000000000000) rfl hk_GREATEST_PRICE ⟨_, rfl⟩) pa_nil)))))), ?_⟩
  try dsimp only [cxOf]
  rintro ds μ W X ⟨a, rfl, w⟩
  repeat ac_rfl
  refine ⟨_, _, rfl, rfl, ?_⟩
  rcases w with ⟨i, rfl, w⟩ | ⟨hb, w⟩
  · exact .inl ⟨i, rfl, w⟩
  · exact .inr ⟨hb, w⟩



/-! ### comparison -/
def q_is_id_in (a l : Dt) : Post := fun μ W _ => ∃ rows : List (Int × List Dt), l = .lst (rows.map rowD) ∧ rows.length ≤ 1000000 ∧ ((∃ i, a = .int i ∧ W (.bl (decide (i ∈ rows.map (·.1)))) μ) ∨ (IsInt μ a false ∧ W (.bl false) μ))
abbrev sp_is_id_in (_ : Frag) : DSp := sp2 q_is_id_in
theorem ok_is_id_in {P : Program} {w : World} {K : Frag} {mg : Str → Option Value} {base : Heap} (G : Good fa fn K mg) : FnOk P w K mg base (L2.CX P w) 1 (gA "is_id_in" K) (fdOf K (gA "is_id_in" K)) ["value", "lines"] (spD K (sp_is_id_in K)) := by
  refine ok_defN 3 rfl rfl (G.def_ 12 rfl) sc_is_id_in len2 fun cdv A outer s0 H E hr => ⟨_, (pss_one (ps_ret (pe_and (pe_callB (r := rIsi K) call_isi rfl (G.free 0 rfl) (by rfl) (pa_cons (pv 0) (pa_cons (pe_bltn (v := .ty "int") (u := .type "int") rfl (G.free 1 rfl) rfl rfl) pa_nil))) (pe_and (pe_not (pe_callB (r := rIsi K) call_isi rfl (G.free 0 rfl) (by rfl) (pa_cons (pv 0) (pa_cons (pe_bltn (v := .ty "bool") (u := .type "bool") rfl (G.free 2 rfl) rfl rfl) pa_nil)))) (pe_one (pe_cmpR (r := rIn K false) op_in_seq (pv 0) (pe_lc (own := [("line", 2)]) (g := (gName 2)) (tt := tYes) rfl sc_is_id_in.nd (pi_listK K (pv 1)) (blkOk_by (N := N_is_id_in) (sc := defScope s_is_id_in) (by decide +kernel)) (fun _ _ _ _ _ => (pg_name (i := 2) sc_is_id_in.nd rfl (Or.inl rfl))) (fun _ _ _ _ _ => pts_nil) (fun _ _ _ _ _ => (pe_ix (r := rIxT K) ix_tup (pv 2) pe_int (fun _ _ => rfl)))) rfl)))))), ?_⟩
  try dsimp only [cxOf]
  rintro ds μ W X ⟨a, _, rfl, rows, rfl, hl, w⟩
  repeat ac_rfl
  rcases w with ⟨i, rfl, w⟩ | ⟨⟨i, _, h⟩ | ⟨_, t, ht, rfl | hk⟩, w⟩
  · refine rw_isi (.int i) (b := true) (by decide +kernel) ?_
    repeat ac_rfl
    refine rw_isi (.int i) (b := false) (by decide +kernel) ?_
    repeat ac_rfl
    refine wp_lc0 rowD (fun r => .int r.1) onto_name mono_name (wpi_list ?_)
    repeat ac_rfl
    refine ⟨rows, rfl, hl, fun r hr => ?_, ?_⟩
    · repeat ac_rfl
      exact rw_ixT atI_zero ⟨rfl, rfl⟩
    · have e : rows.map (fun r => Dt.int r.1) = (rows.map (·.1)).map Dt.int := by rw [List.map_map]; rfl
      exact rw_inI (neg := false) (.inl (e ▸ isl)) w
  · cases h
  · refine rw_isi ht (b := true) (by decide +kernel) ?_
    repeat ac_rfl
    refine rw_isi ht (b := true) (by decide +kernel) ?_
    repeat ac_rfl
    exact w
  · refine rw_isi ht hk ?_
    repeat ac_rfl
    exact w
def q_with_line (ls l : Dt) : Post := fun μ W _ => ∃ (xs : List Ln) (x : Ln), ls = .lst (xs.map lnD) ∧ l = lnD x ∧ xs.length ≤ 1000 ∧ W (.lst ((sortLn (xs ++ [x])).map lnD)) μ
abbrev sp_with_line (_ : Frag) : DSp := sp2 q_with_line
theorem ok_with_line {P : Program} {w : World} {K : Frag} {mg : Str → Option Value} {base : Heap} (G : Good fa fn K mg) : FnOk P w K mg base (L2.CX P w) 1 (gA "with_line" K) (fdOf K (gA "with_line" K)) ["lines", "line"] (spD K (sp_with_line K)) := by
  refine ok_defN 2 rfl rfl (G.def_ 13 rfl) sc_with_line len2 fun cdv A outer s0 H E hr => ⟨_, (pss_one (ps_ret (pe_callB (r := rSortD K) (cr_sortedD (hu64 hr)) rfl (G.free 11 rfl) (by rfl) (pa_cons (pe_lst (pa_starK K (pv 0) (pa_cons (pv 1) pa_nil))) pa_nil)))), ?_⟩
  try dsimp only [cxOf]
  rintro ds μ W X ⟨_, _, rfl, xs, x, rfl, rfl, hl, w⟩
  repeat ac_rfl
  refine ⟨_, .inl isl, ?_⟩
  repeat ac_rfl
  have e : xs.map lnD ++ [lnD x] = (xs ++ [x]).map lnD := by rw [List.map_append]; rfl
  rw [e]
  refine ⟨by rw [List.length_map, List.length_append, List.length_singleton]; omega, ?_⟩
  repeat ac_rfl
  refine rw_sorted isl (sorts_ln _ (by rw [List.length_append, List.length_singleton]; omega)) ?_
  rw [sortD_ln]
  exact w
def q_without_id (ls i : Dt) : Post := fun μ W _ => ∃ (xs : List Ln) (n : Int), ls = .lst (xs.map lnD) ∧ i = .int n ∧ xs.length ≤ 1000 ∧ W (.lst ((xs.filter fun l => decide (l.1 ≠ n)).map lnD)) μ
abbrev sp_without_id (_ : Frag) : DSp := sp2 q_without_id
theorem ok_without_id {P : Program} {w : World} {K : Frag} {mg : Str → Option Value} {base : Heap} (G : Good fa fn K mg) : FnOk P w K mg base (L2.CX P w) 1 (gA "without_id" K) (fdOf K (gA "without_id" K)) ["lines", "row_id"] (spD K (sp_without_id K)) := by
  refine ok_defN 3 rfl rfl (G.def_ 14 rfl) sc_without_id len2 fun cdv A outer s0 H E hr => ⟨_, (pss_one (ps_ret (pe_lc (own := [("line", 2)]) (g := (gName 2)) (tt := _) rfl sc_without_id.nd (pi_listK K (pv 0)) (blkOk_by (N := N_without_id) (sc := defScope s_without_id) (by decide +kernel)) (fun _ _ _ _ _ => (pg_name (i := 2) sc_without_id.nd rfl (Or.inl rfl))) (fun _ _ _ _ _ => (pts_one (pt_cmpR op_ne (pe_ix (r := rIxT K) ix_tup (pv 2) pe_int (fun _ _ => rfl)) (pv 1) (nomark _)))) (fun _ _ _ _ _ => (pv 2))))), ?_⟩
  try dsimp only [cxOf]
  rintro ds μ W X ⟨_, _, rfl, xs, n, rfl, rfl, hl, w⟩
  repeat ac_rfl
  refine wp_lcX lnD (fun l => decide (l.1 ≠ n)) lnD onto_name mono_name (wpi_list ?_)
  repeat ac_rfl
  refine ⟨xs, rfl, by omega, fun l hl => ?_, w⟩
  repeat ac_rfl
  refine rw_ixT (d := .int l.1) rfl ?_
  repeat ac_rfl
  refine it2 (fun e => ⟨by simpa using e, ?_⟩) fun e => ⟨by simpa using e, rfl⟩
  repeat ac_rfl
  exact ⟨rfl, rfl⟩
def q_State___init__ (K : Frag) (s m t c f : Dt) : Post := fun μ W _ => ∃ (a : Addr) (μ0 : Mem), s = .ref a ∧ μ = (a, .ins (gA "State" K) []) :: μ0 ∧ W .non ((a, .ins (gA "State" K) [("mine", m), ("theirs", t), ("cap", c), ("fixed", f)]) :: μ0)
abbrev sp_State___init__ (K : Frag) : DSp := sp5 (q_State___init__ K)
theorem ok_State___init__ {P : Program} {w : World} {K : Frag} {mg : Str → Option Value} {base : Heap} (G : Good fa fn K mg) : FnOk P w K mg base (L2.CX P w) 1 (mA "State" "__init__" K) (fdOf K (mA "State" "__init__" K)) ["self", "mine", "theirs", "cap", "fixed"] (spD K (sp_State___init__ K)) := by
  have c_State := G.cls 43 rfl
  have n_State_mine := G.noat 114 rfl
  have c_State := G.cls 43 rfl
  have n_State_theirs := G.noat 115 rfl
  have c_State := G.cls 43 rfl
  have n_State_cap := G.noat 116 rfl
  have c_State := G.cls 43 rfl
  have n_State_fixed := G.noat 117 rfl
  refine ok_defN 5 rfl rfl (G.def_ 15 rfl) sc_State___init__ len5 fun cdv A outer s0 H E hr => ⟨_, (pss_cons (ps_fld (pv 0) (pv 1) rfl) (pss_cons (ps_fld (pv 0) (pv 2) rfl) (pss_cons (ps_fld (pv 0) (pv 3) rfl) (pss_one (ps_fld (pv 0) (pv 4) rfl))))), ?_⟩
  try dsimp only [cxOf]
  rintro ds μ W X ⟨_, m, t, c, f, rfl, a, μ0, rfl, rfl, w⟩
  repeat ac_rfl
  exact w
def q_State_is_same (K : Frag) (x y : Dt) : Post := fun μ W _ => ∃ s t : Stt, x = stD K s ∧ y = stD K t ∧ W (.bl (decide (s = t))) μ
abbrev sp_State_is_same (K : Frag) : DSp := sp2 (q_State_is_same K)
theorem stt_eq (s t : Stt) : s = t ↔ s.own = t.own ∧ s.other = t.other ∧ s.cap = t.cap ∧ s.fixed = t.fixed := by
  cases s
  cases t
  simp
theorem ok_State_is_same {P : Program} {w : World} {K : Frag} {mg : Str → Option Value} {base : Heap} (G : Good fa fn K mg) : FnOk P w K mg base (L2.CX P w) 1 (mA "State" "is_same" K) (fdOf K (mA "State" "is_same" K)) ["self", "second"] (spD K (sp_State_is_same K)) := by
  have c_State := G.cls 43 rfl
  have n_State_mine := G.noat 114 rfl
  have c_State := G.cls 43 rfl
  have n_State_theirs := G.noat 115 rfl
  have c_State := G.cls 43 rfl
  have n_State_cap := G.noat 116 rfl
  have c_State := G.cls 43 rfl
  have n_State_fixed := G.noat 117 rfl
  refine ok_defN 2 rfl rfl (G.def_ 16 rfl) sc_State_is_same len2 fun cdv A outer s0 H E hr => ⟨_, (pss_cons (ps_if (PW.pt (pw_or (pt_cmpR (r := rNeD K) (op_neD (hu64 hr)) (pe_fldK K (pv 0)) (pe_fldK K (pv 1)) (nomark _)) (pw_or1 (pt_cmpR (r := rNeD K) (op_neD (hu64 hr)) (pe_fldK K (pv 0)) (pe_fldK K (pv 1)) (nomark _))))) (pss_one (ps_ret pe_bl)) pss_nil) (pss_one (ps_ret (pe_and (pe_cmpR op_eq (pe_fldK K (pv 0)) (pe_fldK K (pv 1)) (nomark _)) (pe_one (pe_cmpR (r := rEqD K) (op_eqD (hu64 hr)) (pe_fldK K (pv 0)) (pe_fldK K (pv 1)) (nomark _))))))), ?_⟩
  try dsimp only [cxOf]
  rintro ds μ W X ⟨_, _, rfl, s, t, rfl, rfl, w⟩
  repeat ac_rfl
  refine rw_ne_lns isl isl ?_
  repeat ac_rfl
  refine it2 (fun e => ?_) fun e => ?_
  · repeat ac_rfl
    have e' : decide (s = t) = false := by simp at e; simp [stt_eq]; intro h; exact absurd h e
    rw [e'] at w
    exact w
  · repeat ac_rfl
    refine rw_ne_lns isl isl ?_
    repeat ac_rfl
    refine it2 (fun e2 => ?_) fun e2 => ?_
    · repeat ac_rfl
      have e' : decide (s = t) = false := by simp at e2; simp [stt_eq]; intro _ h; exact absurd h e2
      rw [e'] at w
      exact w
    · repeat ac_rfl
      simp at e e2
      refine it2 (fun e3 => ?_) fun e3 => ?_
      · repeat ac_rfl
        refine rw_eq_prs isl isl ?_
        have e' : decide (s = t) = decide (s.fixed = t.fixed) := by
          simp at e3
          have h : s = t ↔ s.fixed = t.fixed := by rw [stt_eq]; simp [e, e2, e3]
          simp [h]
        rw [e'] at w
        exact w
      · have e' : decide (s = t) = false := by simp at e3; simp [stt_eq]; intro _ _ h; exact absurd h e3
        rw [e'] at w
        exact w


def q_Comparison___init__ (K : Frag) (s : Dt) : Post := fun μ W _ => ∃ (a : Addr) (μ0 : Mem), s = .ref a ∧ μ = (a, .ins (gA "Comparison" K) []) :: μ0 ∧ W .non ((a, cmpMo K [⟨[], [], 0, []⟩] 0) :: μ0)
abbrev sp_Comparison___init__ (K : Frag) : DSp := sp1 (q_Comparison___init__ K)
theorem ok_Comparison___init__ {P : Program} {w : World} {K : Frag} {mg : Str → Option Value} {base : Heap} (G : Good fa fn K mg) : FnOk P w K mg base (L2.CX P w) 3 (mA "Comparison" "__init__" K) (fdOf K (mA "Comparison" "__init__" K)) ["self"] (spD K (sp_Comparison___init__ K)) := by
  have ok_State___init__ : FnOk P w K mg base (L2.CX P w) 1 (mA "State" "__init__" K) (fdOf K (mA "State" "__init__" K)) ["self", "mine", "theirs", "cap", "fixed"] (spD K (sp_State___init__ K)) := ok_State___init__ G
  have c_Comparison := G.cls 27 rfl
  have n_Comparison_states := G.noat 118 rfl
  have c_Comparison := G.cls 27 rfl
  have n_Comparison_spot := G.noat 119 rfl
  refine ok_defN 1 rfl rfl (G.def_ 17 rfl) sc_Comparison___init__ len1 fun cdv A outer s0 H E hr => ⟨_, (pss_cons (ps_fld (pv 0) (pe_lst (pa_cons (pe_make (G.mkr 12 rfl) ok_State___init__ (hr.mono (by decide)) rfl (G.glo 13 rfl) (b_State___init__ G) .nil passL (pa_cons (pe_lst pa_nil) (pa_cons (pe_lst pa_nil) (pa_cons pe_int (pa_cons (pe_lst pa_nil) pa_nil))))) pa_nil)) rfl) (pss_one (ps_fld (pv 0) pe_int rfl))), ?_⟩
  try dsimp only [cxOf]
  rintro ds μ W X ⟨_, rfl, a, μ0, rfl, rfl, w⟩
  repeat ac_rfl
  refine wp_freezeI (wp_make ?_)
  repeat ac_rfl
  intro x hx
  repeat ac_rfl
  refine ⟨x, _, rfl, rfl, rfl, x, _, _, _, rfl, rfl, ?_⟩
  repeat ac_rfl
  exact w
def q_Comparison_made (K : Frag) (s os ts p fs : Dt) : Post := fun μ W _ => ∃ (xs ys : List Ln) (i : Int) (ps : List Pr), s = .ref (gA "Comparison" K) ∧ IsLst μ os (xs.map lnD) ∧ IsLst μ ts (ys.map lnD) ∧ p = .int i ∧ IsLst μ fs (ps.map prD) ∧ xs.length ≤ 1000 ∧ ys.length ≤ 1000 ∧ ps.length ≤ 1000 ∧ ∀ a, a ∉ dom μ → W (.ref a) ((a, cmpMo K [⟨sortLn xs, sortLn ys, i, sortPr ps⟩] 0) :: μ)
abbrev sp_Comparison_made (K : Frag) : DSp := sp5 (q_Comparison_made K)
theorem ok_Comparison_made {P : Program} {w : World} {K : Frag} {mg : Str → Option Value} {base : Heap} (G : Good fa fn K mg) : FnOk P w K mg base (L2.CX P w) 5 (cA "Comparison" "made" K) (fdOf K (cA "Comparison" "made" K)) ["cls", "own", "other", "price", "confirmed"] (spD K (sp_Comparison_made K)) := by
  have ok_Comparison___init__ : FnOk P w K mg base (L2.CX P w) 3 (mA "Comparison" "__init__" K) (fdOf K (mA "Comparison" "__init__" K)) ["self"] (spD K (sp_Comparison___init__ K)) := ok_Comparison___init__ G
  have ok_State___init__ : FnOk P w K mg base (L2.CX P w) 1 (mA "State" "__init__" K) (fdOf K (mA "State" "__init__" K)) ["self", "mine", "theirs", "cap", "fixed"] (spD K (sp_State___init__ K)) := ok_State___init__ G
  have c_Comparison := G.cls 27 rfl
  have n_Comparison_states := G.noat 118 rfl
  refine ok_defN 6 rfl rfl (G.def_ 18 rfl) sc_Comparison_made len5 fun cdv A outer s0 H E hr => ⟨_, (pss_cons (ps_set (i := 5) sc_Comparison_made.nd rfl (Or.inl rfl) (pe_makeV (pv 0) (G.mkr 14 rfl) ok_Comparison___init__ (hr.mono (by decide)) (b_Comparison___init__ G) passL)) (pss_cons (ps_fld (pv 5) (pe_lst (pa_cons (pe_make (G.mkr 12 rfl) ok_State___init__ (hr.mono (by decide)) rfl (G.glo 13 rfl) (b_State___init__ G) .nil passL (pa_cons (pe_callB (r := rSortD K) (cr_sortedD (hu64 hr)) rfl (G.free 11 rfl) (by rfl) (pa_cons (pv 1) pa_nil)) (pa_cons (pe_callB (r := rSortD K) (cr_sortedD (hu64 hr)) rfl (G.free 11 rfl) (by rfl) (pa_cons (pv 2) pa_nil)) (pa_cons (pv 3) (pa_cons (pe_callB (r := rSortD K) (cr_sortedD (hu64 hr)) rfl (G.free 11 rfl) (by rfl) (pa_cons (pv 4) pa_nil)) pa_nil))))) pa_nil)) rfl) (pss_one (ps_ret (pv 5))))), ?_⟩
  try dsimp only [cxOf]
  rintro ds μ W X ⟨_, os, ts, _, fs, rfl, xs, ys, i, ps, rfl, h1, h2, rfl, h3, l1, l2, l3, w⟩
  repeat ac_rfl
  refine wp_makeV ?_
  repeat ac_rfl
  refine ⟨rfl, fun x hx => ?_⟩
  repeat ac_rfl
  refine ⟨x, _, rfl, rfl, rfl, ?_⟩
  repeat ac_rfl
  refine wp_freezeI (wp_make ?_)
  repeat ac_rfl
  refine rw_sorted h1.push (sorts_ln _ (by omega)) ?_
  rw [sortD_ln]
  repeat ac_rfl
  refine rw_sorted h2.push (sorts_ln _ (by omega)) ?_
  rw [sortD_ln]
  repeat ac_rfl
  refine rw_sorted h3.push (sorts_pr _ (by omega)) ?_
  rw [sortD_pr]
  repeat ac_rfl
  intro y hy
  repeat ac_rfl
  refine ⟨y, _, rfl, rfl, rfl, y, _, _, _, rfl, rfl, ?_⟩
  repeat ac_rfl
  exact w x hx
def q_Comparison_now (K : Frag) (s : Dt) : Post := fun μ W _ => ∃ c a sts k t, s = .ref a ∧ CmpAt K μ c a sts k t ∧ W (stD K t) μ
abbrev sp_Comparison_now (K : Frag) : DSp := sp1 (q_Comparison_now K)
theorem ok_Comparison_now {P : Program} {w : World} {K : Frag} {mg : Str → Option Value} {base : Heap} (G : Good fa fn K mg) : FnOk P w K mg base (L2.CX P w) 1 (mA "Comparison" "now" K) (fdOf K (mA "Comparison" "now" K)) ["self"] (spD K (sp_Comparison_now K)) := by
  have c_Comparison := G.cls 27 rfl
  have n_Comparison_states := G.noat 118 rfl
  have c_Comparison := G.cls 27 rfl
  have n_Comparison_spot := G.noat 119 rfl
  refine ok_defN 1 rfl rfl (G.def_ 19 rfl) sc_Comparison_now len1 fun cdv A outer s0 H E hr => ⟨_, (pss_one (ps_ret (pe_ix (r := rIxL K) ix_list (pe_fldK K (pv 0)) (pe_fldK K (pv 0)) (fun _ _ => rfl)))), ?_⟩
  try dsimp only [cxOf]
  rintro ds μ W X ⟨_, rfl, c, a, sts, k, t, rfl, h, w⟩
  have hc := h.cell
  repeat ac_rfl
  exact rw_ixL (atI_map h.now) w
def q_Comparison_own (K : Frag) (s : Dt) : Post := fun μ W _ => ∃ c a sts k t, s = .ref a ∧ CmpAt K μ c a sts k t ∧ RetL W (t.own.map lnD) μ
abbrev sp_Comparison_own (K : Frag) : DSp := sp1 (q_Comparison_own K)
theorem ok_Comparison_own {P : Program} {w : World} {K : Frag} {mg : Str → Option Value} {base : Heap} (G : Good fa fn K mg) : FnOk P w K mg base (L2.CX P w) 1 (pA "Comparison" "own" K) (fdOf K (pA "Comparison" "own" K)) ["self"] (spD K (sp_Comparison_own K)) := by
  have c_Comparison := G.cls 27 rfl
  have n_Comparison_states := G.noat 118 rfl
  have c_Comparison := G.cls 27 rfl
  have n_Comparison_spot := G.noat 119 rfl
  have c_State := G.cls 43 rfl
  have n_State_mine := G.noat 114 rfl
  refine ok_defN 1 rfl rfl (G.def_ 20 rfl) sc_Comparison_own len1 fun cdv A outer s0 H E hr => ⟨_, (pss_one (ps_ret (pe_callTy (r := Evl.rListS K) cr_list rfl (G.free 15 rfl) (by rfl) (pa_cons (pe_fldK K (pe_ix (r := rIxL K) ix_list (pe_fldK K (pv 0)) (pe_fldK K (pv 0)) (fun _ _ => rfl))) pa_nil)))), ?_⟩
  try dsimp only [cxOf]
  rintro ds μ W X ⟨_, rfl, c, a, sts, k, t, rfl, h, w⟩
  have hc := h.cell
  repeat ac_rfl
  refine rw_ixL (atI_map h.now) ?_
  repeat ac_rfl
  exact rwL_list (.inl isl) w
def q_Comparison_other (K : Frag) (s : Dt) : Post := fun μ W _ => ∃ c a sts k t, s = .ref a ∧ CmpAt K μ c a sts k t ∧ RetL W (t.other.map lnD) μ
abbrev sp_Comparison_other (K : Frag) : DSp := sp1 (q_Comparison_other K)
theorem ok_Comparison_other {P : Program} {w : World} {K : Frag} {mg : Str → Option Value} {base : Heap} (G : Good fa fn K mg) : FnOk P w K mg base (L2.CX P w) 1 (pA "Comparison" "other" K) (fdOf K (pA "Comparison" "other" K)) ["self"] (spD K (sp_Comparison_other K)) := by
  have c_Comparison := G.cls 27 rfl
  have n_Comparison_states := G.noat 118 rfl
  have c_Comparison := G.cls 27 rfl
  have n_Comparison_spot := G.noat 119 rfl
  have c_State := G.cls 43 rfl
  have n_State_theirs := G.noat 115 rfl
  refine ok_defN 1 rfl rfl (G.def_ 21 rfl) sc_Comparison_other len1 fun cdv A outer s0 H E hr => ⟨_, (pss_one (ps_ret (pe_callTy (r := Evl.rListS K) cr_list rfl (G.free 15 rfl) (by rfl) (pa_cons (pe_fldK K (pe_ix (r := rIxL K) ix_list (pe_fldK K (pv 0)) (pe_fldK K (pv 0)) (fun _ _ => rfl))) pa_nil)))), ?_⟩
  try dsimp only [cxOf]
  rintro ds μ W X ⟨_, rfl, c, a, sts, k, t, rfl, h, w⟩
  have hc := h.cell
  repeat ac_rfl
  refine rw_ixL (atI_map h.now) ?_
  repeat ac_rfl
  exact rwL_list (.inl isl) w
def q_Comparison_price (K : Frag) (s : Dt) : Post := fun μ W _ => ∃ c a sts k t, s = .ref a ∧ CmpAt K μ c a sts k t ∧ W (.int t.cap) μ
abbrev sp_Comparison_price (K : Frag) : DSp := sp1 (q_Comparison_price K)
theorem ok_Comparison_price {P : Program} {w : World} {K : Frag} {mg : Str → Option Value} {base : Heap} (G : Good fa fn K mg) : FnOk P w K mg base (L2.CX P w) 1 (pA "Comparison" "price" K) (fdOf K (pA "Comparison" "price" K)) ["self"] (spD K (sp_Comparison_price K)) := by
  have c_Comparison := G.cls 27 rfl
  have n_Comparison_states := G.noat 118 rfl
  have c_Comparison := G.cls 27 rfl
  have n_Comparison_spot := G.noat 119 rfl
  have c_State := G.cls 43 rfl
  have n_State_cap := G.noat 116 rfl
  refine ok_defN 1 rfl rfl (G.def_ 22 rfl) sc_Comparison_price len1 fun cdv A outer s0 H E hr => ⟨_, (pss_one (ps_ret (pe_fldK K (pe_ix (r := rIxL K) ix_list (pe_fldK K (pv 0)) (pe_fldK K (pv 0)) (fun _ _ => rfl))))), ?_⟩
  try dsimp only [cxOf]
  rintro ds μ W X ⟨_, rfl, c, a, sts, k, t, rfl, h, w⟩
  have hc := h.cell
  repeat ac_rfl
  refine rw_ixL (atI_map h.now) ?_
  repeat ac_rfl
  exact w
def q_Comparison_confirmed (K : Frag) (s : Dt) : Post := fun μ W _ => ∃ c a sts k t, s = .ref a ∧ CmpAt K μ c a sts k t ∧ RetL W (t.fixed.map prD) μ
abbrev sp_Comparison_confirmed (K : Frag) : DSp := sp1 (q_Comparison_confirmed K)
theorem ok_Comparison_confirmed {P : Program} {w : World} {K : Frag} {mg : Str → Option Value} {base : Heap} (G : Good fa fn K mg) : FnOk P w K mg base (L2.CX P w) 1 (pA "Comparison" "confirmed" K) (fdOf K (pA "Comparison" "confirmed" K)) ["self"] (spD K (sp_Comparison_confirmed K)) := by
  have c_Comparison := G.cls 27 rfl
  have n_Comparison_states := G.noat 118 rfl
  have c_Comparison := G.cls 27 rfl
  have n_Comparison_spot := G.noat 119 rfl
  have c_State := G.cls 43 rfl
  have n_State_fixed := G.noat 117 rfl
  refine ok_defN 1 rfl rfl (G.def_ 23 rfl) sc_Comparison_confirmed len1 fun cdv A outer s0 H E hr => ⟨_, (pss_one (ps_ret (pe_callTy (r := Evl.rListS K) cr_list rfl (G.free 15 rfl) (by rfl) (pa_cons (pe_fldK K (pe_ix (r := rIxL K) ix_list (pe_fldK K (pv 0)) (pe_fldK K (pv 0)) (fun _ _ => rfl))) pa_nil)))), ?_⟩
  try dsimp only [cxOf]
  rintro ds μ W X ⟨_, rfl, c, a, sts, k, t, rfl, h, w⟩
  have hc := h.cell
  repeat ac_rfl
  refine rw_ixL (atI_map h.now) ?_
  repeat ac_rfl
  exact rwL_list (.inl isl) w


def q_Comparison_keep (K : Frag) (s m t p f : Dt) : Post := fun μ W _ => ∃ (c : Nat) (a : Addr) (sts : List Stt) (k : Nat) (n : Stt), s = .ref a ∧ μ[c]? = some (a, cmpMo K sts k) ∧ k < sts.length ∧ sts.length ≤ 100000 ∧ m = .lst (n.own.map lnD) ∧ t = .lst (n.other.map lnD) ∧ p = .int n.cap ∧ f = .lst (n.fixed.map prD) ∧ W .non (μ.set c (a, cmpMo K (keepS sts k n) (k + 1)))
abbrev sp_Comparison_keep (K : Frag) : DSp := sp5 (q_Comparison_keep K)
theorem ok_Comparison_keep {P : Program} {w : World} {K : Frag} {mg : Str → Option Value} {base : Heap} (G : Good fa fn K mg) : FnOk P w K mg base (L2.CX P w) 3 (mA "Comparison" "keep" K) (fdOf K (mA "Comparison" "keep" K)) ["self", "mine", "theirs", "cap", "fixed"] (spD K (sp_Comparison_keep K)) := by
  have ok_State___init__ : FnOk P w K mg base (L2.CX P w) 1 (mA "State" "__init__" K) (fdOf K (mA "State" "__init__" K)) ["self", "mine", "theirs", "cap", "fixed"] (spD K (sp_State___init__ K)) := ok_State___init__ G
  have c_Comparison := G.cls 27 rfl
  have n_Comparison_spot := G.noat 119 rfl
  have c_Comparison := G.cls 27 rfl
  have n_Comparison_states := G.noat 118 rfl
  refine ok_defN 5 rfl rfl (G.def_ 24 rfl) sc_Comparison_keep len5 fun cdv A outer s0 H E hr => ⟨_, (pss_cons (ps_fldaug (pv 0) pe_int in_add) (pss_one (ps_fld (pv 0) (pe_lst (pa_starK K (pe_slice (r := rSlL K) sl_list (pe_fldK K (pv 0)) po_none (po_some (pe_fldK K (pv 0)))) (pa_cons (pe_make (G.mkr 12 rfl) ok_State___init__ (hr.mono (by decide)) rfl (G.glo 13 rfl) (b_State___init__ G) .nil passL (pa_cons (pv 1) (pa_cons (pv 2) (pa_cons (pv 3) (pa_cons (pv 4) pa_nil))))) pa_nil))) rfl))), ?_⟩
  try dsimp only [cxOf]
  rintro ds μ W X ⟨_, _, _, _, _, rfl, c, a, sts, k, n, rfl, hc, hk, hf, rfl, rfl, rfl, rfl, w⟩
  repeat ac_rfl
  refine wps_fldaugI ?_
  repeat ac_rfl
  refine ⟨c, a, _, _, (k : Int), rfl, hc, c_Comparison, n_Comparison_spot, rfl, lt_of_ble rfl, ?_⟩
  repeat ac_rfl
  refine ⟨_, hc, lt_of_ble rfl, ?_⟩
  repeat ac_rfl
  refine wp_sl ?_
  repeat ac_rfl
  refine wpo_none (wpo_some ?_)
  repeat ac_rfl
  refine rw_slL (ds := sts.map (stD K)) isl ?_
  have e1 : cutD (sts.map (stD K)) none (some ((k : Int) + 1)) = (sts.take (k + 1)).map (stD K) := by
    rw [List.map_take, ← cut_take (by rw [List.length_map]; omega)]
    rfl
  rw [e1]
  refine ⟨_, .inl isl, ?_⟩
  repeat ac_rfl
  refine wp_freezeI (wp_make ?_)
  repeat ac_rfl
  intro x hx
  repeat ac_rfl
  refine ⟨x, _, rfl, rfl, rfl, x, _, _, _, rfl, rfl, ?_⟩
  repeat ac_rfl
  have e2 : (sts.take (k + 1)).map (stD K) ++ [stD K n] = (keepS sts k n).map (stD K) := by unfold keepS; rw [List.map_append]; rfl
  refine ⟨by show ((sts.take (k + 1)).map (stD K) ++ [stD K n]).length ≤ _; rw [e2, List.length_map, keepS, List.length_append, List.length_take]; simp; omega, ?_⟩
  repeat ac_rfl
  have w' : W .non (μ.set c (a, Mo.ins (gA "Comparison" K) [("states", .lst ((sts.take (k + 1)).map (stD K) ++ [stD K n])), ("spot", .int ((k : Int) + 1))])) := by
    rw [e2]
    exact w
  rw [List.set_set]
  exact w'
def q_Comparison_need_line (K : Frag) (s ls l : Dt) : Post := fun μ W X => ∃ (c : Nat) (a : Addr) (sts : List Stt) (k : Nat) (xs : List Ln) (x : Ln), s = .ref a ∧ μ[c]? = some (a, cmpMo K sts k) ∧ ls = .lst (xs.map lnD) ∧ l = lnD x ∧ xs.length ≤ 1000 ∧ Ends0 K μ W X (needLine xs x)
abbrev sp_Comparison_need_line (K : Frag) : DSp := sp3 (q_Comparison_need_line K)
theorem ok_Comparison_need_line {P : Program} {w : World} {K : Frag} {mg : Str → Option Value} {base : Heap} (G : Good fa fn K mg) : FnOk P w K mg base (L2.CX P w) 4 (mA "Comparison" "need_line" K) (fdOf K (mA "Comparison" "need_line" K)) ["self", "lines", "line"] (spD K (sp_Comparison_need_line K)) := by
  have ok_is_line : FnOk P w K mg base (L2.CX P w) 3 (gA "is_line" K) (fdOf K (gA "is_line" K)) ["value"] (spD K (sp_is_line K)) := ok_is_line G
  have ok_BadLine___init__ : FnOk P w K mg base (L2.CX P w) 1 (mA "BadLine" "__init__" K) (fdOf K (mA "BadLine" "__init__" K)) ["self", "value"] (spX K (gA "BadLine" K) (mA "BadLine" "__init__" K) "value") := ok_BadLine___init__ G
  have ok_is_id_in : FnOk P w K mg base (L2.CX P w) 1 (gA "is_id_in" K) (fdOf K (gA "is_id_in" K)) ["value", "lines"] (spD K (sp_is_id_in K)) := ok_is_id_in G
  have ok_TakenId___init__ : FnOk P w K mg base (L2.CX P w) 1 (mA "TakenId" "__init__" K) (fdOf K (mA "TakenId" "__init__" K)) ["self", "row_id"] (spX K (gA "TakenId" K) (mA "TakenId" "__init__" K) "row_id") := ok_TakenId___init__ G
  have ok_BadNumber___init__ : FnOk P w K mg base (L2.CX P w) 1 (mA "BadNumber" "__init__" K) (fdOf K (mA "BadNumber" "__init__" K)) ["self", "value"] (spX K (gA "BadNumber" K) (mA "BadNumber" "__init__" K) "value") := ok_BadNumber___init__ G
  refine ok_defN 3 rfl rfl (G.def_ 25 rfl) sc_Comparison_need_line len3 fun cdv A outer s0 H E hr => ⟨_, (pss_cons (ps_if (pt_not (pt_val (pe_call ok_is_line (hr.mono (by decide)) rfl (G.glo 16 rfl) (G.def_ 10 rfl).kp (b_is_line G) .nil passL (pa_cons (pv 2) pa_nil)))) (pss_one (L2.ps_raise rfl (takes_of rfl rfl rfl rfl) (pmk_oex (G.exc1 17 rfl).o (G.exc1 17 rfl).i (G.exc1 17 rfl).t ok_BadLine___init__ (hr.mono (by decide)) (b_BadLine___init__ G) .nil passL rfl (G.glo 18 rfl) (pa_cons (pv 2) pa_nil)))) pss_nil) (pss_cons (ps_if (pt_val (pe_call ok_is_id_in (hr.mono (by decide)) rfl (G.glo 19 rfl) (G.def_ 12 rfl).kp (b_is_id_in G) .nil passL (pa_cons (pe_ix (r := rIxT K) ix_tup (pv 2) pe_int (fun _ _ => rfl)) (pa_cons (pv 1) pa_nil)))) (pss_one (L2.ps_raise rfl (takes_of rfl rfl rfl rfl) (pmk_oex (G.exc1 20 rfl).o (G.exc1 20 rfl).i (G.exc1 20 rfl).t ok_TakenId___init__ (hr.mono (by decide)) (b_TakenId___init__ G) .nil passL rfl (G.glo 21 rfl) (pa_cons (pe_ix (r := rIxT K) ix_tup (pv 2) pe_int (fun _ _ => rfl)) pa_nil)))) pss_nil) (pss_one (ps_if (pt_cmpR op_eq (pe_callB (r := Evl.rLenS K) cr_len rfl (G.free 5 rfl) (by rfl) (pa_cons (pv 1) pa_nil)) (pe_conK K (pv 0)) (nomark _)) (pss_one (L2.ps_raise rfl (takes_of rfl rfl rfl rfl) (pmk_oex (G.exc1 23 rfl).o (G.exc1 23 rfl).i (G.exc1 23 rfl).t ok_BadNumber___init__ (hr.mono (by decide)) (b_BadNumber___init__ G) .nil passL rfl (G.glo 24 rfl) (pa_cons (pe_op op_add (pe_callB (r := Evl.rLenS K) cr_len rfl (G.free 5 rfl) (by rfl) (pa_cons (pv 1) pa_nil)) pe_int) pa_nil)))) pss_nil)))), ?_⟩
  try dsimp only [cxOf]
  rintro ds μ W X ⟨_, _, _, rfl, c, a, sts, k, xs, x, rfl, hc, rfl, rfl, hl, w⟩
  unfold needLine at w
  repeat ac_rfl
  refine ⟨_, _, _, rfl, ?_⟩
  repeat ac_rfl
  refine it2 (fun e => ?_) fun e => ?_
  · have e' : lineOk x.1 x.2.1 x.2.2 = false := by simpa using e
    rw [if_pos e'] at w
    refine wps_raiseO (fun _ _ _ _ h => h) ?_
    repeat ac_rfl
    exact ⟨_, rfl, w⟩
  · have e' : ¬ lineOk x.1 x.2.1 x.2.2 = false := by simpa using e
    rw [if_neg e'] at w
    repeat ac_rfl
    refine rw_ixT (d := .int x.1) rfl ?_
    repeat ac_rfl
    rw [rows_ln]
    refine ⟨_, rfl, by rw [List.length_map]; omega, .inl ⟨_, rfl, ?_⟩⟩
    repeat ac_rfl
    have ei : (xs.map fun l => (l.1, [Dt.int l.2.1, Dt.int l.2.2])).map (·.1) = ids xs := by rw [List.map_map]; rfl
    rw [ei]
    refine it2 (fun e2 => ?_) fun e2 => ?_
    · rw [if_pos (by simpa using e2)] at w
      refine wps_raiseO (fun _ _ _ _ h => h) ?_
      repeat ac_rfl
      refine rw_ixT (d := .int x.1) rfl ?_
      repeat ac_rfl
      exact ⟨_, rfl, w⟩
    · rw [if_neg (by simpa using e2)] at w
      repeat ac_rfl
      rw [← rows_ln]
      obtain ⟨tl, cn⟩ := (G.con 22 rfl)
      refine rw_len (.inl isl) ?_
      refine wp_tcon (dv := .int 60) (fun _ => .int _) cn ?_
      repeat ac_rfl
      refine ⟨c, a, _, rfl, hc, (G.cls 27 rfl), rfl, ?_⟩
      repeat ac_rfl
      rw [List.length_map]
      refine it2 (fun e3 => ?_) fun e3 => ?_
      · have e3' : xs.length = 60 := by simp at e3; omega
        rw [if_pos e3'] at w
        refine wps_raiseO (fun _ _ _ _ h => h) ?_
        repeat ac_rfl
        refine rw_len (.inl isl) ?_
        repeat ac_rfl
        refine ⟨_, rfl, ?_⟩
        rw [List.length_map, e3']
        exact w
      · rw [if_neg (by simp at e3; omega)] at w
        repeat ac_rfl
        exact w
def q_Comparison_need_known (K : Frag) (s ls i : Dt) : Post := fun μ W X => ∃ (rows : List (Int × List Dt)) (n : Int), ls = .lst (rows.map rowD) ∧ i = .int n ∧ rows.length ≤ 1000 ∧ Ends0 K μ W X (needKnown (rows.map (·.1)) n)
abbrev sp_Comparison_need_known (K : Frag) : DSp := sp3 (q_Comparison_need_known K)
theorem ok_Comparison_need_known {P : Program} {w : World} {K : Frag} {mg : Str → Option Value} {base : Heap} (G : Good fa fn K mg) : FnOk P w K mg base (L2.CX P w) 3 (mA "Comparison" "need_known" K) (fdOf K (mA "Comparison" "need_known" K)) ["self", "lines", "row_id"] (spD K (sp_Comparison_need_known K)) := by
  have ok_is_id_in : FnOk P w K mg base (L2.CX P w) 1 (gA "is_id_in" K) (fdOf K (gA "is_id_in" K)) ["value", "lines"] (spD K (sp_is_id_in K)) := ok_is_id_in G
  have ok_UnknownLine___init__ : FnOk P w K mg base (L2.CX P w) 1 (mA "UnknownLine" "__init__" K) (fdOf K (mA "UnknownLine" "__init__" K)) ["self", "row_id"] (spX K (gA "UnknownLine" K) (mA "UnknownLine" "__init__" K) "row_id") := ok_UnknownLine___init__ G
  refine ok_defN 3 rfl rfl (G.def_ 26 rfl) sc_Comparison_need_known len3 fun cdv A outer s0 H E hr => ⟨_, (pss_one (ps_if (pt_not (pt_val (pe_call ok_is_id_in (hr.mono (by decide)) rfl (G.glo 19 rfl) (G.def_ 12 rfl).kp (b_is_id_in G) .nil passL (pa_cons (pv 2) (pa_cons (pv 1) pa_nil))))) (pss_one (L2.ps_raise rfl (takes_of rfl rfl rfl rfl) (pmk_oex (G.exc1 25 rfl).o (G.exc1 25 rfl).i (G.exc1 25 rfl).t ok_UnknownLine___init__ (hr.mono (by decide)) (b_UnknownLine___init__ G) .nil passL rfl (G.glo 26 rfl) (pa_cons (pv 2) pa_nil)))) pss_nil)), ?_⟩
  try dsimp only [cxOf]
  rintro ds μ W X ⟨s, _, _, rfl, rows, n, rfl, rfl, hl, w⟩
  unfold needKnown at w
  repeat ac_rfl
  refine ⟨_, rfl, by omega, .inl ⟨_, rfl, ?_⟩⟩
  repeat ac_rfl
  refine it2 (fun e => ?_) fun e => ?_
  · rw [if_neg (by simpa using e)] at w
    refine wps_raiseO (fun _ _ _ _ h => h) ?_
    repeat ac_rfl
    exact ⟨_, rfl, w⟩
  · rw [if_pos (by simpa using e)] at w
    repeat ac_rfl
    exact w


def q_Comparison_add_own (K : Frag) (s x y z : Dt) : Post := fun μ W X => ∃ c a sts k t i j l, s = .ref a ∧ CmpAt K μ c a sts k t ∧ x = .int i ∧ y = .int j ∧ z = .int l ∧ EndsS K μ c a sts k W X (addOwn t (i, j, l))
abbrev sp_Comparison_add_own (K : Frag) : DSp := sp4 (q_Comparison_add_own K)
theorem ok_Comparison_add_own {P : Program} {w : World} {K : Frag} {mg : Str → Option Value} {base : Heap} (G : Good fa fn K mg) : FnOk P w K mg base (L2.CX P w) 5 (mA "Comparison" "add_own" K) (fdOf K (mA "Comparison" "add_own" K)) ["self", "row_id", "day", "amount"] (spD K (sp_Comparison_add_own K)) := by
  have ok_Comparison_need_line : FnOk P w K mg base (L2.CX P w) 4 (mA "Comparison" "need_line" K) (fdOf K (mA "Comparison" "need_line" K)) ["self", "lines", "line"] (spD K (sp_Comparison_need_line K)) := ok_Comparison_need_line G
  have ok_Comparison_own : FnOk P w K mg base (L2.CX P w) 1 (pA "Comparison" "own" K) (fdOf K (pA "Comparison" "own" K)) ["self"] (spD K (sp_Comparison_own K)) := ok_Comparison_own G
  have ok_Comparison_now : FnOk P w K mg base (L2.CX P w) 1 (mA "Comparison" "now" K) (fdOf K (mA "Comparison" "now" K)) ["self"] (spD K (sp_Comparison_now K)) := ok_Comparison_now G
  have ok_Comparison_keep : FnOk P w K mg base (L2.CX P w) 3 (mA "Comparison" "keep" K) (fdOf K (mA "Comparison" "keep" K)) ["self", "mine", "theirs", "cap", "fixed"] (spD K (sp_Comparison_keep K)) := ok_Comparison_keep G
  have ok_with_line : FnOk P w K mg base (L2.CX P w) 1 (gA "with_line" K) (fdOf K (gA "with_line" K)) ["lines", "line"] (spD K (sp_with_line K)) := ok_with_line G
  have c_State := G.cls 43 rfl
  have n_State_fixed := G.noat 117 rfl
  have c_State := G.cls 43 rfl
  have n_State_cap := G.noat 116 rfl
  have c_State := G.cls 43 rfl
  have n_State_theirs := G.noat 115 rfl
  have c_State := G.cls 43 rfl
  have n_State_mine := G.noat 114 rfl
  refine ok_defN 6 rfl rfl (G.def_ 27 rfl) sc_Comparison_add_own len4 fun cdv A outer s0 H E hr => ⟨_, (pss_cons (ps_set (i := 4) sc_Comparison_add_own.nd rfl (Or.inl rfl) (pe_tup (pa_cons (pv 1) (pa_cons (pv 2) (pa_cons (pv 3) pa_nil))))) (pss_cons (ps_expr (pe_meth (pv 0) (G.cls 27 rfl) (G.meth 28 rfl) ok_Comparison_need_line (hr.mono (by decide)) (b_Comparison_need_line G) .nil (passX rfl rfl rfl rfl) (pa_cons (pe_prop (pv 0) (G.cls 27 rfl) (G.prop 29 rfl) ok_Comparison_own (hr.mono (by decide)) (b_Comparison_own G) .nil passL rfl) (pa_cons (pv 4) pa_nil)))) (pss_cons (ps_set (i := 5) sc_Comparison_add_own.nd rfl (Or.inl rfl) (pe_meth0 (pv 0) (G.cls 27 rfl) (G.meth 30 rfl) ok_Comparison_now (hr.mono (by decide)) (b_Comparison_now G) .nil passL)) (pss_one (ps_expr (pe_meth (pv 0) (G.cls 27 rfl) (G.meth 31 rfl) ok_Comparison_keep (hr.mono (by decide)) (b_Comparison_keep G) .nil passL (pa_cons (pe_call ok_with_line (hr.mono (by decide)) rfl (G.glo 32 rfl) (G.def_ 13 rfl).kp (b_with_line G) .nil passL (pa_cons (pe_fldK K (pv 5)) (pa_cons (pv 4) pa_nil))) (pa_cons (pe_fldK K (pv 5)) (pa_cons (pe_fldK K (pv 5)) (pa_cons (pe_fldK K (pv 5)) pa_nil)))))))))), ?_⟩
  try dsimp only [cxOf]
  rintro ds μ W X ⟨_, _, _, _, rfl, c, a, sts, k, t, i, j, l, rfl, h, rfl, rfl, rfl, w⟩
  have hc := h.cell
  have hn := h.now
  have hk := (List.getElem?_eq_some_iff.mp hn).1
  unfold addOwn at w
  repeat ac_rfl
  refine ⟨c, a, sts, k, t, rfl, h, .inl ?_⟩
  repeat ac_rfl
  refine ⟨c, a, sts, k, t.own, (i, j, l), rfl, hc, rfl, rfl, h.own, ?_⟩
  cases e : needLine t.own (i, j, l) with
  | some er => rw [e] at w; exact w
  | none =>
    rw [e] at w
    unfold Ends0
    repeat ac_rfl
    refine ⟨c, a, sts, k, t, rfl, h, ?_⟩
    repeat ac_rfl
    refine ⟨t.own, (i, j, l), rfl, rfl, h.own, ?_⟩
    repeat ac_rfl
    exact ⟨c, a, sts, k, { t with own := sortLn (t.own ++ [(i, j, l)]) }, rfl, hc, hk, h.few, rfl, rfl, rfl, rfl, w⟩
def q_Comparison_add_other (K : Frag) (s x y z : Dt) : Post := fun μ W X => ∃ c a sts k t i j l, s = .ref a ∧ CmpAt K μ c a sts k t ∧ x = .int i ∧ y = .int j ∧ z = .int l ∧ EndsS K μ c a sts k W X (addOther t (i, j, l))
abbrev sp_Comparison_add_other (K : Frag) : DSp := sp4 (q_Comparison_add_other K)
theorem ok_Comparison_add_other {P : Program} {w : World} {K : Frag} {mg : Str → Option Value} {base : Heap} (G : Good fa fn K mg) : FnOk P w K mg base (L2.CX P w) 5 (mA "Comparison" "add_other" K) (fdOf K (mA "Comparison" "add_other" K)) ["self", "row_id", "day", "amount"] (spD K (sp_Comparison_add_other K)) := by
  have ok_Comparison_need_line : FnOk P w K mg base (L2.CX P w) 4 (mA "Comparison" "need_line" K) (fdOf K (mA "Comparison" "need_line" K)) ["self", "lines", "line"] (spD K (sp_Comparison_need_line K)) := ok_Comparison_need_line G
  have ok_Comparison_other : FnOk P w K mg base (L2.CX P w) 1 (pA "Comparison" "other" K) (fdOf K (pA "Comparison" "other" K)) ["self"] (spD K (sp_Comparison_other K)) := ok_Comparison_other G
  have ok_Comparison_now : FnOk P w K mg base (L2.CX P w) 1 (mA "Comparison" "now" K) (fdOf K (mA "Comparison" "now" K)) ["self"] (spD K (sp_Comparison_now K)) := ok_Comparison_now G
  have ok_Comparison_keep : FnOk P w K mg base (L2.CX P w) 3 (mA "Comparison" "keep" K) (fdOf K (mA "Comparison" "keep" K)) ["self", "mine", "theirs", "cap", "fixed"] (spD K (sp_Comparison_keep K)) := ok_Comparison_keep G
  have ok_with_line : FnOk P w K mg base (L2.CX P w) 1 (gA "with_line" K) (fdOf K (gA "with_line" K)) ["lines", "line"] (spD K (sp_with_line K)) := ok_with_line G
  have c_State := G.cls 43 rfl
  have n_State_fixed := G.noat 117 rfl
  have c_State := G.cls 43 rfl
  have n_State_cap := G.noat 116 rfl
  have c_State := G.cls 43 rfl
  have n_State_theirs := G.noat 115 rfl
  have c_State := G.cls 43 rfl
  have n_State_mine := G.noat 114 rfl
  refine ok_defN 6 rfl rfl (G.def_ 28 rfl) sc_Comparison_add_other len4 fun cdv A outer s0 H E hr => ⟨_, (pss_cons (ps_set (i := 4) sc_Comparison_add_other.nd rfl (Or.inl rfl) (pe_tup (pa_cons (pv 1) (pa_cons (pv 2) (pa_cons (pv 3) pa_nil))))) (pss_cons (ps_expr (pe_meth (pv 0) (G.cls 27 rfl) (G.meth 28 rfl) ok_Comparison_need_line (hr.mono (by decide)) (b_Comparison_need_line G) .nil (passX rfl rfl rfl rfl) (pa_cons (pe_prop (pv 0) (G.cls 27 rfl) (G.prop 33 rfl) ok_Comparison_other (hr.mono (by decide)) (b_Comparison_other G) .nil passL rfl) (pa_cons (pv 4) pa_nil)))) (pss_cons (ps_set (i := 5) sc_Comparison_add_other.nd rfl (Or.inl rfl) (pe_meth0 (pv 0) (G.cls 27 rfl) (G.meth 30 rfl) ok_Comparison_now (hr.mono (by decide)) (b_Comparison_now G) .nil passL)) (pss_one (ps_expr (pe_meth (pv 0) (G.cls 27 rfl) (G.meth 31 rfl) ok_Comparison_keep (hr.mono (by decide)) (b_Comparison_keep G) .nil passL (pa_cons (pe_fldK K (pv 5)) (pa_cons (pe_call ok_with_line (hr.mono (by decide)) rfl (G.glo 32 rfl) (G.def_ 13 rfl).kp (b_with_line G) .nil passL (pa_cons (pe_fldK K (pv 5)) (pa_cons (pv 4) pa_nil))) (pa_cons (pe_fldK K (pv 5)) (pa_cons (pe_fldK K (pv 5)) pa_nil)))))))))), ?_⟩
  try dsimp only [cxOf]
  rintro ds μ W X ⟨_, _, _, _, rfl, c, a, sts, k, t, i, j, l, rfl, h, rfl, rfl, rfl, w⟩
  have hc := h.cell
  have hn := h.now
  have hk := (List.getElem?_eq_some_iff.mp hn).1
  unfold addOther at w
  repeat ac_rfl
  refine ⟨c, a, sts, k, t, rfl, h, .inl ?_⟩
  repeat ac_rfl
  refine ⟨c, a, sts, k, t.other, (i, j, l), rfl, hc, rfl, rfl, h.other, ?_⟩
  cases e : needLine t.other (i, j, l) with
  | some er => rw [e] at w; exact w
  | none =>
    rw [e] at w
    unfold Ends0
    repeat ac_rfl
    refine ⟨c, a, sts, k, t, rfl, h, ?_⟩
    repeat ac_rfl
    refine ⟨t.other, (i, j, l), rfl, rfl, h.other, ?_⟩
    repeat ac_rfl
    exact ⟨c, a, sts, k, { t with other := sortLn (t.other ++ [(i, j, l)]) }, rfl, hc, hk, h.few, rfl, rfl, rfl, rfl, w⟩


def q_Comparison_drop_own (K : Frag) (s x : Dt) : Post := fun μ W X => ∃ c a sts k t i, s = .ref a ∧ CmpAt K μ c a sts k t ∧ x = .int i ∧ EndsS K μ c a sts k W X (dropOwn t i)
abbrev sp_Comparison_drop_own (K : Frag) : DSp := sp2 (q_Comparison_drop_own K)
theorem ok_Comparison_drop_own {P : Program} {w : World} {K : Frag} {mg : Str → Option Value} {base : Heap} (G : Good fa fn K mg) : FnOk P w K mg base (L2.CX P w) 4 (mA "Comparison" "drop_own" K) (fdOf K (mA "Comparison" "drop_own" K)) ["self", "row_id"] (spD K (sp_Comparison_drop_own K)) := by
  have ok_Comparison_need_known : FnOk P w K mg base (L2.CX P w) 3 (mA "Comparison" "need_known" K) (fdOf K (mA "Comparison" "need_known" K)) ["self", "lines", "row_id"] (spD K (sp_Comparison_need_known K)) := ok_Comparison_need_known G
  have ok_Comparison_own : FnOk P w K mg base (L2.CX P w) 1 (pA "Comparison" "own" K) (fdOf K (pA "Comparison" "own" K)) ["self"] (spD K (sp_Comparison_own K)) := ok_Comparison_own G
  have ok_Comparison_now : FnOk P w K mg base (L2.CX P w) 1 (mA "Comparison" "now" K) (fdOf K (mA "Comparison" "now" K)) ["self"] (spD K (sp_Comparison_now K)) := ok_Comparison_now G
  have ok_Comparison_keep : FnOk P w K mg base (L2.CX P w) 3 (mA "Comparison" "keep" K) (fdOf K (mA "Comparison" "keep" K)) ["self", "mine", "theirs", "cap", "fixed"] (spD K (sp_Comparison_keep K)) := ok_Comparison_keep G
  have ok_without_id : FnOk P w K mg base (L2.CX P w) 1 (gA "without_id" K) (fdOf K (gA "without_id" K)) ["lines", "row_id"] (spD K (sp_without_id K)) := ok_without_id G
  have c_State := G.cls 43 rfl
  have n_State_fixed := G.noat 117 rfl
  have c_State := G.cls 43 rfl
  have n_State_cap := G.noat 116 rfl
  have c_State := G.cls 43 rfl
  have n_State_theirs := G.noat 115 rfl
  have c_State := G.cls 43 rfl
  have n_State_mine := G.noat 114 rfl
  refine ok_defN 5 rfl rfl (G.def_ 29 rfl) sc_Comparison_drop_own len2 fun cdv A outer s0 H E hr => ⟨_, (pss_cons (ps_expr (pe_meth (pv 0) (G.cls 27 rfl) (G.meth 34 rfl) ok_Comparison_need_known (hr.mono (by decide)) (b_Comparison_need_known G) .nil (passX rfl rfl rfl rfl) (pa_cons (pe_prop (pv 0) (G.cls 27 rfl) (G.prop 29 rfl) ok_Comparison_own (hr.mono (by decide)) (b_Comparison_own G) .nil passL rfl) (pa_cons (pv 1) pa_nil)))) (pss_cons (ps_set (i := 2) sc_Comparison_drop_own.nd rfl (Or.inl rfl) (pe_meth0 (pv 0) (G.cls 27 rfl) (G.meth 30 rfl) ok_Comparison_now (hr.mono (by decide)) (b_Comparison_now G) .nil passL)) (pss_cons (ps_setLc (i := 3) (own := [("pair", 4)]) (g := (gName 4)) (tt := _) rfl sc_Comparison_drop_own.nd rfl rfl (sw_true rfl rfl rfl (by decide +kernel)) (pi_listK K (pe_fldK K (pv 2))) (blkOk_by (N := N_Comparison_drop_own) (sc := defScope s_Comparison_drop_own) (by decide +kernel)) (fun _ _ _ _ _ => (pg_name (i := 4) sc_Comparison_drop_own.nd rfl (Or.inl rfl))) (fun _ _ _ _ _ => (pts_one (pt_cmpR op_ne (pe_ix (r := rIxT K) ix_tup (pv 4) pe_int (fun _ _ => rfl)) (pv 1) (nomark _)))) (fun _ _ _ _ _ => (pv 4))) (pss_one (ps_expr (pe_meth (pv 0) (G.cls 27 rfl) (G.meth 31 rfl) ok_Comparison_keep (hr.mono (by decide)) (b_Comparison_keep G) .nil passL (pa_cons (pe_call ok_without_id (hr.mono (by decide)) rfl (G.glo 35 rfl) (G.def_ 14 rfl).kp (b_without_id G) .nil passL (pa_cons (pe_fldK K (pv 2)) (pa_cons (pv 1) pa_nil))) (pa_cons (pe_fldK K (pv 2)) (pa_cons (pe_fldK K (pv 2)) (pa_cons (pv 3) pa_nil)))))))))), ?_⟩
  try dsimp only [cxOf]
  rintro ds μ W X ⟨_, _, rfl, c, a, sts, k, t, i, rfl, h, rfl, w⟩
  have hc := h.cell
  have hn := h.now
  have hk := (List.getElem?_eq_some_iff.mp hn).1
  unfold dropOwn at w
  repeat ac_rfl
  refine ⟨c, a, sts, k, t, rfl, h, .inl ?_⟩
  repeat ac_rfl
  refine ⟨_, i, congrArg Dt.lst (rows_ln t.own), rfl, by rw [List.length_map]; exact h.own, ?_⟩
  have ei : (t.own.map fun l => (l.1, [Dt.int l.2.1, Dt.int l.2.2])).map (·.1) = ids t.own := by rw [List.map_map]; rfl
  rw [ei]
  cases e : needKnown (ids t.own) i with
  | some er => rw [e] at w; exact w
  | none =>
    rw [e] at w
    unfold Ends0
    repeat ac_rfl
    refine ⟨c, a, sts, k, t, rfl, h, ?_⟩
    repeat ac_rfl
    refine wp_lcX prD (fun l => decide (l.1 ≠ i)) prD onto_name mono_name (wpi_list ?_)
    repeat ac_rfl
    refine ⟨t.fixed, rfl, by have := h.fixed; omega, fun l hl => ?_, ?_⟩
    · repeat ac_rfl
      refine rw_ixT (d := .int l.1) rfl ?_
      repeat ac_rfl
      refine it2 (fun e => ⟨by simpa using e, ?_⟩) fun e => ⟨by simpa using e, rfl⟩
      repeat ac_rfl
      exact ⟨rfl, rfl⟩
    repeat ac_rfl
    refine ⟨t.own, i, rfl, rfl, h.own, ?_⟩
    repeat ac_rfl
    exact ⟨c, a, sts, k, { t with own := t.own.filter fun l => decide (l.1 ≠ i), fixed := t.fixed.filter fun p => decide (p.1 ≠ i) }, rfl, hc, hk, h.few, rfl, rfl, rfl, rfl, w⟩
def q_Comparison_drop_other (K : Frag) (s x : Dt) : Post := fun μ W X => ∃ c a sts k t i, s = .ref a ∧ CmpAt K μ c a sts k t ∧ x = .int i ∧ EndsS K μ c a sts k W X (dropOther t i)
abbrev sp_Comparison_drop_other (K : Frag) : DSp := sp2 (q_Comparison_drop_other K)
theorem ok_Comparison_drop_other {P : Program} {w : World} {K : Frag} {mg : Str → Option Value} {base : Heap} (G : Good fa fn K mg) : FnOk P w K mg base (L2.CX P w) 4 (mA "Comparison" "drop_other" K) (fdOf K (mA "Comparison" "drop_other" K)) ["self", "row_id"] (spD K (sp_Comparison_drop_other K)) := by
  have ok_Comparison_need_known : FnOk P w K mg base (L2.CX P w) 3 (mA "Comparison" "need_known" K) (fdOf K (mA "Comparison" "need_known" K)) ["self", "lines", "row_id"] (spD K (sp_Comparison_need_known K)) := ok_Comparison_need_known G
  have ok_Comparison_other : FnOk P w K mg base (L2.CX P w) 1 (pA "Comparison" "other" K) (fdOf K (pA "Comparison" "other" K)) ["self"] (spD K (sp_Comparison_other K)) := ok_Comparison_other G
  have ok_Comparison_now : FnOk P w K mg base (L2.CX P w) 1 (mA "Comparison" "now" K) (fdOf K (mA "Comparison" "now" K)) ["self"] (spD K (sp_Comparison_now K)) := ok_Comparison_now G
  have ok_Comparison_keep : FnOk P w K mg base (L2.CX P w) 3 (mA "Comparison" "keep" K) (fdOf K (mA "Comparison" "keep" K)) ["self", "mine", "theirs", "cap", "fixed"] (spD K (sp_Comparison_keep K)) := ok_Comparison_keep G
  have ok_without_id : FnOk P w K mg base (L2.CX P w) 1 (gA "without_id" K) (fdOf K (gA "without_id" K)) ["lines", "row_id"] (spD K (sp_without_id K)) := ok_without_id G
  have c_State := G.cls 43 rfl
  have n_State_fixed := G.noat 117 rfl
  have c_State := G.cls 43 rfl
  have n_State_cap := G.noat 116 rfl
  have c_State := G.cls 43 rfl
  have n_State_theirs := G.noat 115 rfl
  have c_State := G.cls 43 rfl
  have n_State_mine := G.noat 114 rfl
  refine ok_defN 5 rfl rfl (G.def_ 30 rfl) sc_Comparison_drop_other len2 fun cdv A outer s0 H E hr => ⟨_, (pss_cons (ps_expr (pe_meth (pv 0) (G.cls 27 rfl) (G.meth 34 rfl) ok_Comparison_need_known (hr.mono (by decide)) (b_Comparison_need_known G) .nil (passX rfl rfl rfl rfl) (pa_cons (pe_prop (pv 0) (G.cls 27 rfl) (G.prop 33 rfl) ok_Comparison_other (hr.mono (by decide)) (b_Comparison_other G) .nil passL rfl) (pa_cons (pv 1) pa_nil)))) (pss_cons (ps_set (i := 2) sc_Comparison_drop_other.nd rfl (Or.inl rfl) (pe_meth0 (pv 0) (G.cls 27 rfl) (G.meth 30 rfl) ok_Comparison_now (hr.mono (by decide)) (b_Comparison_now G) .nil passL)) (pss_cons (ps_setLc (i := 3) (own := [("pair", 4)]) (g := (gName 4)) (tt := _) rfl sc_Comparison_drop_other.nd rfl rfl (sw_true rfl rfl rfl (by decide +kernel)) (pi_listK K (pe_fldK K (pv 2))) (blkOk_by (N := N_Comparison_drop_other) (sc := defScope s_Comparison_drop_other) (by decide +kernel)) (fun _ _ _ _ _ => (pg_name (i := 4) sc_Comparison_drop_other.nd rfl (Or.inl rfl))) (fun _ _ _ _ _ => (pts_one (pt_cmpR op_ne (pe_ix (r := rIxT K) ix_tup (pv 4) pe_int (fun _ _ => rfl)) (pv 1) (nomark _)))) (fun _ _ _ _ _ => (pv 4))) (pss_one (ps_expr (pe_meth (pv 0) (G.cls 27 rfl) (G.meth 31 rfl) ok_Comparison_keep (hr.mono (by decide)) (b_Comparison_keep G) .nil passL (pa_cons (pe_fldK K (pv 2)) (pa_cons (pe_call ok_without_id (hr.mono (by decide)) rfl (G.glo 35 rfl) (G.def_ 14 rfl).kp (b_without_id G) .nil passL (pa_cons (pe_fldK K (pv 2)) (pa_cons (pv 1) pa_nil))) (pa_cons (pe_fldK K (pv 2)) (pa_cons (pv 3) pa_nil)))))))))), ?_⟩
  try dsimp only [cxOf]
  rintro ds μ W X ⟨_, _, rfl, c, a, sts, k, t, i, rfl, h, rfl, w⟩
  have hc := h.cell
  have hn := h.now
  have hk := (List.getElem?_eq_some_iff.mp hn).1
  unfold dropOther at w
  repeat ac_rfl
  refine ⟨c, a, sts, k, t, rfl, h, .inl ?_⟩
  repeat ac_rfl
  refine ⟨_, i, congrArg Dt.lst (rows_ln t.other), rfl, by rw [List.length_map]; exact h.other, ?_⟩
  have ei : (t.other.map fun l => (l.1, [Dt.int l.2.1, Dt.int l.2.2])).map (·.1) = ids t.other := by rw [List.map_map]; rfl
  rw [ei]
  cases e : needKnown (ids t.other) i with
  | some er => rw [e] at w; exact w
  | none =>
    rw [e] at w
    unfold Ends0
    repeat ac_rfl
    refine ⟨c, a, sts, k, t, rfl, h, ?_⟩
    repeat ac_rfl
    refine wp_lcX prD (fun l => decide (l.2 ≠ i)) prD onto_name mono_name (wpi_list ?_)
    repeat ac_rfl
    refine ⟨t.fixed, rfl, by have := h.fixed; omega, fun l hl => ?_, ?_⟩
    · repeat ac_rfl
      refine rw_ixT (d := .int l.2) rfl ?_
      repeat ac_rfl
      refine it2 (fun e => ⟨by simpa using e, ?_⟩) fun e => ⟨by simpa using e, rfl⟩
      repeat ac_rfl
      exact ⟨rfl, rfl⟩
    repeat ac_rfl
    refine ⟨t.other, i, rfl, rfl, h.other, ?_⟩
    repeat ac_rfl
    exact ⟨c, a, sts, k, { t with other := t.other.filter fun l => decide (l.1 ≠ i), fixed := t.fixed.filter fun p => decide (p.2 ≠ i) }, rfl, hc, hk, h.few, rfl, rfl, rfl, rfl, w⟩
def q_Comparison_set_price (K : Frag) (s x : Dt) : Post := fun μ W X => ∃ c a sts k t i, s = .ref a ∧ CmpAt K μ c a sts k t ∧ x = .int i ∧ EndsS K μ c a sts k W X (setPrice t i)
abbrev sp_Comparison_set_price (K : Frag) : DSp := sp2 (q_Comparison_set_price K)
theorem ok_Comparison_set_price {P : Program} {w : World} {K : Frag} {mg : Str → Option Value} {base : Heap} (G : Good fa fn K mg) : FnOk P w K mg base (L2.CX P w) 4 (mA "Comparison" "set_price" K) (fdOf K (mA "Comparison" "set_price" K)) ["self", "price"] (spD K (sp_Comparison_set_price K)) := by
  have ok_is_price : FnOk P w K mg base (L2.CX P w) 3 (gA "is_price" K) (fdOf K (gA "is_price" K)) ["value"] (spD K (sp_is_price K)) := ok_is_price G
  have ok_BadPrice___init__ : FnOk P w K mg base (L2.CX P w) 1 (mA "BadPrice" "__init__" K) (fdOf K (mA "BadPrice" "__init__" K)) ["self", "value"] (spX K (gA "BadPrice" K) (mA "BadPrice" "__init__" K) "value") := ok_BadPrice___init__ G
  have ok_Comparison_now : FnOk P w K mg base (L2.CX P w) 1 (mA "Comparison" "now" K) (fdOf K (mA "Comparison" "now" K)) ["self"] (spD K (sp_Comparison_now K)) := ok_Comparison_now G
  have ok_Comparison_keep : FnOk P w K mg base (L2.CX P w) 3 (mA "Comparison" "keep" K) (fdOf K (mA "Comparison" "keep" K)) ["self", "mine", "theirs", "cap", "fixed"] (spD K (sp_Comparison_keep K)) := ok_Comparison_keep G
  have c_State := G.cls 43 rfl
  have n_State_fixed := G.noat 117 rfl
  have c_State := G.cls 43 rfl
  have n_State_theirs := G.noat 115 rfl
  have c_State := G.cls 43 rfl
  have n_State_mine := G.noat 114 rfl
  refine ok_defN 3 rfl rfl (G.def_ 31 rfl) sc_Comparison_set_price len2 fun cdv A outer s0 H E hr => ⟨_, (pss_cons (ps_if (pt_not (pt_val (pe_call ok_is_price (hr.mono (by decide)) rfl (G.glo 36 rfl) (G.def_ 11 rfl).kp (b_is_price G) .nil passL (pa_cons (pv 1) pa_nil)))) (pss_one (L2.ps_raise rfl (takes_of rfl rfl rfl rfl) (pmk_oex (G.exc1 37 rfl).o (G.exc1 37 rfl).i (G.exc1 37 rfl).t ok_BadPrice___init__ (hr.mono (by decide)) (b_BadPrice___init__ G) .nil passL rfl (G.glo 38 rfl) (pa_cons (pv 1) pa_nil)))) pss_nil) (pss_cons (ps_set (i := 2) sc_Comparison_set_price.nd rfl (Or.inl rfl) (pe_meth0 (pv 0) (G.cls 27 rfl) (G.meth 30 rfl) ok_Comparison_now (hr.mono (by decide)) (b_Comparison_now G) .nil passL)) (pss_one (ps_expr (pe_meth (pv 0) (G.cls 27 rfl) (G.meth 31 rfl) ok_Comparison_keep (hr.mono (by decide)) (b_Comparison_keep G) .nil passL (pa_cons (pe_fldK K (pv 2)) (pa_cons (pe_fldK K (pv 2)) (pa_cons (pv 1) (pa_cons (pe_fldK K (pv 2)) pa_nil))))))))), ?_⟩
  try dsimp only [cxOf]
  rintro ds μ W X ⟨_, _, rfl, c, a, sts, k, t, i, rfl, h, rfl, w⟩
  have hc := h.cell
  have hn := h.now
  have hk := (List.getElem?_eq_some_iff.mp hn).1
  unfold setPrice at w
  repeat ac_rfl
  refine .inl ⟨i, rfl, ?_⟩
  repeat ac_rfl
  refine it2 (fun e => ?_) fun e => ?_
  · rw [if_neg (show ¬ priceOk i = true by simp at e; simp [priceOk]; omega)] at w
    refine wps_raiseO (fun _ _ _ _ h => h) ?_
    repeat ac_rfl
    exact ⟨_, rfl, w⟩
  · rw [if_pos (show priceOk i = true by simp at e; simp [priceOk]; omega)] at w
    repeat ac_rfl
    refine ⟨c, a, sts, k, t, rfl, h, ?_⟩
    repeat ac_rfl
    exact ⟨c, a, sts, k, { t with cap := i }, rfl, hc, hk, h.few, rfl, rfl, rfl, rfl, w⟩


def q_Comparison_open_again (K : Frag) (s x : Dt) : Post := fun μ W X => ∃ c a sts k t i, s = .ref a ∧ CmpAt K μ c a sts k t ∧ x = .int i ∧ EndsS K μ c a sts k W X (openAgain t i)
abbrev sp_Comparison_open_again (K : Frag) : DSp := sp2 (q_Comparison_open_again K)
theorem ok_Comparison_open_again {P : Program} {w : World} {K : Frag} {mg : Str → Option Value} {base : Heap} (G : Good fa fn K mg) : FnOk P w K mg base (L2.CX P w) 4 (mA "Comparison" "open_again" K) (fdOf K (mA "Comparison" "open_again" K)) ["self", "own_id"] (spD K (sp_Comparison_open_again K)) := by
  have ok_Comparison_need_known : FnOk P w K mg base (L2.CX P w) 3 (mA "Comparison" "need_known" K) (fdOf K (mA "Comparison" "need_known" K)) ["self", "lines", "row_id"] (spD K (sp_Comparison_need_known K)) := ok_Comparison_need_known G
  have ok_Comparison_confirmed : FnOk P w K mg base (L2.CX P w) 1 (pA "Comparison" "confirmed" K) (fdOf K (pA "Comparison" "confirmed" K)) ["self"] (spD K (sp_Comparison_confirmed K)) := ok_Comparison_confirmed G
  have ok_Comparison_now : FnOk P w K mg base (L2.CX P w) 1 (mA "Comparison" "now" K) (fdOf K (mA "Comparison" "now" K)) ["self"] (spD K (sp_Comparison_now K)) := ok_Comparison_now G
  have ok_Comparison_keep : FnOk P w K mg base (L2.CX P w) 3 (mA "Comparison" "keep" K) (fdOf K (mA "Comparison" "keep" K)) ["self", "mine", "theirs", "cap", "fixed"] (spD K (sp_Comparison_keep K)) := ok_Comparison_keep G
  have c_State := G.cls 43 rfl
  have n_State_fixed := G.noat 117 rfl
  have c_State := G.cls 43 rfl
  have n_State_cap := G.noat 116 rfl
  have c_State := G.cls 43 rfl
  have n_State_theirs := G.noat 115 rfl
  have c_State := G.cls 43 rfl
  have n_State_mine := G.noat 114 rfl
  refine ok_defN 4 rfl rfl (G.def_ 32 rfl) sc_Comparison_open_again len2 fun cdv A outer s0 H E hr => ⟨_, (pss_cons (ps_expr (pe_meth (pv 0) (G.cls 27 rfl) (G.meth 34 rfl) ok_Comparison_need_known (hr.mono (by decide)) (b_Comparison_need_known G) .nil (passX rfl rfl rfl rfl) (pa_cons (pe_prop (pv 0) (G.cls 27 rfl) (G.prop 39 rfl) ok_Comparison_confirmed (hr.mono (by decide)) (b_Comparison_confirmed G) .nil passL rfl) (pa_cons (pv 1) pa_nil)))) (pss_cons (ps_set (i := 2) sc_Comparison_open_again.nd rfl (Or.inl rfl) (pe_meth0 (pv 0) (G.cls 27 rfl) (G.meth 30 rfl) ok_Comparison_now (hr.mono (by decide)) (b_Comparison_now G) .nil passL)) (pss_one (ps_expr (pe_meth (pv 0) (G.cls 27 rfl) (G.meth 31 rfl) ok_Comparison_keep (hr.mono (by decide)) (b_Comparison_keep G) .nil passL (pa_cons (pe_fldK K (pv 2)) (pa_cons (pe_fldK K (pv 2)) (pa_cons (pe_fldK K (pv 2)) (pa_cons (pe_lc (own := [("pair", 3)]) (g := (gName 3)) (tt := _) rfl sc_Comparison_open_again.nd (pi_listK K (pe_fldK K (pv 2))) (blkOk_by (N := N_Comparison_open_again) (sc := defScope s_Comparison_open_again) (by decide +kernel)) (fun _ _ _ _ _ => (pg_name (i := 3) sc_Comparison_open_again.nd rfl (Or.inl rfl))) (fun _ _ _ _ _ => (pts_one (pt_cmpR op_ne (pe_ix (r := rIxT K) ix_tup (pv 3) pe_int (fun _ _ => rfl)) (pv 1) (nomark _)))) (fun _ _ _ _ _ => (pv 3))) pa_nil))))))))), ?_⟩
  try dsimp only [cxOf]
  rintro ds μ W X ⟨_, _, rfl, c, a, sts, k, t, i, rfl, h, rfl, w⟩
  have hc := h.cell
  have hn := h.now
  have hk := (List.getElem?_eq_some_iff.mp hn).1
  unfold openAgain at w
  repeat ac_rfl
  refine ⟨c, a, sts, k, t, rfl, h, .inl ?_⟩
  repeat ac_rfl
  refine ⟨_, i, congrArg Dt.lst (rows_pr t.fixed), rfl, by rw [List.length_map]; exact h.fixed, ?_⟩
  have ei : (t.fixed.map fun l => (l.1, [Dt.int l.2])).map (·.1) = t.fixed.map (·.1) := by rw [List.map_map]; rfl
  rw [ei]
  cases e : needKnown (t.fixed.map (·.1)) i with
  | some er => rw [e] at w; exact w
  | none =>
    rw [e] at w
    unfold Ends0
    repeat ac_rfl
    refine ⟨c, a, sts, k, t, rfl, h, ?_⟩
    repeat ac_rfl
    refine wp_lcX prD (fun l => decide (l.1 ≠ i)) prD onto_name mono_name (wpi_list ?_)
    repeat ac_rfl
    refine ⟨t.fixed, rfl, by have := h.fixed; omega, fun l hl => ?_, ?_⟩
    · repeat ac_rfl
      refine rw_ixT (d := .int l.1) rfl ?_
      repeat ac_rfl
      refine it2 (fun e => ⟨by simpa using e, ?_⟩) fun e => ⟨by simpa using e, rfl⟩
      repeat ac_rfl
      exact ⟨rfl, rfl⟩
    repeat ac_rfl
    exact ⟨c, a, sts, k, { t with fixed := t.fixed.filter fun p => decide (p.1 ≠ i) }, rfl, hc, hk, h.few, rfl, rfl, rfl, rfl, w⟩
def q_Comparison_confirm (K : Frag) (s x y : Dt) : Post := fun μ W X => ∃ c a sts k t i j, s = .ref a ∧ CmpAt K μ c a sts k t ∧ x = .int i ∧ y = .int j ∧ EndsS K μ c a sts k W X (confirmS t i j)
abbrev sp_Comparison_confirm (K : Frag) : DSp := sp3 (q_Comparison_confirm K)
theorem ok_Comparison_confirm {P : Program} {w : World} {K : Frag} {mg : Str → Option Value} {base : Heap} (G : Good fa fn K mg) : FnOk P w K mg base (L2.CX P w) 4 (mA "Comparison" "confirm" K) (fdOf K (mA "Comparison" "confirm" K)) ["self", "own_id", "other_id"] (spD K (sp_Comparison_confirm K)) := by
  have ok_Comparison_need_known : FnOk P w K mg base (L2.CX P w) 3 (mA "Comparison" "need_known" K) (fdOf K (mA "Comparison" "need_known" K)) ["self", "lines", "row_id"] (spD K (sp_Comparison_need_known K)) := ok_Comparison_need_known G
  have ok_Comparison_own : FnOk P w K mg base (L2.CX P w) 1 (pA "Comparison" "own" K) (fdOf K (pA "Comparison" "own" K)) ["self"] (spD K (sp_Comparison_own K)) := ok_Comparison_own G
  have ok_Comparison_other : FnOk P w K mg base (L2.CX P w) 1 (pA "Comparison" "other" K) (fdOf K (pA "Comparison" "other" K)) ["self"] (spD K (sp_Comparison_other K)) := ok_Comparison_other G
  have ok_Comparison_now : FnOk P w K mg base (L2.CX P w) 1 (mA "Comparison" "now" K) (fdOf K (mA "Comparison" "now" K)) ["self"] (spD K (sp_Comparison_now K)) := ok_Comparison_now G
  have ok_TakenLine___init__ : FnOk P w K mg base (L2.CX P w) 1 (mA "TakenLine" "__init__" K) (fdOf K (mA "TakenLine" "__init__" K)) ["self", "row_id"] (spX K (gA "TakenLine" K) (mA "TakenLine" "__init__" K) "row_id") := ok_TakenLine___init__ G
  have ok_Comparison_keep : FnOk P w K mg base (L2.CX P w) 3 (mA "Comparison" "keep" K) (fdOf K (mA "Comparison" "keep" K)) ["self", "mine", "theirs", "cap", "fixed"] (spD K (sp_Comparison_keep K)) := ok_Comparison_keep G
  have c_State := G.cls 43 rfl
  have n_State_fixed := G.noat 117 rfl
  have c_State := G.cls 43 rfl
  have n_State_cap := G.noat 116 rfl
  have c_State := G.cls 43 rfl
  have n_State_theirs := G.noat 115 rfl
  have c_State := G.cls 43 rfl
  have n_State_mine := G.noat 114 rfl
  refine ok_defN 5 rfl rfl (G.def_ 33 rfl) sc_Comparison_confirm len3 fun cdv A outer s0 H E hr => ⟨_, (pss_cons (ps_expr (pe_meth (pv 0) (G.cls 27 rfl) (G.meth 34 rfl) ok_Comparison_need_known (hr.mono (by decide)) (b_Comparison_need_known G) .nil (passX rfl rfl rfl rfl) (pa_cons (pe_prop (pv 0) (G.cls 27 rfl) (G.prop 29 rfl) ok_Comparison_own (hr.mono (by decide)) (b_Comparison_own G) .nil passL rfl) (pa_cons (pv 1) pa_nil)))) (pss_cons (ps_expr (pe_meth (pv 0) (G.cls 27 rfl) (G.meth 34 rfl) ok_Comparison_need_known (hr.mono (by decide)) (b_Comparison_need_known G) .nil (passX rfl rfl rfl rfl) (pa_cons (pe_prop (pv 0) (G.cls 27 rfl) (G.prop 33 rfl) ok_Comparison_other (hr.mono (by decide)) (b_Comparison_other G) .nil passL rfl) (pa_cons (pv 2) pa_nil)))) (pss_cons (ps_set (i := 3) sc_Comparison_confirm.nd rfl (Or.inl rfl) (pe_meth0 (pv 0) (G.cls 27 rfl) (G.meth 30 rfl) ok_Comparison_now (hr.mono (by decide)) (b_Comparison_now G) .nil passL)) (pss_cons (ps_if (pt_cmpR (r := rIn K false) op_in_seq (pv 1) (pe_lc (own := [("pair", 4)]) (g := (gName 4)) (tt := tYes) rfl sc_Comparison_confirm.nd (pi_listK K (pe_fldK K (pv 3))) (blkOk_by (N := N_Comparison_confirm) (sc := defScope s_Comparison_confirm) (by decide +kernel)) (fun _ _ _ _ _ => (pg_name (i := 4) sc_Comparison_confirm.nd rfl (Or.inl rfl))) (fun _ _ _ _ _ => pts_nil) (fun _ _ _ _ _ => (pe_ix (r := rIxT K) ix_tup (pv 4) pe_int (fun _ _ => rfl)))) rfl) (pss_one (L2.ps_raise rfl (takes_of rfl rfl rfl rfl) (pmk_oex (G.exc1 40 rfl).o (G.exc1 40 rfl).i (G.exc1 40 rfl).t ok_TakenLine___init__ (hr.mono (by decide)) (b_TakenLine___init__ G) .nil passL rfl (G.glo 41 rfl) (pa_cons (pv 1) pa_nil)))) pss_nil) (pss_cons (ps_if (pt_cmpR (r := rIn K false) op_in_seq (pv 2) (pe_lc (own := [("pair", 4)]) (g := (gName 4)) (tt := tYes) rfl sc_Comparison_confirm.nd (pi_listK K (pe_fldK K (pv 3))) (blkOk_by (N := N_Comparison_confirm) (sc := defScope s_Comparison_confirm) (by decide +kernel)) (fun _ _ _ _ _ => (pg_name (i := 4) sc_Comparison_confirm.nd rfl (Or.inl rfl))) (fun _ _ _ _ _ => pts_nil) (fun _ _ _ _ _ => (pe_ix (r := rIxT K) ix_tup (pv 4) pe_int (fun _ _ => rfl)))) rfl) (pss_one (L2.ps_raise rfl (takes_of rfl rfl rfl rfl) (pmk_oex (G.exc1 40 rfl).o (G.exc1 40 rfl).i (G.exc1 40 rfl).t ok_TakenLine___init__ (hr.mono (by decide)) (b_TakenLine___init__ G) .nil passL rfl (G.glo 41 rfl) (pa_cons (pv 2) pa_nil)))) pss_nil) (pss_one (ps_expr (pe_meth (pv 0) (G.cls 27 rfl) (G.meth 31 rfl) ok_Comparison_keep (hr.mono (by decide)) (b_Comparison_keep G) .nil passL (pa_cons (pe_fldK K (pv 3)) (pa_cons (pe_fldK K (pv 3)) (pa_cons (pe_fldK K (pv 3)) (pa_cons (pe_callB (r := rSortD K) (cr_sortedD (hu64 hr)) rfl (G.free 11 rfl) (by rfl) (pa_cons (pe_lst (pa_starK K (pe_fldK K (pv 3)) (pa_cons (pe_tup (pa_cons (pv 1) (pa_cons (pv 2) pa_nil))) pa_nil))) pa_nil)) pa_nil)))))))))))), ?_⟩
  try dsimp only [cxOf]
  rintro ds μ W X ⟨_, _, _, rfl, c, a, sts, k, t, i, j, rfl, h, rfl, rfl, w⟩
  have hc := h.cell
  have hn := h.now
  have hk := (List.getElem?_eq_some_iff.mp hn).1
  unfold confirmS at w
  repeat ac_rfl
  refine ⟨c, a, sts, k, t, rfl, h, .inl ?_⟩
  repeat ac_rfl
  refine ⟨_, i, congrArg Dt.lst (rows_ln t.own), rfl, by rw [List.length_map]; exact h.own, ?_⟩
  have ei : (t.own.map fun l => (l.1, [Dt.int l.2.1, Dt.int l.2.2])).map (·.1) = ids t.own := by rw [List.map_map]; rfl
  rw [ei]
  cases e : needKnown (ids t.own) i with
  | some er => rw [e] at w; exact w
  | none =>
    rw [e] at w
    unfold Ends0
    repeat ac_rfl
    refine ⟨c, a, sts, k, t, rfl, h, .inl ?_⟩
    repeat ac_rfl
    refine ⟨_, j, congrArg Dt.lst (rows_ln t.other), rfl, by rw [List.length_map]; exact h.other, ?_⟩
    have ej : (t.other.map fun l => (l.1, [Dt.int l.2.1, Dt.int l.2.2])).map (·.1) = ids t.other := by rw [List.map_map]; rfl
    rw [ej]
    cases e : needKnown (ids t.other) j with
    | some er => simp only [e] at w; exact w
    | none =>
      simp only [e] at w
      unfold Ends0
      repeat ac_rfl
      refine ⟨c, a, sts, k, t, rfl, h, ?_⟩
      repeat ac_rfl
      refine wp_lc0 prD (fun r => .int r.1) onto_name mono_name (wpi_list ?_)
      repeat ac_rfl
      refine ⟨t.fixed, rfl, by have := h.fixed; omega, fun l hl => ?_, ?_⟩
      · repeat ac_rfl
        exact rw_ixT (d := .int l.1) rfl ⟨rfl, rfl⟩
      have e1 : t.fixed.map (fun r => Dt.int r.1) = (t.fixed.map (·.1)).map Dt.int := by rw [List.map_map]; rfl
      rw [e1]
      refine rw_inI (neg := false) (.inl isl) ?_
      repeat ac_rfl
      refine it2 (fun e => ?_) fun e => ?_
      · rw [if_pos (by simpa using e)] at w
        refine wps_raiseO (fun _ _ _ _ h => h) ?_
        repeat ac_rfl
        exact ⟨_, rfl, w⟩
      rw [if_neg (by simpa using e)] at w
      repeat ac_rfl
      refine wp_lc0 prD (fun r => .int r.2) onto_name mono_name (wpi_list ?_)
      repeat ac_rfl
      refine ⟨t.fixed, rfl, by have := h.fixed; omega, fun l hl => ?_, ?_⟩
      · repeat ac_rfl
        exact rw_ixT (d := .int l.2) rfl ⟨rfl, rfl⟩
      have e2 : t.fixed.map (fun r => Dt.int r.2) = (t.fixed.map (·.2)).map Dt.int := by rw [List.map_map]; rfl
      rw [e2]
      refine rw_inI (neg := false) (.inl isl) ?_
      repeat ac_rfl
      refine it2 (fun e => ?_) fun e => ?_
      · rw [if_pos (by simpa using e)] at w
        refine wps_raiseO (fun _ _ _ _ h => h) ?_
        repeat ac_rfl
        exact ⟨_, rfl, w⟩
      rw [if_neg (by simpa using e)] at w
      repeat ac_rfl
      refine ⟨_, .inl isl, ?_⟩
      repeat ac_rfl
      have e : t.fixed.map prD ++ [prD (i, j)] = (t.fixed ++ [(i, j)]).map prD := by rw [List.map_append]; rfl
      have hl := h.fixed
      refine ⟨by show (t.fixed.map prD ++ [prD (i, j)]).length ≤ _; rw [e, List.length_map, List.length_append, List.length_singleton]; omega, ?_⟩
      repeat ac_rfl
      show RWL K μ (rSortD K) [.lst (t.fixed.map prD ++ [prD (i, j)])] _
      rw [e]
      refine rw_sorted isl (sorts_pr _ (by rw [List.length_append, List.length_singleton]; omega)) ?_
      rw [sortD_pr]
      repeat ac_rfl
      exact ⟨c, a, sts, k, { t with fixed := sortPr (t.fixed ++ [(i, j)]) }, rfl, hc, hk, h.few, rfl, rfl, rfl, rfl, w⟩
def q_Comparison___eq__ (K : Frag) (x y : Dt) : Post := fun μ W _ => ∃ c a sts k t, x = .ref a ∧ CmpAt K μ c a sts k t ∧ ((∃ c' a' sts' k' t', y = .ref a' ∧ CmpAt K μ c' a' sts' k' t' ∧ W (.bl (decide (t = t'))) μ) ∨ (∃ tt, TyD μ y tt ∧ Frn K tt (gA "Comparison" K) ∧ W (.bl false) μ))
abbrev sp_Comparison___eq__ (K : Frag) : DSp := sp2 (q_Comparison___eq__ K)
theorem ok_Comparison___eq__ {P : Program} {w : World} {K : Frag} {mg : Str → Option Value} {base : Heap} (G : Good fa fn K mg) : FnOk P w K mg base (L2.CX P w) 2 (mA "Comparison" "__eq__" K) (fdOf K (mA "Comparison" "__eq__" K)) ["self", "other"] (spD K (sp_Comparison___eq__ K)) := by
  have ok_Comparison_now : FnOk P w K mg base (L2.CX P w) 1 (mA "Comparison" "now" K) (fdOf K (mA "Comparison" "now" K)) ["self"] (spD K (sp_Comparison_now K)) := ok_Comparison_now G
  have ok_State_is_same : FnOk P w K mg base (L2.CX P w) 1 (mA "State" "is_same" K) (fdOf K (mA "State" "is_same" K)) ["self", "second"] (spD K (sp_State_is_same K)) := ok_State_is_same G
  refine ok_defN 2 rfl rfl (G.def_ 34 rfl) sc_Comparison___eq__ len2 fun cdv A outer s0 H E hr => ⟨_, (pss_one (ps_ret (pe_and (pe_callB (r := rIsi K) call_isi rfl (G.free 0 rfl) (by rfl) (pa_cons (pv 1) (pa_cons (pe_glob (v := .ref (gA "Comparison" K)) rfl (G.glo 42 rfl) rfl) pa_nil))) (pe_one (pe_meth (pe_meth0 (pv 0) (G.cls 27 rfl) (G.meth 30 rfl) ok_Comparison_now (hr.mono (by decide)) (b_Comparison_now G) .nil passL) (G.cls 43 rfl) (G.meth 44 rfl) ok_State_is_same (hr.mono (by decide)) (b_State_is_same G) .nil passL (pa_cons (pe_meth0 (pv 1) (G.cls 27 rfl) (G.meth 30 rfl) ok_Comparison_now (hr.mono (by decide)) (b_Comparison_now G) .nil passL) pa_nil)))))), ?_⟩
  try dsimp only [cxOf]
  rintro ds μ W X ⟨_, _, rfl, c, a, sts, k, t, rfl, h, w⟩
  have hc := h.cell
  rcases w with ⟨c', a', sts', k', t', rfl, h', w⟩ | ⟨tt, ty, fr, w⟩
  · have hc' := h'.cell
    repeat ac_rfl
    refine rw_isiC (G.isi 120 rfl) hc' ?_
    repeat ac_rfl
    refine ⟨c, a, sts, k, t, rfl, h, ?_⟩
    repeat ac_rfl
    refine ⟨c', a', sts', k', t', rfl, h', ?_⟩
    repeat ac_rfl
    exact ⟨t, t', rfl, rfl, w⟩
  · repeat ac_rfl
    refine rw_isiF ty fr ?_
    repeat ac_rfl
    exact w



def q_Comparison_undo (K : Frag) (s : Dt) : Post := fun μ W X => ∃ (c : Nat) (a : Addr) (sts : List Stt) (k : Nat), s = .ref a ∧ μ[c]? = some (a, cmpMo K sts k) ∧ ((k = 0 ∧ X (gA "NothingToDo" K) [("action", .str "undo")] μ) ∨ (1 ≤ k ∧ W .non (μ.set c (a, cmpMo K sts (k - 1)))))
abbrev sp_Comparison_undo (K : Frag) : DSp := sp1 (q_Comparison_undo K)
theorem ok_Comparison_undo {P : Program} {w : World} {K : Frag} {mg : Str → Option Value} {base : Heap} (G : Good fa fn K mg) : FnOk P w K mg base (L2.CX P w) 3 (mA "Comparison" "undo" K) (fdOf K (mA "Comparison" "undo" K)) ["self"] (spD K (sp_Comparison_undo K)) := by
  have ok_NothingToDo___init__ : FnOk P w K mg base (L2.CX P w) 1 (mA "NothingToDo" "__init__" K) (fdOf K (mA "NothingToDo" "__init__" K)) ["self", "action"] (spX K (gA "NothingToDo" K) (mA "NothingToDo" "__init__" K) "action") := ok_NothingToDo___init__ G
  have c_Comparison := G.cls 27 rfl
  have n_Comparison_spot := G.noat 119 rfl
  refine ok_defN 1 rfl rfl (G.def_ 35 rfl) sc_Comparison_undo len1 fun cdv A outer s0 H E hr => ⟨_, (pss_cons (ps_if (pt_cmpR op_eq (pe_fldK K (pv 0)) pe_int (nomark _)) (pss_one (L2.ps_raise rfl (takes_of rfl rfl rfl rfl) (pmk_oex (G.exc1 45 rfl).o (G.exc1 45 rfl).i (G.exc1 45 rfl).t ok_NothingToDo___init__ (hr.mono (by decide)) (b_NothingToDo___init__ G) .nil passL rfl (G.glo 46 rfl) (pa_cons pe_str pa_nil)))) pss_nil) (pss_one (ps_fldaug (pv 0) pe_int in_sub))), ?_⟩
  try dsimp only [cxOf]
  rintro ds μ W X ⟨_, rfl, c, a, sts, k, rfl, hc, w⟩
  repeat ac_rfl
  rcases w with ⟨rfl, w⟩ | ⟨h1, w⟩
  · repeat ac_rfl
    refine wps_raiseO (fun _ _ _ _ h => h) ?_
    repeat ac_rfl
    exact ⟨_, rfl, w⟩
  · rw [decide_eq_false (show ¬ (k : Int) = 0 by omega)]
    repeat ac_rfl
    refine wps_fldsubI ?_
    repeat ac_rfl
    refine ⟨c, a, _, _, (k : Int), rfl, hc, c_Comparison, n_Comparison_spot, rfl, lt_of_ble rfl, ?_⟩
    repeat ac_rfl
    refine ⟨_, hc, lt_of_ble rfl, ?_⟩
    have e : (k : Int) - 1 = ((k - 1 : Nat) : Int) := by omega
    rw [e]
    exact w
def q_Comparison_redo (K : Frag) (s : Dt) : Post := fun μ W X => ∃ (c : Nat) (a : Addr) (sts : List Stt) (k : Nat), s = .ref a ∧ μ[c]? = some (a, cmpMo K sts k) ∧ ((k + 1 = sts.length ∧ X (gA "NothingToDo" K) [("action", .str "redo")] μ) ∨ (k + 1 ≠ sts.length ∧ W .non (μ.set c (a, cmpMo K sts (k + 1)))))
abbrev sp_Comparison_redo (K : Frag) : DSp := sp1 (q_Comparison_redo K)
theorem ok_Comparison_redo {P : Program} {w : World} {K : Frag} {mg : Str → Option Value} {base : Heap} (G : Good fa fn K mg) : FnOk P w K mg base (L2.CX P w) 3 (mA "Comparison" "redo" K) (fdOf K (mA "Comparison" "redo" K)) ["self"] (spD K (sp_Comparison_redo K)) := by
  have ok_NothingToDo___init__ : FnOk P w K mg base (L2.CX P w) 1 (mA "NothingToDo" "__init__" K) (fdOf K (mA "NothingToDo" "__init__" K)) ["self", "action"] (spX K (gA "NothingToDo" K) (mA "NothingToDo" "__init__" K) "action") := ok_NothingToDo___init__ G
  have c_Comparison := G.cls 27 rfl
  have n_Comparison_spot := G.noat 119 rfl
  have c_Comparison := G.cls 27 rfl
  have n_Comparison_states := G.noat 118 rfl
  refine ok_defN 1 rfl rfl (G.def_ 36 rfl) sc_Comparison_redo len1 fun cdv A outer s0 H E hr => ⟨_, (pss_cons (ps_if (pt_cmpR op_eq (pe_op op_add (pe_fldK K (pv 0)) pe_int) (pe_callB (r := Evl.rLenS K) cr_len rfl (G.free 5 rfl) (by rfl) (pa_cons (pe_fldK K (pv 0)) pa_nil)) (nomark _)) (pss_one (L2.ps_raise rfl (takes_of rfl rfl rfl rfl) (pmk_oex (G.exc1 45 rfl).o (G.exc1 45 rfl).i (G.exc1 45 rfl).t ok_NothingToDo___init__ (hr.mono (by decide)) (b_NothingToDo___init__ G) .nil passL rfl (G.glo 46 rfl) (pa_cons pe_str pa_nil)))) pss_nil) (pss_one (ps_fldaug (pv 0) pe_int in_add))), ?_⟩
  try dsimp only [cxOf]
  rintro ds μ W X ⟨_, rfl, c, a, sts, k, rfl, hc, w⟩
  repeat ac_rfl
  refine rw_len (ds := sts.map (stD K)) (.inl isl) ?_
  rw [List.length_map]
  repeat ac_rfl
  rcases w with ⟨h1, w⟩ | ⟨h1, w⟩
  · rw [decide_eq_true (show (k : Int) + 1 = (sts.length : Nat) by omega)]
    repeat ac_rfl
    refine wps_raiseO (fun _ _ _ _ h => h) ?_
    repeat ac_rfl
    exact ⟨_, rfl, w⟩
  · rw [decide_eq_false (show ¬ (k : Int) + 1 = (sts.length : Nat) by omega)]
    repeat ac_rfl
    refine wps_fldaugI ?_
    repeat ac_rfl
    refine ⟨c, a, _, _, (k : Int), rfl, hc, c_Comparison, n_Comparison_spot, rfl, lt_of_ble rfl, ?_⟩
    repeat ac_rfl
    exact ⟨_, hc, lt_of_ble rfl, w⟩


/-! ### draws -/
theorem ok__law_draw {P : Program} {w : World} {K : Frag} {mg : Str → Option Value} {base : Heap} (G : Good fa fn K mg) : FnOk P w K mg base (L2.CX P w) 1 (gA "_law_draw" K) (fdOf K (gA "_law_draw" K)) ["stream", "size"] (spD K (sp__law_draw K)) := by
  refine ok_defN 3 rfl rfl (G.def_ 37 rfl) sc__law_draw len2 fun cdv A outer s0 H E hr => ⟨_, (pss_cons (ps_if (pt_cmpR op_ge (pe_ix (r := rIxL K) ix_list (pv 0) pe_int (fun _ _ => rfl)) (pv 1) (nomark _)) (pss_cons (ps_set (i := 2) sc__law_draw.nd rfl (Or.inl rfl) (pe_op op_mod (pe_ix (r := rIxL K) ix_list (pv 0) pe_int (fun _ _ => rfl)) (pv 1))) (pss_cons (ps_asg (pe_op op_fdiv (pe_ix (r := rIxL K) ix_list (pv 0) pe_int (fun _ _ => rfl)) (pv 1)) (pg_sub (pv 0) pe_int set_list)) (pss_one (ps_ret (pv 2))))) pss_nil) (pss_cons (ps_asg (pe_op op_mod (pe_op op_add (pe_op op_mul (pe_ix (r := rIxL K) ix_list (pv 0) pe_int (fun _ _ => rfl)) pe_int) pe_int) pe_int) (pg_sub (pv 0) pe_int set_list)) (pss_one (ps_ret (pe_op op_mod (pe_op op_fdiv (pe_op op_mod (pe_op op_powB (pe_op op_mod (pe_op op_powB (pe_ix (r := rIxL K) ix_list (pv 0) pe_int (fun _ _ => rfl)) pe_int) pe_int) pe_int) pe_int) pe_int) (pv 1)))))), ?_⟩
  try dsimp only [cxOf]
  rintro ds μ W X ⟨_, _, rfl, c, a, m, rfl, rfl, ⟨dg, sd, hc, h1, h2, h3⟩, m1, m2, w⟩
  repeat ac_rfl
  refine rw_ixC (d := .int dg) hc rfl ?_
  repeat ac_rfl
  refine it2 (fun e => ?_) fun e => ?_
  · repeat ac_rfl
    refine rw_ixC (d := .int dg) hc rfl ?_
    repeat ac_rfl
    refine rw_I (show 0 < m by omega) (fun _ => .int _) ?_
    repeat ac_rfl
    refine rw_ixC (d := .int dg) hc rfl ?_
    repeat ac_rfl
    refine rw_I (show CDiv dg m from ⟨by omega, by omega⟩) (fun _ => .int _) ?_
    refine wpg_setL ?_
    repeat ac_rfl
    refine ⟨c, a, _, 0, 0, rfl, rfl, hc, rfl, ?_⟩
    repeat ac_rfl
    exact w _ _ (Int.emod_nonneg _ (by omega)) (Int.emod_lt_of_pos _ (by omega)) (StrAt.mk' (at_set hc) (Int.ediv_nonneg h1 (by omega)) h2 h3)
  · repeat ac_rfl
    refine rw_ixC (d := .int sd) hc rfl ?_
    repeat ac_rfl
    refine rw_I (cmul_l h2 h3) (fun _ => .int _) ?_
    repeat ac_rfl
    refine rw_I (show (0 : Int) < 2147483647 by decide) (fun _ => .int _) ?_
    refine wpg_setL ?_
    repeat ac_rfl
    refine ⟨c, a, _, 1, 1, rfl, rfl, hc, rfl, ?_⟩
    have g1 : 0 ≤ (sd * 48271 + 12345) % 2147483647 := Int.emod_nonneg _ (by decide)
    have g2 : (sd * 48271 + 12345) % 2147483647 < 2147483647 := Int.emod_lt_of_pos _ (by decide)
    generalize (sd * 48271 + 12345) % 2147483647 = t at *
    repeat ac_rfl
    refine rw_ixC (d := .int t) (at_set hc) rfl ?_
    repeat ac_rfl
    refine rw_I (cpow_small g1 (by omega) (by decide) (by decide)) (fun _ => .int _) ?_
    repeat ac_rfl
    refine rw_I (show (0 : Int) < 2147483629 by decide) (fun _ => .int _) ?_
    have g3 : 0 ≤ t ^ (3 : Int).toNat % 2147483629 := Int.emod_nonneg _ (by decide)
    have g4 : t ^ (3 : Int).toNat % 2147483629 < 2147483629 := Int.emod_lt_of_pos _ (by decide)
    generalize t ^ (3 : Int).toNat % 2147483629 = u at *
    repeat ac_rfl
    refine rw_I (cpow_small g3 (by omega) (by decide) (by decide)) (fun _ => .int _) ?_
    repeat ac_rfl
    refine rw_I (show (0 : Int) < 1000000007 by decide) (fun _ => .int _) ?_
    repeat ac_rfl
    refine rw_I (show CDiv _ 7 from ⟨by decide, by decide⟩) (fun _ => .int _) ?_
    repeat ac_rfl
    refine rw_I (show 0 < m by omega) (fun _ => .int _) ?_
    exact w _ _ (Int.emod_nonneg _ (by omega)) (Int.emod_lt_of_pos _ (by omega)) (StrAt.mk' (at_set hc) h1 g1 (by omega))
theorem ok__law_stream {P : Program} {w : World} {K : Frag} {mg : Str → Option Value} {base : Heap} (G : Good fa fn K mg) : FnOk P w K mg base (L2.CX P w) 1 (gA "_law_stream" K) (fdOf K (gA "_law_stream" K)) ["script", "start"] (spD K (sp__law_stream K)) := by
  refine ok_defN 5 rfl rfl (G.def_ 38 rfl) sc__law_stream len2 fun cdv A outer s0 H E hr => ⟨_, (pss_cons (ps_set (i := 2) sc__law_stream.nd rfl (Or.inl rfl) (pe_op op_add pe_int (pv 1))) (pss_cons (ps_for PassesOwn.leaving rfl (pi_listK K (pv 0)) (pg_name (i := 3) sc__law_stream.nd rfl (Or.inl rfl)) (pss_one (ps_set (i := 2) sc__law_stream.nd rfl (Or.inl rfl) (pe_op op_add (pe_op op_mod (pe_op op_powB (pe_op op_add (pe_op op_mul (pv 2) pe_int) (pv 3)) pe_int) pe_int) pe_int)))) (pss_cons (ps_set (i := 4) sc__law_stream.nd rfl (Or.inl rfl) pe_int) (pss_cons (ps_if (PW.pt (pw_and (pt_cmpR op_lt (pv 1) (pe_callB (r := Evl.rLenS K) cr_len rfl (G.free 5 rfl) (by rfl) (pa_cons (pv 0) pa_nil)) (nomark _)) (pw_and1 (pt_cmpR op_ge (pe_ix (r := rIxL K) ix_list (pv 0) (pv 1) (fun _ _ => rfl)) (pe_op op_powB pe_int pe_int) (nomark _))))) (pss_one (ps_set (i := 4) sc__law_stream.nd rfl (Or.inl rfl) (pe_op op_sub (pe_ix (r := rIxL K) ix_list (pv 0) (pv 1) (fun _ _ => rfl)) (pe_op op_powB pe_int pe_int)))) pss_nil) (pss_one (ps_ret (pe_lst (pa_cons (pv 4) (pa_cons (pv 2) pa_nil))))))))), ?_⟩
  try dsimp only [cxOf]
  rintro ds μ W X ⟨_, _, rfl, ns, i, rfl, rfl, i0, i1, hl, hb, w⟩
  repeat ac_rfl
  refine wps_for (wpi_fls ?_)
  repeat ac_rfl
  refine ⟨_, rfl, fun j ρ' μ' => μ' = μ ∧ ∃ (sd : Int) (nb : Option Dt), 0 ≤ sd ∧ sd ≤ 2147483629 ∧ ρ' = [some (.fls (ns.map .int)), some (.int i), some (.int sd), nb, none], ⟨rfl, 53 + i, none, by omega, by omega, rfl⟩, ?_, ?_⟩
  · rintro j y ρ' μ' hy ⟨rfl, sd, nb, s0, s1, rfl⟩
    rw [List.getElem?_map] at hy
    cases e : ns[j]? with
    | none => rw [e] at hy; cases hy
    | some z =>
      rw [e] at hy
      cases hy
      have hz := hb z (List.mem_of_getElem? e)
      repeat ac_rfl
      refine rw_I (cmul_l s0 (by omega)) (fun _ => .int _) ?_
      repeat ac_rfl
      refine rw_I (show CPowB _ 3 from ⟨by decide, ?_⟩) (fun _ => .int _) ?_
      · have h1 := bits_seed (sd := sd) (n := z) (b := 1048576) (by omega) hz
        have h2 : (Builtin.Int.intBits (sd * 40127 + z) : Int) ≤ 1048624 := by omega
        have h4 : (2 : Int) ^ 27 = 134217728 := by decide
        omega
      repeat ac_rfl
      refine rw_I (show (0 : Int) < 2147483629 by decide) (fun _ => .int _) ?_
      have g3 : 0 ≤ (sd * 40127 + z) ^ (3 : Int).toNat % 2147483629 := Int.emod_nonneg _ (by decide)
      have g4 : (sd * 40127 + z) ^ (3 : Int).toNat % 2147483629 < 2147483629 := Int.emod_lt_of_pos _ (by decide)
      generalize (sd * 40127 + z) ^ (3 : Int).toNat % 2147483629 = u at *
      repeat ac_rfl
      exact ⟨rfl, u + 1, _, by omega, by omega, rfl⟩
  · rintro ρ' μ' ⟨rfl, sd, nb, s0, s1, rfl⟩
    repeat ac_rfl
    refine rw_len (.inr (.inr rfl)) ?_
    repeat ac_rfl
    have key : ∀ (ρ2 : Ro) (dg : Int), 0 ≤ dg → ρ2[4]? = some (some (.int dg)) → ρ2[2]? = some (some (.int sd)) → WPS K (bodyW E X) ρ2 μ' (tRet (tLst (tCons (tVar 4) (tCons (tVar 2) tNil)))) (bodyD W) := by
      intro ρ2 dg h0 e4 e2
      refine wps_ret (wp_lstC (wpa_cons (wp_var e4 (wpa_cons (wp_var e2 (wpa_nil ⟨(by show 2 ≤ 1000000; decide), fun p hp => ?_⟩))))))
      exact w p _ hp (StrAt.mk' at0 h0 s0 (by omega))
    refine it2 (fun e => ?_) fun e => ?_
    · repeat ac_rfl
      simp at e
      have hlt : i.toNat < ns.length := by omega
      have hz : atI (ns.map Dt.int) i = some (.int ns[i.toNat]) := by
        have := atI_map (enc := Dt.int) (List.getElem?_eq_getElem hlt)
        rwa [Int.toNat_of_nonneg i0] at this
      refine rw_ixF hz ?_
      repeat ac_rfl
      refine rw_I (show CPowB 10 18 from ⟨by decide, by decide +kernel⟩) (fun _ => .int _) ?_
      repeat ac_rfl
      refine it2 (fun e => ?_) fun e => ?_
      · repeat ac_rfl
        refine rw_ixF hz ?_
        repeat ac_rfl
        refine rw_I (show CPowB 10 18 from ⟨by decide, by decide +kernel⟩) (fun _ => .int _) ?_
        have e2 : (10 : Int) ^ (18 : Int).toNat = 1000000000000000000 := by decide +kernel
        simp at e
        refine rw_I0 (fun _ => .int _) (wpg_name ?_)
        exact key _ _ (by omega) rfl rfl
      · exact wps_next (key _ 0 (by decide) rfl rfl)
    · exact itF rfl (wps_next (key _ 0 (by decide) rfl rfl))



/-! ### the law's own book-keeping -/
theorem ok__law_choose {P : Program} {w : World} {K : Frag} {mg : Str → Option Value} {base : Heap} (G : Good fa fn K mg) : FnOk P w K mg base (L2.CX P w) 2 (gA "_law_choose" K) (fdOf K (gA "_law_choose" K)) ["stream", "items"] (spD K (sp__law_choose K)) := by
  have ok__law_draw : FnOk P w K mg base (L2.CX P w) 1 (gA "_law_draw" K) (fdOf K (gA "_law_draw" K)) ["stream", "size"] (spD K (sp__law_draw K)) := ok__law_draw G
  refine ok_defN 2 rfl rfl (G.def_ 39 rfl) sc__law_choose len2 fun cdv A outer s0 H E hr => ⟨_, (pss_one (ps_ret (pe_ix (r := rIxL K) ix_list (pv 1) (pe_call ok__law_draw (hr.mono (by decide)) rfl (G.glo 47 rfl) (G.def_ 37 rfl).kp (b__law_draw G) .nil passL (pa_cons (pv 0) (pa_cons (pe_callB (r := Evl.rLenS K) cr_len rfl (G.free 5 rfl) (by rfl) (pa_cons (pv 1) pa_nil)) pa_nil))) (fun _ _ => rfl)))), ?_⟩
  try dsimp only [cxOf]
  rintro ds μ W X ⟨_, l, rfl, c, a, es, rfl, hl, hn, hs, l1, l2, w⟩
  repeat ac_rfl
  refine rw_len (.inl hl) ?_
  repeat ac_rfl
  refine ⟨c, a, (es.length : Nat), rfl, rfl, hs, by omega, by omega, fun r x r0 r1 hs' => ?_⟩
  obtain ⟨dg, sd, hc, _⟩ := hs.ex
  have hr : r.toNat < es.length := by omega
  have e : es[r.toNat]? = some es[r.toNat] := List.getElem?_eq_getElem hr
  have e2 : atI es r = some es[r.toNat] := by
    have := atI_get e
    rwa [Int.toNat_of_nonneg r0] at this
  rcases hl.keep (x := x) hc hn with rfl | ⟨i, b, rfl, hb⟩
  · exact rw_ixL e2 (w _ _ _ e hs')
  · exact rw_ixC hb e2 (w _ _ _ e hs')
def q_law_now (b : Dt) : Post := fun μ W _ => ∃ (c : Nat) (a : Addr) (sts : List Stt) (k : Nat) (s : Stt), b = .ref a ∧ μ[c]? = some (a, boxMo sts k) ∧ sts[k]? = some s ∧ W (tsD s) μ
abbrev sp__law_now (_ : Frag) : DSp := sp1 q_law_now
theorem ok__law_now {P : Program} {w : World} {K : Frag} {mg : Str → Option Value} {base : Heap} (G : Good fa fn K mg) : FnOk P w K mg base (L2.CX P w) 1 (gA "_law_now" K) (fdOf K (gA "_law_now" K)) ["box"] (spD K (sp__law_now K)) := by
  refine ok_defN 1 rfl rfl (G.def_ 40 rfl) sc__law_now len1 fun cdv A outer s0 H E hr => ⟨_, (pss_one (ps_ret (pe_ix (r := rIxL K) ix_list (pe_dget (hu_of hr) (pv 0) pe_str (fun _ _ => rfl)) (pe_dget (hu_of hr) (pv 0) pe_str (fun _ _ => rfl)) (fun _ _ => rfl)))), ?_⟩
  try dsimp only [cxOf]
  rintro ds μ W X ⟨_, rfl, c, a, sts, k, s, rfl, hc, hk, w⟩
  repeat ac_rfl
  exact rw_ixL (atI_map hk) w
def q_law_keep (b o t p f : Dt) : Post := fun μ W _ => ∃ (c : Nat) (a : Addr) (sts : List Stt) (k : Nat) (n : Stt), b = .ref a ∧ μ[c]? = some (a, boxMo sts k) ∧ k < sts.length ∧ sts.length ≤ 100000 ∧ n.own.length ≤ 1000 ∧ n.other.length ≤ 1000 ∧ n.fixed.length ≤ 1000 ∧ o = .lst (n.own.map lnD) ∧ t = .lst (n.other.map lnD) ∧ p = .int n.cap ∧ f = .lst (n.fixed.map prD) ∧ W .non (μ.set c (a, boxMo (keepS sts k (canon n)) (k + 1)))
abbrev sp__law_keep (_ : Frag) : DSp := sp5 q_law_keep
theorem ok__law_keep {P : Program} {w : World} {K : Frag} {mg : Str → Option Value} {base : Heap} (G : Good fa fn K mg) : FnOk P w K mg base (L2.CX P w) 1 (gA "_law_keep" K) (fdOf K (gA "_law_keep" K)) ["box", "own", "other", "price", "fixed"] (spD K (sp__law_keep K)) := by
  refine ok_defN 5 rfl rfl (G.def_ 41 rfl) sc__law_keep len5 fun cdv A outer s0 H E hr => ⟨_, (pss_cons (ps_dput (hu_of hr) (pv 0) pe_str (pe_op op_cat (pe_slice (r := rSlL K) sl_list (pe_dget (hu_of hr) (pv 0) pe_str (fun _ _ => rfl)) po_none (po_some (pe_op op_add (pe_dget (hu_of hr) (pv 0) pe_str (fun _ _ => rfl)) pe_int))) (pe_lst (pa_cons (pe_tup (pa_cons (pe_callB (r := rSortD K) (cr_sortedD (hu64 hr)) rfl (G.free 11 rfl) (by rfl) (pa_cons (pv 1) pa_nil)) (pa_cons (pe_callB (r := rSortD K) (cr_sortedD (hu64 hr)) rfl (G.free 11 rfl) (by rfl) (pa_cons (pv 2) pa_nil)) (pa_cons (pv 3) (pa_cons (pe_callB (r := rSortD K) (cr_sortedD (hu64 hr)) rfl (G.free 11 rfl) (by rfl) (pa_cons (pv 4) pa_nil)) pa_nil))))) pa_nil))) rfl) (pss_one (ps_dput (hu_of hr) (pv 0) pe_str (pe_op op_add (pe_dget (hu_of hr) (pv 0) pe_str (fun _ _ => rfl)) pe_int) rfl))), ?_⟩
  try dsimp only [cxOf]
  rintro ds μ W X ⟨_, _, _, _, _, rfl, c, a, sts, k, n, rfl, hc, hk, hf, l1, l2, l3, rfl, rfl, rfl, rfl, w⟩
  repeat ac_rfl
  refine wp_sl ?_
  repeat ac_rfl
  refine wpo_none (wpo_some ?_)
  repeat ac_rfl
  refine rw_slL (ds := sts.map tsD) isl ?_
  have e1 : cutD (sts.map tsD) none (some ((k : Int) + 1)) = (sts.take (k + 1)).map tsD := by
    rw [List.map_take, ← cut_take (by rw [List.length_map]; omega)]
    rfl
  rw [e1]
  repeat ac_rfl
  refine rw_sorted isl (sorts_ln _ (by omega)) ?_
  rw [sortD_ln]
  repeat ac_rfl
  refine rw_sorted isl (sorts_ln _ (by omega)) ?_
  rw [sortD_ln]
  repeat ac_rfl
  refine rw_sorted isl (sorts_pr _ (by omega)) ?_
  rw [sortD_pr]
  repeat ac_rfl
  refine rw_cat (ds := (sts.take (k + 1)).map tsD) (es := [canon n].map tsD) isl isl (by rw [List.length_map, List.length_take]; simp; omega) ?_
  have e2 : (sts.take (k + 1)).map tsD ++ [canon n].map tsD = (keepS sts k (canon n)).map tsD := by unfold keepS; rw [List.map_append]
  rw [e2]
  repeat ac_rfl
  rw [List.set_set]
  exact w
def q_law_play (K : Frag) (b d : Dt) : Post := fun μ W _ => ∃ (c : Nat) (a : Addr) (sts : List Stt) (k : Nat) (s : Stt) (e : Deed), b = .ref a ∧ μ[c]? = some (a, boxMo sts k) ∧ sts[k]? = some s ∧ sts.length ≤ 100000 ∧ s.own.length ≤ 500 ∧ s.other.length ≤ 500 ∧ s.fixed.length ≤ 500 ∧ (e.word = "undo" → 1 ≤ k) ∧ d = deedD e ∧ W .non (μ.set c (a, boxMo (stepB sts k s e).1 (stepB sts k s e).2))
abbrev sp__law_play (K : Frag) : DSp := sp2 (q_law_play K)


theorem ok__law_play {P : Program} {w : World} {K : Frag} {mg : Str → Option Value} {base : Heap} (G : Good fa fn K mg) : FnOk P w K mg base (L2.CX P w) 2 (gA "_law_play" K) (fdOf K (gA "_law_play" K)) ["box", "deed"] (spD K (sp__law_play K)) := by
  have ok__law_now : FnOk P w K mg base (L2.CX P w) 1 (gA "_law_now" K) (fdOf K (gA "_law_now" K)) ["box"] (spD K (sp__law_now K)) := ok__law_now G
  have ok__law_keep : FnOk P w K mg base (L2.CX P w) 1 (gA "_law_keep" K) (fdOf K (gA "_law_keep" K)) ["box", "own", "other", "price", "fixed"] (spD K (sp__law_keep K)) := ok__law_keep G
  refine ok_defN 10 rfl rfl (G.def_ 42 rfl) sc__law_play len2 fun cdv A outer s0 H E hr => ⟨_, (pss_cons (ps_asg (pe_call ok__law_now (hr.mono (by decide)) rfl (G.glo 48 rfl) (G.def_ 40 rfl).kp (b__law_now G) .nil passL (pa_cons (pv 0) pa_nil)) (pg_tup (n := 4) rfl (pgs_cons (pg_name (i := 2) sc__law_play.nd rfl (Or.inl rfl)) (pgs_cons (pg_name (i := 3) sc__law_play.nd rfl (Or.inl rfl)) (pgs_cons (pg_name (i := 4) sc__law_play.nd rfl (Or.inl rfl)) (pgs_cons (pg_name (i := 5) sc__law_play.nd rfl (Or.inl rfl)) pgs_nil)))))) (pss_cons (ps_set (i := 6) sc__law_play.nd rfl (Or.inl rfl) (pe_ix (r := rIxT K) ix_tup (pv 1) pe_int (fun _ _ => rfl))) (pss_one (ps_if (pt_cmpR (r := rIn K false) op_in_seq (pv 6) (pe_tup (pa_cons pe_str (pa_cons pe_str pa_nil))) rfl) (pss_one (ps_dput (hu_of hr) (pv 0) pe_str (pe_op op_add (pe_dget (hu_of hr) (pv 0) pe_str (fun _ _ => rfl)) (pe_ifExp (pt_cmpR op_eq (pv 6) pe_str (nomark _)) pe_int (pe_op op_sub pe_int pe_int))) rfl)) (pss_one (ps_if (pt_cmpR op_eq (pv 6) pe_str (nomark _)) (pss_one (ps_expr (pe_call ok__law_keep (hr.mono (by decide)) rfl (G.glo 49 rfl) (G.def_ 41 rfl).kp (b__law_keep G) .nil passL (pa_cons (pv 0) (pa_cons (pe_op op_cat (pv 2) (pe_lst (pa_cons (pe_ix (r := rIxT K) ix_tup (pv 1) pe_int (fun _ _ => rfl)) pa_nil))) (pa_cons (pv 3) (pa_cons (pv 4) (pa_cons (pv 5) pa_nil)))))))) (pss_one (ps_if (pt_cmpR op_eq (pv 6) pe_str (nomark _)) (pss_one (ps_expr (pe_call ok__law_keep (hr.mono (by decide)) rfl (G.glo 49 rfl) (G.def_ 41 rfl).kp (b__law_keep G) .nil passL (pa_cons (pv 0) (pa_cons (pv 2) (pa_cons (pe_op op_cat (pv 3) (pe_lst (pa_cons (pe_ix (r := rIxT K) ix_tup (pv 1) pe_int (fun _ _ => rfl)) pa_nil))) (pa_cons (pv 4) (pa_cons (pv 5) pa_nil)))))))) (pss_one (ps_if (pt_cmpR op_eq (pv 6) pe_str (nomark _)) (pss_cons (ps_setLc (i := 7) (own := [("pair", 8)]) (g := (gName 8)) (tt := _) rfl sc__law_play.nd rfl rfl (sw_true rfl rfl rfl (by decide +kernel)) (pi_listK K (pv 5)) (blkOk_by (N := N__law_play) (sc := defScope s__law_play) (by decide +kernel)) (fun _ _ _ _ _ => (pg_name (i := 8) sc__law_play.nd rfl (Or.inl rfl))) (fun _ _ _ _ _ => (pts_one (pt_cmpR op_ne (pe_ix (r := rIxT K) ix_tup (pv 8) pe_int (fun _ _ => rfl)) (pe_ix (r := rIxT K) ix_tup (pv 1) pe_int (fun _ _ => rfl)) (nomark _)))) (fun _ _ _ _ _ => (pv 8))) (pss_one (ps_expr (pe_call ok__law_keep (hr.mono (by decide)) rfl (G.glo 49 rfl) (G.def_ 41 rfl).kp (b__law_keep G) .nil passL (pa_cons (pv 0) (pa_cons (pe_lc (own := [("line", 9)]) (g := (gName 9)) (tt := _) rfl sc__law_play.nd (pi_listK K (pv 2)) (blkOk_by (N := N__law_play) (sc := defScope s__law_play) (by decide +kernel)) (fun _ _ _ _ _ => (pg_name (i := 9) sc__law_play.nd rfl (Or.inl rfl))) (fun _ _ _ _ _ => (pts_one (pt_cmpR op_ne (pe_ix (r := rIxT K) ix_tup (pv 9) pe_int (fun _ _ => rfl)) (pe_ix (r := rIxT K) ix_tup (pv 1) pe_int (fun _ _ => rfl)) (nomark _)))) (fun _ _ _ _ _ => (pv 9))) (pa_cons (pv 3) (pa_cons (pv 4) (pa_cons (pv 7) pa_nil))))))))) (pss_one (ps_if (pt_cmpR op_eq (pv 6) pe_str (nomark _)) (pss_cons (ps_setLc (i := 7) (own := [("pair", 8)]) (g := (gName 8)) (tt := _) rfl sc__law_play.nd rfl rfl (sw_true rfl rfl rfl (by decide +kernel)) (pi_listK K (pv 5)) (blkOk_by (N := N__law_play) (sc := defScope s__law_play) (by decide +kernel)) (fun _ _ _ _ _ => (pg_name (i := 8) sc__law_play.nd rfl (Or.inl rfl))) (fun _ _ _ _ _ => (pts_one (pt_cmpR op_ne (pe_ix (r := rIxT K) ix_tup (pv 8) pe_int (fun _ _ => rfl)) (pe_ix (r := rIxT K) ix_tup (pv 1) pe_int (fun _ _ => rfl)) (nomark _)))) (fun _ _ _ _ _ => (pv 8))) (pss_one (ps_expr (pe_call ok__law_keep (hr.mono (by decide)) rfl (G.glo 49 rfl) (G.def_ 41 rfl).kp (b__law_keep G) .nil passL (pa_cons (pv 0) (pa_cons (pv 2) (pa_cons (pe_lc (own := [("line", 9)]) (g := (gName 9)) (tt := _) rfl sc__law_play.nd (pi_listK K (pv 3)) (blkOk_by (N := N__law_play) (sc := defScope s__law_play) (by decide +kernel)) (fun _ _ _ _ _ => (pg_name (i := 9) sc__law_play.nd rfl (Or.inl rfl))) (fun _ _ _ _ _ => (pts_one (pt_cmpR op_ne (pe_ix (r := rIxT K) ix_tup (pv 9) pe_int (fun _ _ => rfl)) (pe_ix (r := rIxT K) ix_tup (pv 1) pe_int (fun _ _ => rfl)) (nomark _)))) (fun _ _ _ _ _ => (pv 9))) (pa_cons (pv 4) (pa_cons (pv 7) pa_nil))))))))) (pss_one (ps_if (pt_cmpR op_eq (pv 6) pe_str (nomark _)) (pss_one (ps_expr (pe_call ok__law_keep (hr.mono (by decide)) rfl (G.glo 49 rfl) (G.def_ 41 rfl).kp (b__law_keep G) .nil passL (pa_cons (pv 0) (pa_cons (pv 2) (pa_cons (pv 3) (pa_cons (pe_ix (r := rIxT K) ix_tup (pv 1) pe_int (fun _ _ => rfl)) (pa_cons (pv 5) pa_nil)))))))) (pss_one (ps_if (pt_cmpR op_eq (pv 6) pe_str (nomark _)) (pss_one (ps_expr (pe_call ok__law_keep (hr.mono (by decide)) rfl (G.glo 49 rfl) (G.def_ 41 rfl).kp (b__law_keep G) .nil passL (pa_cons (pv 0) (pa_cons (pv 2) (pa_cons (pv 3) (pa_cons (pv 4) (pa_cons (pe_op op_cat (pv 5) (pe_lst (pa_cons (pe_tup (pa_cons (pe_ix (r := rIxT K) ix_tup (pv 1) pe_int (fun _ _ => rfl)) (pa_cons (pe_ix (r := rIxT K) ix_tup (pv 1) pe_int (fun _ _ => rfl)) pa_nil))) pa_nil))) pa_nil)))))))) (pss_one (ps_expr (pe_call ok__law_keep (hr.mono (by decide)) rfl (G.glo 49 rfl) (G.def_ 41 rfl).kp (b__law_keep G) .nil passL (pa_cons (pv 0) (pa_cons (pv 2) (pa_cons (pv 3) (pa_cons (pv 4) (pa_cons (pe_lc (own := [("pair", 8)]) (g := (gName 8)) (tt := _) rfl sc__law_play.nd (pi_listK K (pv 5)) (blkOk_by (N := N__law_play) (sc := defScope s__law_play) (by decide +kernel)) (fun _ _ _ _ _ => (pg_name (i := 8) sc__law_play.nd rfl (Or.inl rfl))) (fun _ _ _ _ _ => (pts_one (pt_cmpR op_ne (pe_ix (r := rIxT K) ix_tup (pv 8) pe_int (fun _ _ => rfl)) (pe_ix (r := rIxT K) ix_tup (pv 1) pe_int (fun _ _ => rfl)) (nomark _)))) (fun _ _ _ _ _ => (pv 8))) pa_nil)))))))))))))))))))))))), ?_⟩
  try dsimp only [cxOf]
  rintro ds μ W X ⟨_, _, rfl, c, a, sts, k, s, e, rfl, hc, hn, hf, l1, l2, l3, hu, rfl, w⟩
  have hk := (List.getElem?_eq_some_iff.mp hn).1
  repeat ac_rfl
  refine ⟨c, a, sts, k, s, rfl, hc, hn, ?_⟩
  repeat ac_rfl
  refine rw_ixT (d := .str e.word) atI_zero ?_
  repeat ac_rfl
  refine rw_inS (neg := false) (ws := ["undo", "redo"]) (.inr (.inl rfl)) ?_
  cases e with
  | undo =>
    repeat ac_rfl
    have hk1 : 1 ≤ k := hu rfl
    have e1 : (k : Int) + (0 - 1) = ((k - 1 : Nat) : Int) := by omega
    rw [e1]
    repeat ac_rfl
    exact w
  | redo =>
    repeat ac_rfl
    exact w
  | own l =>
    repeat ac_rfl
    refine rw_ixT (d := lnD l) rfl ?_
    repeat ac_rfl
    refine rw_cat (ds := s.own.map lnD) (es := [l].map lnD) isl isl (by simp; omega) ?_
    rw [← List.map_append]
    repeat ac_rfl
    exact ⟨c, a, sts, k, rawS s (.own l), rfl, hc, hk, hf, by show (s.own ++ [l]).length ≤ 1000; rw [List.length_append, List.length_singleton]; omega, by show s.other.length ≤ 1000; omega, by show s.fixed.length ≤ 1000; omega, rfl, rfl, rfl, rfl, w⟩
  | other l =>
    repeat ac_rfl
    refine rw_ixT (d := lnD l) rfl ?_
    repeat ac_rfl
    refine rw_cat (ds := s.other.map lnD) (es := [l].map lnD) isl isl (by simp; omega) ?_
    rw [← List.map_append]
    repeat ac_rfl
    exact ⟨c, a, sts, k, rawS s (.other l), rfl, hc, hk, hf, by show s.own.length ≤ 1000; omega, by show (s.other ++ [l]).length ≤ 1000; rw [List.length_append, List.length_singleton]; omega, by show s.fixed.length ≤ 1000; omega, rfl, rfl, rfl, rfl, w⟩
  | dropOwn i =>
    repeat ac_rfl
    refine wp_lcX prD (fun l => decide (l.1 ≠ i)) prD onto_name mono_name (wpi_list ?_)
    repeat ac_rfl
    refine ⟨s.fixed, rfl, by omega, fun l hl => ?_, ?_⟩
    · repeat ac_rfl
      refine rw_ixT (d := .int l.1) rfl ?_
      repeat ac_rfl
      refine rw_ixT (d := .int i) rfl ?_
      repeat ac_rfl
      refine it2 (fun e => ⟨by simpa using e, ?_⟩) fun e => ⟨by simpa using e, rfl⟩
      repeat ac_rfl
      exact ⟨rfl, rfl⟩
    repeat ac_rfl
    refine wp_lcX lnD (fun l => decide (l.1 ≠ i)) lnD onto_name mono_name (wpi_list ?_)
    repeat ac_rfl
    refine ⟨s.own, rfl, by omega, fun l hl => ?_, ?_⟩
    · repeat ac_rfl
      refine rw_ixT (d := .int l.1) rfl ?_
      repeat ac_rfl
      refine rw_ixT (d := .int i) rfl ?_
      repeat ac_rfl
      refine it2 (fun e => ⟨by simpa using e, ?_⟩) fun e => ⟨by simpa using e, rfl⟩
      repeat ac_rfl
      exact ⟨rfl, rfl⟩
    repeat ac_rfl
    have b1 := List.length_filter_le (fun l => decide (l.1 ≠ i)) s.own
    have b2 := List.length_filter_le (fun l => decide (l.1 ≠ i)) s.fixed
    exact ⟨c, a, sts, k, rawS s (.dropOwn i), rfl, hc, hk, hf, Nat.le_trans b1 (by omega), by show s.other.length ≤ 1000; omega, Nat.le_trans b2 (by omega), rfl, rfl, rfl, rfl, w⟩
  | dropOther i =>
    repeat ac_rfl
    refine wp_lcX prD (fun l => decide (l.2 ≠ i)) prD onto_name mono_name (wpi_list ?_)
    repeat ac_rfl
    refine ⟨s.fixed, rfl, by omega, fun l hl => ?_, ?_⟩
    · repeat ac_rfl
      refine rw_ixT (d := .int l.2) rfl ?_
      repeat ac_rfl
      refine rw_ixT (d := .int i) rfl ?_
      repeat ac_rfl
      refine it2 (fun e => ⟨by simpa using e, ?_⟩) fun e => ⟨by simpa using e, rfl⟩
      repeat ac_rfl
      exact ⟨rfl, rfl⟩
    repeat ac_rfl
    refine wp_lcX lnD (fun l => decide (l.1 ≠ i)) lnD onto_name mono_name (wpi_list ?_)
    repeat ac_rfl
    refine ⟨s.other, rfl, by omega, fun l hl => ?_, ?_⟩
    · repeat ac_rfl
      refine rw_ixT (d := .int l.1) rfl ?_
      repeat ac_rfl
      refine rw_ixT (d := .int i) rfl ?_
      repeat ac_rfl
      refine it2 (fun e => ⟨by simpa using e, ?_⟩) fun e => ⟨by simpa using e, rfl⟩
      repeat ac_rfl
      exact ⟨rfl, rfl⟩
    repeat ac_rfl
    have b1 := List.length_filter_le (fun l => decide (l.1 ≠ i)) s.other
    have b2 := List.length_filter_le (fun l => decide (l.2 ≠ i)) s.fixed
    exact ⟨c, a, sts, k, rawS s (.dropOther i), rfl, hc, hk, hf, by show s.own.length ≤ 1000; omega, Nat.le_trans b1 (by omega), Nat.le_trans b2 (by omega), rfl, rfl, rfl, rfl, w⟩
  | price p =>
    repeat ac_rfl
    refine rw_ixT (d := .int p) rfl ?_
    repeat ac_rfl
    exact ⟨c, a, sts, k, rawS s (.price p), rfl, hc, hk, hf, by show s.own.length ≤ 1000; omega, by show s.other.length ≤ 1000; omega, by show s.fixed.length ≤ 1000; omega, rfl, rfl, rfl, rfl, w⟩
  | confirm i j =>
    repeat ac_rfl
    refine rw_ixT (d := .int i) rfl ?_
    repeat ac_rfl
    refine rw_ixT (d := .int j) rfl ?_
    repeat ac_rfl
    refine rw_cat (ds := s.fixed.map prD) (es := [(i, j)].map prD) isl isl (by simp; omega) ?_
    rw [← List.map_append]
    repeat ac_rfl
    exact ⟨c, a, sts, k, rawS s (.confirm i j), rfl, hc, hk, hf, by show s.own.length ≤ 1000; omega, by show s.other.length ≤ 1000; omega, by show (s.fixed ++ [(i, j)]).length ≤ 1000; rw [List.length_append, List.length_singleton]; omega, rfl, rfl, rfl, rfl, w⟩
  | again i =>
    repeat ac_rfl
    refine wp_lcX prD (fun l => decide (l.1 ≠ i)) prD onto_name mono_name (wpi_list ?_)
    repeat ac_rfl
    refine ⟨s.fixed, rfl, by omega, fun l hl => ?_, ?_⟩
    · repeat ac_rfl
      refine rw_ixT (d := .int l.1) rfl ?_
      repeat ac_rfl
      refine rw_ixT (d := .int i) rfl ?_
      repeat ac_rfl
      refine it2 (fun e => ⟨by simpa using e, ?_⟩) fun e => ⟨by simpa using e, rfl⟩
      repeat ac_rfl
      exact ⟨rfl, rfl⟩
    repeat ac_rfl
    have b2 := List.length_filter_le (fun l => decide (l.1 ≠ i)) s.fixed
    exact ⟨c, a, sts, k, rawS s (.again i), rfl, hc, hk, hf, by show s.own.length ≤ 1000; omega, by show s.other.length ≤ 1000; omega, Nat.le_trans b2 (by omega), rfl, rfl, rfl, rfl, w⟩
def q_law_done (K : Frag) (b d : Dt) : Post := fun μ W _ => ∃ (c : Nat) (a : Addr) (sts : List Stt) (k : Nat) (s : Stt) (e : Deed) (p : List Stt × Nat), b = .ref a ∧ CmpAt K μ c a sts k s ∧ d = deedD e ∧ doneS sts k s e = some p ∧ W .non (μ.set c (a, cmpMo K p.1 p.2))
abbrev sp__law_done (K : Frag) : DSp := sp2 (q_law_done K)


theorem ok__law_done {P : Program} {w : World} {K : Frag} {mg : Str → Option Value} {base : Heap} (G : Good fa fn K mg) : FnOk P w K mg base (L2.CX P w) 6 (gA "_law_done" K) (fdOf K (gA "_law_done" K)) ["book", "deed"] (spD K (sp__law_done K)) := by
  have ok_Comparison_add_own : FnOk P w K mg base (L2.CX P w) 5 (mA "Comparison" "add_own" K) (fdOf K (mA "Comparison" "add_own" K)) ["self", "row_id", "day", "amount"] (spD K (sp_Comparison_add_own K)) := ok_Comparison_add_own G
  have ok_Comparison_add_other : FnOk P w K mg base (L2.CX P w) 5 (mA "Comparison" "add_other" K) (fdOf K (mA "Comparison" "add_other" K)) ["self", "row_id", "day", "amount"] (spD K (sp_Comparison_add_other K)) := ok_Comparison_add_other G
  have ok_Comparison_drop_own : FnOk P w K mg base (L2.CX P w) 4 (mA "Comparison" "drop_own" K) (fdOf K (mA "Comparison" "drop_own" K)) ["self", "row_id"] (spD K (sp_Comparison_drop_own K)) := ok_Comparison_drop_own G
  have ok_Comparison_drop_other : FnOk P w K mg base (L2.CX P w) 4 (mA "Comparison" "drop_other" K) (fdOf K (mA "Comparison" "drop_other" K)) ["self", "row_id"] (spD K (sp_Comparison_drop_other K)) := ok_Comparison_drop_other G
  have ok_Comparison_set_price : FnOk P w K mg base (L2.CX P w) 4 (mA "Comparison" "set_price" K) (fdOf K (mA "Comparison" "set_price" K)) ["self", "price"] (spD K (sp_Comparison_set_price K)) := ok_Comparison_set_price G
  have ok_Comparison_confirm : FnOk P w K mg base (L2.CX P w) 4 (mA "Comparison" "confirm" K) (fdOf K (mA "Comparison" "confirm" K)) ["self", "own_id", "other_id"] (spD K (sp_Comparison_confirm K)) := ok_Comparison_confirm G
  have ok_Comparison_open_again : FnOk P w K mg base (L2.CX P w) 4 (mA "Comparison" "open_again" K) (fdOf K (mA "Comparison" "open_again" K)) ["self", "own_id"] (spD K (sp_Comparison_open_again K)) := ok_Comparison_open_again G
  have ok_Comparison_undo : FnOk P w K mg base (L2.CX P w) 3 (mA "Comparison" "undo" K) (fdOf K (mA "Comparison" "undo" K)) ["self"] (spD K (sp_Comparison_undo K)) := ok_Comparison_undo G
  have ok_Comparison_redo : FnOk P w K mg base (L2.CX P w) 3 (mA "Comparison" "redo" K) (fdOf K (mA "Comparison" "redo" K)) ["self"] (spD K (sp_Comparison_redo K)) := ok_Comparison_redo G
  refine ok_defN 3 rfl rfl (G.def_ 43 rfl) sc__law_done len2 fun cdv A outer s0 H E hr => ⟨_, (pss_cons (ps_set (i := 2) sc__law_done.nd rfl (Or.inl rfl) (pe_ix (r := rIxT K) ix_tup (pv 1) pe_int (fun _ _ => rfl))) (pss_cons (ps_if (pt_cmpR op_eq (pv 2) pe_str (nomark _)) (pss_one (ps_ret (pe_meth (pv 0) (G.cls 27 rfl) (G.meth 50 rfl) ok_Comparison_add_own (hr.mono (by decide)) (b_Comparison_add_own G) .nil passL (pa_cons (pe_ix (r := rIxT K) ix_tup (pe_ix (r := rIxT K) ix_tup (pv 1) pe_int (fun _ _ => rfl)) pe_int (fun _ _ => rfl)) (pa_cons (pe_ix (r := rIxT K) ix_tup (pe_ix (r := rIxT K) ix_tup (pv 1) pe_int (fun _ _ => rfl)) pe_int (fun _ _ => rfl)) (pa_cons (pe_ix (r := rIxT K) ix_tup (pe_ix (r := rIxT K) ix_tup (pv 1) pe_int (fun _ _ => rfl)) pe_int (fun _ _ => rfl)) pa_nil)))))) pss_nil) (pss_cons (ps_if (pt_cmpR op_eq (pv 2) pe_str (nomark _)) (pss_one (ps_ret (pe_meth (pv 0) (G.cls 27 rfl) (G.meth 51 rfl) ok_Comparison_add_other (hr.mono (by decide)) (b_Comparison_add_other G) .nil passL (pa_cons (pe_ix (r := rIxT K) ix_tup (pe_ix (r := rIxT K) ix_tup (pv 1) pe_int (fun _ _ => rfl)) pe_int (fun _ _ => rfl)) (pa_cons (pe_ix (r := rIxT K) ix_tup (pe_ix (r := rIxT K) ix_tup (pv 1) pe_int (fun _ _ => rfl)) pe_int (fun _ _ => rfl)) (pa_cons (pe_ix (r := rIxT K) ix_tup (pe_ix (r := rIxT K) ix_tup (pv 1) pe_int (fun _ _ => rfl)) pe_int (fun _ _ => rfl)) pa_nil)))))) pss_nil) (pss_cons (ps_if (pt_cmpR op_eq (pv 2) pe_str (nomark _)) (pss_one (ps_ret (pe_meth (pv 0) (G.cls 27 rfl) (G.meth 52 rfl) ok_Comparison_drop_own (hr.mono (by decide)) (b_Comparison_drop_own G) .nil passL (pa_cons (pe_ix (r := rIxT K) ix_tup (pv 1) pe_int (fun _ _ => rfl)) pa_nil)))) pss_nil) (pss_cons (ps_if (pt_cmpR op_eq (pv 2) pe_str (nomark _)) (pss_one (ps_ret (pe_meth (pv 0) (G.cls 27 rfl) (G.meth 53 rfl) ok_Comparison_drop_other (hr.mono (by decide)) (b_Comparison_drop_other G) .nil passL (pa_cons (pe_ix (r := rIxT K) ix_tup (pv 1) pe_int (fun _ _ => rfl)) pa_nil)))) pss_nil) (pss_cons (ps_if (pt_cmpR op_eq (pv 2) pe_str (nomark _)) (pss_one (ps_ret (pe_meth (pv 0) (G.cls 27 rfl) (G.meth 54 rfl) ok_Comparison_set_price (hr.mono (by decide)) (b_Comparison_set_price G) .nil passL (pa_cons (pe_ix (r := rIxT K) ix_tup (pv 1) pe_int (fun _ _ => rfl)) pa_nil)))) pss_nil) (pss_cons (ps_if (pt_cmpR op_eq (pv 2) pe_str (nomark _)) (pss_one (ps_ret (pe_meth (pv 0) (G.cls 27 rfl) (G.meth 55 rfl) ok_Comparison_confirm (hr.mono (by decide)) (b_Comparison_confirm G) .nil passL (pa_cons (pe_ix (r := rIxT K) ix_tup (pv 1) pe_int (fun _ _ => rfl)) (pa_cons (pe_ix (r := rIxT K) ix_tup (pv 1) pe_int (fun _ _ => rfl)) pa_nil))))) pss_nil) (pss_cons (ps_if (pt_cmpR op_eq (pv 2) pe_str (nomark _)) (pss_one (ps_ret (pe_meth (pv 0) (G.cls 27 rfl) (G.meth 56 rfl) ok_Comparison_open_again (hr.mono (by decide)) (b_Comparison_open_again G) .nil passL (pa_cons (pe_ix (r := rIxT K) ix_tup (pv 1) pe_int (fun _ _ => rfl)) pa_nil)))) pss_nil) (pss_one (ps_ret (pe_ifExp (pt_cmpR op_eq (pv 2) pe_str (nomark _)) (pe_meth0 (pv 0) (G.cls 27 rfl) (G.meth 57 rfl) ok_Comparison_undo (hr.mono (by decide)) (b_Comparison_undo G) .nil passL) (pe_meth0 (pv 0) (G.cls 27 rfl) (G.meth 58 rfl) ok_Comparison_redo (hr.mono (by decide)) (b_Comparison_redo G) .nil passL)))))))))))), ?_⟩
  try dsimp only [cxOf]
  rintro ds μ W X ⟨_, _, rfl, c, a, sts, k, s, e, p, rfl, h, rfl, hd, w⟩
  have hc := h.cell
  repeat ac_rfl
  refine rw_ixT (d := .str e.word) atI_zero ?_
  cases e with
  | own l =>
    repeat ac_rfl
    refine rw_ixT (d := lnD l) rfl ?_
    repeat ac_rfl
    refine rw_ixT (d := .int l.1) rfl ?_
    repeat ac_rfl
    refine rw_ixT (d := lnD l) rfl ?_
    repeat ac_rfl
    refine rw_ixT (d := .int l.2.1) rfl ?_
    repeat ac_rfl
    refine rw_ixT (d := lnD l) rfl ?_
    repeat ac_rfl
    refine rw_ixT (d := .int l.2.2) rfl ?_
    repeat ac_rfl
    exact ⟨c, a, sts, k, s, l.1, l.2.1, l.2.2, rfl, h, rfl, rfl, rfl, ends_of hd w⟩
  | other l =>
    repeat ac_rfl
    refine rw_ixT (d := lnD l) rfl ?_
    repeat ac_rfl
    refine rw_ixT (d := .int l.1) rfl ?_
    repeat ac_rfl
    refine rw_ixT (d := lnD l) rfl ?_
    repeat ac_rfl
    refine rw_ixT (d := .int l.2.1) rfl ?_
    repeat ac_rfl
    refine rw_ixT (d := lnD l) rfl ?_
    repeat ac_rfl
    refine rw_ixT (d := .int l.2.2) rfl ?_
    repeat ac_rfl
    exact ⟨c, a, sts, k, s, l.1, l.2.1, l.2.2, rfl, h, rfl, rfl, rfl, ends_of hd w⟩
  | dropOwn i =>
    repeat ac_rfl
    refine rw_ixT (d := .int i) rfl ?_
    repeat ac_rfl
    exact ⟨c, a, sts, k, s, i, rfl, h, rfl, ends_of hd w⟩
  | dropOther i =>
    repeat ac_rfl
    refine rw_ixT (d := .int i) rfl ?_
    repeat ac_rfl
    exact ⟨c, a, sts, k, s, i, rfl, h, rfl, ends_of hd w⟩
  | price i =>
    repeat ac_rfl
    refine rw_ixT (d := .int i) rfl ?_
    repeat ac_rfl
    exact ⟨c, a, sts, k, s, i, rfl, h, rfl, ends_of hd w⟩
  | confirm i j =>
    repeat ac_rfl
    refine rw_ixT (d := .int i) rfl ?_
    repeat ac_rfl
    refine rw_ixT (d := .int j) rfl ?_
    repeat ac_rfl
    exact ⟨c, a, sts, k, s, i, j, rfl, h, rfl, rfl, ends_of hd w⟩
  | again i =>
    repeat ac_rfl
    refine rw_ixT (d := .int i) rfl ?_
    repeat ac_rfl
    exact ⟨c, a, sts, k, s, i, rfl, h, rfl, ends_of hd w⟩
  | undo =>
    repeat ac_rfl
    have hd' : (if 1 ≤ k then some (sts, k - 1) else none) = some p := hd
    by_cases hk : 1 ≤ k
    · rw [if_pos hk] at hd'
      cases hd'
      exact ⟨c, a, sts, k, rfl, hc, .inr ⟨hk, w⟩⟩
    · rw [if_neg hk] at hd'
      cases hd'
  | redo =>
    repeat ac_rfl
    have hd' : (if k + 1 ≠ sts.length then some (sts, k + 1) else none) = some p := hd
    by_cases hk : k + 1 ≠ sts.length
    · rw [if_pos hk] at hd'
      cases hd'
      exact ⟨c, a, sts, k, rfl, hc, .inr ⟨hk, w⟩⟩
    · rw [if_neg hk] at hd'
      cases hd'
def q_law_free (b : Dt) : Post := fun μ W _ => ∃ (c : Nat) (a : Addr) (sts : List Stt) (k : Nat) (s : Stt), b = .ref a ∧ μ[c]? = some (a, boxMo sts k) ∧ sts[k]? = some s ∧ s.own.length ≤ 1000 ∧ s.other.length ≤ 1000 ∧ s.fixed.length ≤ 1000 ∧
  W (.tup [.lst (((ids s.own).filter fun i => decide (i ∉ s.fixed.map (·.1))).map .int), .lst (((ids s.other).filter fun i => decide (i ∉ s.fixed.map (·.2))).map .int)]) μ
abbrev sp__law_free (_ : Frag) : DSp := sp1 q_law_free
theorem ok__law_free {P : Program} {w : World} {K : Frag} {mg : Str → Option Value} {base : Heap} (G : Good fa fn K mg) : FnOk P w K mg base (L2.CX P w) 2 (gA "_law_free" K) (fdOf K (gA "_law_free" K)) ["box"] (spD K (sp__law_free K)) := by
  have ok__law_now : FnOk P w K mg base (L2.CX P w) 1 (gA "_law_now" K) (fdOf K (gA "_law_now" K)) ["box"] (spD K (sp__law_now K)) := ok__law_now G
  refine ok_defN 8 rfl rfl (G.def_ 44 rfl) sc__law_free len1 fun cdv A outer s0 H E hr => ⟨_, (pss_cons (ps_asg (pe_call ok__law_now (hr.mono (by decide)) rfl (G.glo 48 rfl) (G.def_ 40 rfl).kp (b__law_now G) .nil passL (pa_cons (pv 0) pa_nil)) (pg_tup (n := 4) rfl (pgs_cons (pg_name (i := 1) sc__law_free.nd rfl (Or.inl rfl)) (pgs_cons (pg_name (i := 2) sc__law_free.nd rfl (Or.inl rfl)) (pgs_cons (pg_name (i := 3) sc__law_free.nd rfl (Or.inl rfl)) (pgs_cons (pg_name (i := 4) sc__law_free.nd rfl (Or.inr rfl)) pgs_nil)))))) (pss_cons (ps_setLc (i := 5) (own := [("line", 6)]) (g := (gName 6)) (tt := _) rfl sc__law_free.nd rfl rfl (sw_true rfl rfl rfl (by decide +kernel)) (pi_listK K (pv 1)) (blkOk_by (N := N__law_free) (sc := defScope s__law_free) (by decide +kernel)) (fun _ _ _ _ _ => (pg_name (i := 6) sc__law_free.nd rfl (Or.inl rfl))) (fun _ _ _ _ _ => (pts_one (pt_cmpR (r := rIn K true) op_notIn_seq (pe_ix (r := rIxT K) ix_tup (pv 6) pe_int (fun _ _ => rfl)) (pe_lc (own := [("pair", 7)]) (g := (gName 7)) (tt := tYes) rfl sc__law_free.nd (pi_listK K (pv 4)) (blkOk_by (by with_unfolding_all rfl)) (fun _ _ _ _ _ => (pg_name (i := 7) sc__law_free.nd rfl (Or.inl rfl))) (fun _ _ _ _ _ => pts_nil) (fun _ _ _ _ _ => (pe_ix (r := rIxT K) ix_tup (pv 7) pe_int (fun _ _ => rfl)))) rfl))) (fun _ _ _ _ _ => (pe_ix (r := rIxT K) ix_tup (pv 6) pe_int (fun _ _ => rfl)))) (pss_one (ps_ret (pe_tup (pa_cons (pv 5) (pa_cons (pe_lc (own := [("line", 6)]) (g := (gName 6)) (tt := _) rfl sc__law_free.nd (pi_listK K (pv 2)) (blkOk_by (N := N__law_free) (sc := defScope s__law_free) (by decide +kernel)) (fun _ _ _ _ _ => (pg_name (i := 6) sc__law_free.nd rfl (Or.inl rfl))) (fun _ _ _ _ _ => (pts_one (pt_cmpR (r := rIn K true) op_notIn_seq (pe_ix (r := rIxT K) ix_tup (pv 6) pe_int (fun _ _ => rfl)) (pe_lc (own := [("pair", 7)]) (g := (gName 7)) (tt := tYes) rfl sc__law_free.nd (pi_listK K (pv 4)) (blkOk_by (by with_unfolding_all rfl)) (fun _ _ _ _ _ => (pg_name (i := 7) sc__law_free.nd rfl (Or.inl rfl))) (fun _ _ _ _ _ => pts_nil) (fun _ _ _ _ _ => (pe_ix (r := rIxT K) ix_tup (pv 7) pe_int (fun _ _ => rfl)))) rfl))) (fun _ _ _ _ _ => (pe_ix (r := rIxT K) ix_tup (pv 6) pe_int (fun _ _ => rfl)))) pa_nil))))))), ?_⟩
  try dsimp only [cxOf]
  rintro ds μ W X ⟨_, rfl, c, a, sts, k, s, rfl, hc, hn, l1, l2, l3, w⟩
  repeat ac_rfl
  refine ⟨c, a, sts, k, s, rfl, hc, hn, ?_⟩
  repeat ac_rfl
  have e1 : ((s.own.filter fun l => decide (l.1 ∉ s.fixed.map (·.1))).map fun l => Dt.int l.1) = ((ids s.own).filter fun i => decide (i ∉ s.fixed.map (·.1))).map Dt.int := by unfold ids; rw [List.filter_map, List.map_map]; rfl
  have g1 : s.fixed.map (fun r => Dt.int r.1) = (s.fixed.map (·.1)).map Dt.int := by rw [List.map_map]; rfl
  refine wp_lcX lnD (fun l => decide (l.1 ∉ s.fixed.map (·.1))) (fun l => .int l.1) onto_name mono_name (wpi_list ?_)
  repeat ac_rfl
  refine ⟨s.own, rfl, by omega, fun l hl => ?_, ?_⟩
  · repeat ac_rfl
    refine rw_ixT (d := .int l.1) rfl ?_
    refine wp_lc0 prD (fun r => .int r.1) onto_name mono_name (wpi_list ?_)
    repeat ac_rfl
    refine ⟨s.fixed, rfl, by omega, fun q hq => ?_, ?_⟩
    · repeat ac_rfl
      exact rw_ixT (d := .int q.1) rfl ⟨rfl, rfl⟩
    rw [g1]
    refine rw_inI (neg := true) (.inl isl) ?_
    repeat ac_rfl
    refine it2 (fun e => ⟨by simpa using e, ?_⟩) fun e => ⟨by simpa using e, rfl⟩
    repeat ac_rfl
    exact rw_ixT (d := .int l.1) rfl ⟨rfl, rfl⟩
  rw [e1]
  repeat ac_rfl
  have e2 : ((s.other.filter fun l => decide (l.1 ∉ s.fixed.map (·.2))).map fun l => Dt.int l.1) = ((ids s.other).filter fun i => decide (i ∉ s.fixed.map (·.2))).map Dt.int := by unfold ids; rw [List.filter_map, List.map_map]; rfl
  have g2 : s.fixed.map (fun r => Dt.int r.2) = (s.fixed.map (·.2)).map Dt.int := by rw [List.map_map]; rfl
  refine wp_lcX lnD (fun l => decide (l.1 ∉ s.fixed.map (·.2))) (fun l => .int l.1) onto_name mono_name (wpi_list ?_)
  repeat ac_rfl
  refine ⟨s.other, rfl, by omega, fun l hl => ?_, ?_⟩
  · repeat ac_rfl
    refine rw_ixT (d := .int l.1) rfl ?_
    refine wp_lc0 prD (fun r => .int r.2) onto_name mono_name (wpi_list ?_)
    repeat ac_rfl
    refine ⟨s.fixed, rfl, by omega, fun q hq => ?_, ?_⟩
    · repeat ac_rfl
      exact rw_ixT (d := .int q.2) rfl ⟨rfl, rfl⟩
    rw [g2]
    refine rw_inI (neg := true) (.inl isl) ?_
    repeat ac_rfl
    refine it2 (fun e => ⟨by simpa using e, ?_⟩) fun e => ⟨by simpa using e, rfl⟩
    repeat ac_rfl
    exact rw_ixT (d := .int l.1) rfl ⟨rfl, rfl⟩
  rw [e2]
  repeat ac_rfl
  exact w



def q__law_far (s : Dt) : Post := fun μ W _ => ∃ (c : Nat) (a : Addr), s = .ref a ∧ StrAt μ c a ∧ ∀ r x, 0 ≤ r → r ≤ 1000000 → StrAt (μ.set c (a, x)) c a → W (.int r) (μ.set c (a, x))
abbrev sp__law_far (_ : Frag) : DSp := sp1 q__law_far
theorem ok__law_far {P : Program} {w : World} {K : Frag} {mg : Str → Option Value} {base : Heap} (G : Good fa fn K mg) : FnOk P w K mg base (L2.CX P w) 3 (gA "_law_far" K) (fdOf K (gA "_law_far" K)) ["stream"] (spD K (sp__law_far K)) := by
  have ok__law_draw : FnOk P w K mg base (L2.CX P w) 1 (gA "_law_draw" K) (fdOf K (gA "_law_draw" K)) ["stream", "size"] (spD K (sp__law_draw K)) := ok__law_draw G
  have ok__law_choose : FnOk P w K mg base (L2.CX P w) 2 (gA "_law_choose" K) (fdOf K (gA "_law_choose" K)) ["stream", "items"] (spD K (sp__law_choose K)) := ok__law_choose G
  refine ok_defN 2 rfl rfl (G.def_ 45 rfl) sc__law_far len1 fun cdv A outer s0 H E hr => ⟨_, (pss_cons (ps_set (i := 1) sc__law_far.nd rfl (Or.inl rfl) (pe_op op_rep (pe_lst (pa_cons (pe_call ok__law_draw (hr.mono (by decide)) rfl (G.glo 47 rfl) (G.def_ 37 rfl).kp (b__law_draw G) .nil passL (pa_cons (pv 0) (pa_cons pe_int pa_nil))) pa_nil)) pe_int)) (pss_one (ps_ret (pe_call ok__law_choose (hr.mono (by decide)) rfl (G.glo 59 rfl) (G.def_ 39 rfl).kp (b__law_choose G) .nil passL (pa_cons (pv 0) (pa_cons (pe_op op_cat (pv 1) (pe_lst (pa_cons pe_int (pa_cons pe_int (pa_cons pe_int (pa_cons pe_int (pa_cons pe_int (pa_cons pe_int (pa_cons (pe_op op_powB pe_int pe_int) (pa_cons (pe_call ok__law_draw (hr.mono (by decide)) rfl (G.glo 47 rfl) (G.def_ 37 rfl).kp (b__law_draw G) .nil passL (pa_cons (pv 0) (pa_cons (pe_op op_powB pe_int pe_int) pa_nil))) pa_nil)))))))))) pa_nil)))))), ?_⟩
  try dsimp only [cxOf]
  rintro ds μ W X ⟨_, rfl, c, a, rfl, hs, w⟩
  repeat infer_instance
  refine ⟨c, a, 9, rfl, rfl, hs, by decide, by decide, fun r x r0 r1 hs1 => ?_⟩
  repeat infer_instance
  refine rw_rep (ds := [.int r]) isl (by decide) (Nat.le_of_ble_eq_true rfl) ?_
  rw [show (List.replicate (6 : Int).toNat [Dt.int r]).flatten = [r, r, r, r, r, r].map Dt.int from rfl]
  repeat infer_instance
  refine rw_I (show CPowB 10 6 from ⟨by decide, by decide +kernel⟩) (fun _ => .int _) ?_
  rw [show (10 : Int) ^ (6 : Int).toNat = 1000000 from by decide +kernel]
  repeat infer_instance
  refine rw_I (show CPowB 10 6 from ⟨by decide, by decide +kernel⟩) (fun _ => .int _) ?_
  rw [show (10 : Int) ^ (6 : Int).toNat = 1000000 from by decide +kernel]
  repeat infer_instance
  refine ⟨c, a, 1000000, rfl, rfl, hs1, by decide, by decide, fun r2 x2 r20 r21 hs2 => ?_⟩
  rw [List.set_set] at hs2 ⊢
  repeat infer_instance
  refine rw_cat (ds := [r, r, r, r, r, r].map Dt.int) (es := [9, 10, 11, 30, 99, 100, 1000000, r2].map Dt.int) isl isl (Nat.le_of_ble_eq_true rfl) ?_
  rw [← List.map_append]
  repeat infer_instance
  refine chooseM Dt.int hs2 (by simp) (by simp) fun f x3 hf hs3 => ?_
  rw [List.set_set] at hs3 ⊢
  simp at hf
  exact w f x3 (by omega) (by omega) hs3
abbrev sp__law_deed (_ : Frag) : DSp := sp3 (q_law_deed 8)
theorem ok__law_deed {P : Program} {w : World} {K : Frag} {mg : Str → Option Value} {base : Heap} (G : Good fa fn K mg) : FnOk P w K mg base (L2.CX P w) 4 (gA "_law_deed" K) (fdOf K (gA "_law_deed" K)) ["stream", "box", "words"] (spD K (sp__law_deed K)) := by
  have ok__law_now : FnOk P w K mg base (L2.CX P w) 1 (gA "_law_now" K) (fdOf K (gA "_law_now" K)) ["box"] (spD K (sp__law_now K)) := ok__law_now G
  have ok__law_free : FnOk P w K mg base (L2.CX P w) 2 (gA "_law_free" K) (fdOf K (gA "_law_free" K)) ["box"] (spD K (sp__law_free K)) := ok__law_free G
  have ok__law_choose : FnOk P w K mg base (L2.CX P w) 2 (gA "_law_choose" K) (fdOf K (gA "_law_choose" K)) ["stream", "items"] (spD K (sp__law_choose K)) := ok__law_choose G
  have ok__law_far : FnOk P w K mg base (L2.CX P w) 3 (gA "_law_far" K) (fdOf K (gA "_law_far" K)) ["stream"] (spD K (sp__law_far K)) := ok__law_far G
  refine ok_defN 16 rfl rfl (G.def_ 46 rfl) sc__law_deed len3 fun cdv A outer s0 H E hr => ⟨_, (pss_cons (ps_asg (pe_call ok__law_now (hr.mono (by decide)) rfl (G.glo 48 rfl) (G.def_ 40 rfl).kp (b__law_now G) .nil passL (pa_cons (pv 1) pa_nil)) (pg_tup (n := 4) rfl (pgs_cons (pg_name (i := 3) sc__law_deed.nd rfl (Or.inl rfl)) (pgs_cons (pg_name (i := 4) sc__law_deed.nd rfl (Or.inl rfl)) (pgs_cons (pg_name (i := 5) sc__law_deed.nd rfl (Or.inl rfl)) (pgs_cons (pg_name (i := 6) sc__law_deed.nd rfl (Or.inl rfl)) pgs_nil)))))) (pss_cons (ps_asg (pe_call ok__law_free (hr.mono (by decide)) rfl (G.glo 60 rfl) (G.def_ 44 rfl).kp (b__law_free G) .nil passL (pa_cons (pv 1) pa_nil)) (pg_tup (n := 2) rfl (pgs_cons (pg_name (i := 7) sc__law_deed.nd rfl (Or.inl rfl)) (pgs_cons (pg_name (i := 8) sc__law_deed.nd rfl (Or.inl rfl)) pgs_nil)))) (pss_cons (ps_set (i := 9) sc__law_deed.nd rfl (Or.inl rfl) (pe_call ok__law_choose (hr.mono (by decide)) rfl (G.glo 59 rfl) (G.def_ 39 rfl).kp (b__law_choose G) .nil passL (pa_cons (pv 0) (pa_cons (pv 2) pa_nil)))) (pss_cons (ps_if (PW.pt (pw_and (pt_cmpR op_eq (pv 9) pe_str (nomark _)) (pw_and1 (pt_cmpR (r := rNeD K) (op_neD (hu64 hr)) (pv 3) (pe_lst pa_nil) (nomark _))))) (pss_one (ps_ret (pe_tup (pa_cons (pv 9) (pa_cons (pe_ix (r := rIxT K) ix_tup (pe_call ok__law_choose (hr.mono (by decide)) rfl (G.glo 59 rfl) (G.def_ 39 rfl).kp (b__law_choose G) .nil passL (pa_cons (pv 0) (pa_cons (pv 3) pa_nil))) pe_int (fun _ _ => rfl)) pa_nil))))) pss_nil) (pss_cons (ps_if (PW.pt (pw_and (pt_cmpR op_eq (pv 9) pe_str (nomark _)) (pw_and1 (pt_cmpR (r := rNeD K) (op_neD (hu64 hr)) (pv 4) (pe_lst pa_nil) (nomark _))))) (pss_one (ps_ret (pe_tup (pa_cons (pv 9) (pa_cons (pe_ix (r := rIxT K) ix_tup (pe_call ok__law_choose (hr.mono (by decide)) rfl (G.glo 59 rfl) (G.def_ 39 rfl).kp (b__law_choose G) .nil passL (pa_cons (pv 0) (pa_cons (pv 4) pa_nil))) pe_int (fun _ _ => rfl)) pa_nil))))) pss_nil) (pss_cons (ps_if (PW.pt (pw_and (pt_cmpR op_eq (pv 9) pe_str (nomark _)) (pw_and (pt_cmpR (r := rNeD K) (op_neD (hu64 hr)) (pv 7) (pe_lst pa_nil) (nomark _)) (pw_and1 (pt_cmpR (r := rNeD K) (op_neD (hu64 hr)) (pv 8) (pe_lst pa_nil) (nomark _)))))) (pss_one (ps_ret (pe_tup (pa_cons (pv 9) (pa_cons (pe_call ok__law_choose (hr.mono (by decide)) rfl (G.glo 59 rfl) (G.def_ 39 rfl).kp (b__law_choose G) .nil passL (pa_cons (pv 0) (pa_cons (pv 7) pa_nil))) (pa_cons (pe_call ok__law_choose (hr.mono (by decide)) rfl (G.glo 59 rfl) (G.def_ 39 rfl).kp (b__law_choose G) .nil passL (pa_cons (pv 0) (pa_cons (pv 8) pa_nil))) pa_nil)))))) pss_nil) (pss_cons (ps_if (PW.pt (pw_and (pt_cmpR op_eq (pv 9) pe_str (nomark _)) (pw_and1 (pt_cmpR (r := rNeD K) (op_neD (hu64 hr)) (pv 6) (pe_lst pa_nil) (nomark _))))) (pss_one (ps_ret (pe_tup (pa_cons (pv 9) (pa_cons (pe_ix (r := rIxT K) ix_tup (pe_call ok__law_choose (hr.mono (by decide)) rfl (G.glo 59 rfl) (G.def_ 39 rfl).kp (b__law_choose G) .nil passL (pa_cons (pv 0) (pa_cons (pv 6) pa_nil))) pe_int (fun _ _ => rfl)) pa_nil))))) pss_nil) (pss_cons (ps_if (pt_cmpR op_eq (pv 9) pe_str (nomark _)) (pss_one (ps_ret (pe_tup (pa_cons (pv 9) (pa_cons (pe_call ok__law_choose (hr.mono (by decide)) rfl (G.glo 59 rfl) (G.def_ 39 rfl).kp (b__law_choose G) .nil passL (pa_cons (pv 0) (pa_cons (pe_lst (pa_cons pe_int (pa_cons pe_int (pa_cons pe_int (pa_cons pe_int (pa_cons pe_int (pa_cons pe_int (pa_cons pe_int (pa_cons pe_int (pa_cons (pe_op op_powB pe_int pe_int) (pa_cons (pe_op op_powB pe_int pe_int) pa_nil))))))))))) pa_nil))) pa_nil))))) pss_nil) (pss_cons (ps_if (PW.pt (pw_or (PW.pt (pw_and (pt_cmpR op_eq (pv 9) pe_str (nomark _)) (pw_and1 (pt_cmpR op_gt (pe_dget (hu_of hr) (pv 1) pe_str (fun _ _ => rfl)) pe_int (nomark _))))) (pw_or1 (PW.pt (pw_and (pt_cmpR op_eq (pv 9) pe_str (nomark _)) (pw_and1 (pt_cmpR op_lt (pe_op op_add (pe_dget (hu_of hr) (pv 1) pe_str (fun _ _ => rfl)) pe_int) (pe_callB (r := Evl.rLenS K) cr_len rfl (G.free 5 rfl) (by rfl) (pa_cons (pe_dget (hu_of hr) (pv 1) pe_str (fun _ _ => rfl)) pa_nil)) (nomark _)))))))) (pss_one (ps_ret (pe_tup (pa_cons (pv 9) pa_nil)))) pss_nil) (pss_cons (ps_set (i := 9) sc__law_deed.nd rfl (Or.inl rfl) (pe_call ok__law_choose (hr.mono (by decide)) rfl (G.glo 59 rfl) (G.def_ 39 rfl).kp (b__law_choose G) .nil passL (pa_cons (pv 0) (pa_cons (pe_lst (pa_cons pe_str (pa_cons pe_str pa_nil))) pa_nil)))) (pss_cons (ps_set (i := 10) sc__law_deed.nd rfl (Or.inr rfl) (pe_ifExp (pt_cmpR op_eq (pv 9) pe_str (nomark _)) (pv 3) (pv 4))) (pss_cons (ps_if (pt_cmpR op_gt (pe_callB (r := Evl.rLenS K) cr_len rfl (G.free 5 rfl) (by rfl) (pa_cons (pv 10) pa_nil)) pe_int (nomark _)) (pss_one (ps_ret (pe_tup (pa_cons (pe_op op_catS pe_str (pv 9)) (pa_cons (pe_ix (r := rIxT K) ix_tup (pe_ix (r := rIxL K) ix_list (pv 10) pe_int (fun _ _ => rfl)) pe_int (fun _ _ => rfl)) pa_nil))))) pss_nil) (pss_cons (ps_setLc (i := 11) (own := [("one", 14)]) (g := (gName 14)) (tt := _) rfl sc__law_deed.nd rfl rfl (sw_true rfl rfl rfl (by decide +kernel)) (pi_range2 rfl (G.free 61 rfl) (pa_cons pe_int (pa_cons pe_int pa_nil))) (blkOk_by (N := N__law_deed) (sc := defScope s__law_deed) (by decide +kernel)) (fun _ _ _ _ _ => (pg_name (i := 14) sc__law_deed.nd rfl (Or.inl rfl))) (fun _ _ _ _ _ => (pts_one (pt_cmpR (r := rIn K true) op_notIn_seq (pv 14) (pe_lc (own := [("line", 15)]) (g := (gName 15)) (tt := tYes) rfl sc__law_deed.nd (pi_listK K (pv 10)) (blkOk_by (by with_unfolding_all rfl)) (fun _ _ _ _ _ => (pg_name (i := 15) sc__law_deed.nd rfl (Or.inl rfl))) (fun _ _ _ _ _ => pts_nil) (fun _ _ _ _ _ => (pe_ix (r := rIxT K) ix_tup (pv 15) pe_int (fun _ _ => rfl)))) rfl))) (fun _ _ _ _ _ => (pv 14))) (pss_cons (ps_par (i := 12) (j := 13) rfl sc__law_deed.nd rfl rfl (by decide) rfl rfl (pa_cons (pe_call ok__law_choose (hr.mono (by decide)) rfl (G.glo 59 rfl) (G.def_ 39 rfl).kp (b__law_choose G) .nil passL (pa_cons (pv 0) (pa_cons (pv 11) pa_nil))) (pa_cons (pe_call ok__law_choose (hr.mono (by decide)) rfl (G.glo 59 rfl) (G.def_ 39 rfl).kp (b__law_choose G) .nil passL (pa_cons (pv 0) (pa_cons (pe_lst (pa_cons pe_int (pa_cons pe_int (pa_cons pe_int (pa_cons (pe_op op_sub pe_int pe_int) pa_nil))))) pa_nil))) pa_nil)) rfl) (pss_one (ps_ret (pe_tup (pa_cons (pv 9) (pa_cons (pe_tup (pa_cons (pv 12) (pa_cons (pe_call ok__law_far (hr.mono (by decide)) rfl (G.glo 62 rfl) (G.def_ 45 rfl).kp (b__law_far G) .nil passL (pa_cons (pv 0) pa_nil)) (pa_cons (pv 13) pa_nil)))) pa_nil))))))))))))))))))), ?_⟩
  try dsimp only [cxOf]
  rintro ds μ W X ⟨_, _, _, rfl, c, a, c', a', sts, k, t, us, rfl, hs, rfl, hb, hn, v, hf, rfl, u1, u2, w⟩
  have v1 := v.l1
  have v2 := v.l2
  have v3 := v.few
  have hne := hs.ne hb
  repeat ac_rfl
  refine ⟨c', a', sts, k, t, rfl, hb, hn, ?_⟩
  repeat ac_rfl
  refine ⟨c', a', sts, k, t, rfl, hb, hn, by omega, by omega, by omega, ?_⟩
  repeat ac_rfl
  refine chooseM Dt.str hs u1 (by omega) fun y x hy hs1 => ?_
  have hb1 : (μ.set c (a, x))[c']? = some (a', boxMo sts k) := at_setN hb hne
  have again : ∀ {d : Dt} {x' : Mo}, W d (μ.set c (a, x')) → W d ((μ.set c (a, x)).set c (a, x')) := fun h => by rw [List.set_set]; exact h
  have hs2 : ∀ {x'}, StrAt ((μ.set c (a, x)).set c (a, x')) c a → StrAt (μ.set c (a, x')) c a := fun h => by rw [List.set_set] at h; exact h
  refine wpg_name (wps_seq (wps_if1 (p := decide (y = "drop own") && !decide (t.own = [])) (pt1_and ?_ fun _ => ?_) ?_ ?_))
  · unfold PT1
    repeat ac_rfl
    exact ⟨rfl, rfl⟩
  · unfold PT1
    repeat ac_rfl
    refine rw_ne_lns (ys := []) isl isl ?_
    repeat ac_rfl
    exact ⟨rfl, rfl⟩
  · intro e
    obtain ⟨rfl, e2⟩ : y = "drop own" ∧ t.own ≠ [] := by simpa using e
    repeat ac_rfl
    refine chooseM lnD hs1 (by have := List.length_pos_iff.mpr e2; omega) (by omega) fun l x2 hl hs3 => ?_
    repeat ac_rfl
    refine rw_ixT (d := .int l.1) rfl ?_
    repeat ac_rfl
    exact again (w (.dropOwn l.1) x2 (List.mem_map.mpr ⟨l, hl, rfl⟩) (hs2 hs3) ⟨(fun h => by cases h), (fun h => by cases h)⟩)
  intro _
  refine wps_next (wps_seq (wps_if1 (p := decide (y = "drop other") && !decide (t.other = [])) (pt1_and ?_ fun _ => ?_) ?_ ?_))
  · unfold PT1
    repeat ac_rfl
    exact ⟨rfl, rfl⟩
  · unfold PT1
    repeat ac_rfl
    refine rw_ne_lns (ys := []) isl isl ?_
    repeat ac_rfl
    exact ⟨rfl, rfl⟩
  · intro e
    obtain ⟨rfl, e2⟩ : y = "drop other" ∧ t.other ≠ [] := by simpa using e
    repeat ac_rfl
    refine chooseM lnD hs1 (by have := List.length_pos_iff.mpr e2; omega) (by omega) fun l x2 hl hs3 => ?_
    repeat ac_rfl
    refine rw_ixT (d := .int l.1) rfl ?_
    repeat ac_rfl
    exact again (w (.dropOther l.1) x2 (List.mem_map.mpr ⟨l, hl, rfl⟩) (hs2 hs3) ⟨(fun h => by cases h), (fun h => by cases h)⟩)
  intro _
  have fr1 : ∀ i, i ∈ (ids t.own).filter (fun i => decide (i ∉ t.fixed.map (·.1))) → i ∈ ids t.own ∧ i ∉ t.fixed.map (·.1) := fun i h => by
    obtain ⟨h1, h2⟩ := List.mem_filter.mp h
    exact ⟨h1, by simpa using h2⟩
  have fr2 : ∀ i, i ∈ (ids t.other).filter (fun i => decide (i ∉ t.fixed.map (·.2))) → i ∈ ids t.other ∧ i ∉ t.fixed.map (·.2) := fun i h => by
    obtain ⟨h1, h2⟩ := List.mem_filter.mp h
    exact ⟨h1, by simpa using h2⟩
  have fl1 : ((ids t.own).filter (fun i => decide (i ∉ t.fixed.map (·.1)))).length ≤ 8 := Nat.le_trans (List.length_filter_le _ _) (by unfold ids; rw [List.length_map]; exact v1)
  have fl2 : ((ids t.other).filter (fun i => decide (i ∉ t.fixed.map (·.2)))).length ≤ 8 := Nat.le_trans (List.length_filter_le _ _) (by unfold ids; rw [List.length_map]; exact v2)
  generalize (ids t.own).filter (fun i => decide (i ∉ t.fixed.map (·.1))) = mine at fr1 fl1 ⊢
  generalize (ids t.other).filter (fun i => decide (i ∉ t.fixed.map (·.2))) = theirs at fr2 fl2 ⊢
  refine wps_next (wps_seq (wps_if1 (p := decide (y = "confirm") && (!decide (mine = []) && !decide (theirs = []))) (pt1_and ?_ fun _ => pt1_and ?_ fun _ => ?_) ?_ ?_))
  · unfold PT1
    repeat ac_rfl
    exact ⟨rfl, rfl⟩
  · unfold PT1
    repeat ac_rfl
    refine rw_ne_ints (ys := []) isl isl ?_
    repeat ac_rfl
    exact ⟨rfl, rfl⟩
  · unfold PT1
    repeat ac_rfl
    refine rw_ne_ints (ys := []) isl isl ?_
    repeat ac_rfl
    exact ⟨rfl, rfl⟩
  · intro e
    obtain ⟨rfl, e2, e3⟩ : y = "confirm" ∧ mine ≠ [] ∧ theirs ≠ [] := by simpa using e
    repeat ac_rfl
    refine chooseM Dt.int hs1 (by have := List.length_pos_iff.mpr e2; omega) (by omega) fun i x2 hi hs3 => ?_
    repeat ac_rfl
    refine chooseM Dt.int hs3 (by have := List.length_pos_iff.mpr e3; omega) (by omega) fun j x3 hj hs4 => ?_
    repeat ac_rfl
    rw [List.set_set, List.set_set] at hs4 ⊢
    exact w (.confirm i j) x3 ⟨fr1 i hi, fr2 j hj⟩ hs4 ⟨(fun h => by cases h), (fun h => by cases h)⟩
  intro _
  refine wps_next (wps_seq (wps_if1 (p := decide (y = "open") && !decide (t.fixed = [])) (pt1_and ?_ fun _ => ?_) ?_ ?_))
  · unfold PT1
    repeat ac_rfl
    exact ⟨rfl, rfl⟩
  · unfold PT1
    repeat ac_rfl
    refine rw_ne_prs (ys := []) isl isl ?_
    repeat ac_rfl
    exact ⟨rfl, rfl⟩
  · intro e
    obtain ⟨rfl, e2⟩ : y = "open" ∧ t.fixed ≠ [] := by simpa using e
    repeat ac_rfl
    refine chooseM prD hs1 (by have := List.length_pos_iff.mpr e2; omega) (by omega) fun l x2 hl hs3 => ?_
    repeat ac_rfl
    refine rw_ixT (d := .int l.1) rfl ?_
    repeat ac_rfl
    exact again (w (.again l.1) x2 (List.mem_map.mpr ⟨l, hl, rfl⟩) (hs2 hs3) ⟨(fun h => by cases h), (fun h => by cases h)⟩)
  intro _
  refine wps_next (wps_seq (wps_if1 (p := decide (y = "price")) ?_ ?_ ?_))
  · unfold PT1
    repeat ac_rfl
    exact ⟨rfl, rfl⟩
  · intro e
    obtain rfl : y = "price" := by simpa using e
    repeat ac_rfl
    refine rw_I (show CPowB 10 6 from ⟨by decide, by decide +kernel⟩) (fun _ => .int _) ?_
    have e6 : (10 : Int) ^ (6 : Int).toNat = 1000000 := by decide +kernel
    rw [e6]
    repeat ac_rfl
    refine rw_I (show CPowB 10 12 from ⟨by decide, by decide +kernel⟩) (fun _ => .int _) ?_
    have e12 : (10 : Int) ^ (12 : Int).toNat = 1000000000000 := by decide +kernel
    rw [e12]
    repeat ac_rfl
    refine chooseM Dt.int (xs := [0, 1, 2, 3, 5, 9, 30, 100, 1000000, 1000000000000]) hs1 (by decide) (by decide) fun p x2 hp hs3 => ?_
    repeat ac_rfl
    have hpo : priceOk p = true := by
      simp at hp
      rcases hp with rfl | rfl | rfl | rfl | rfl | rfl | rfl | rfl | rfl | rfl <;> decide
    exact again (w (.price p) x2 hpo (hs2 hs3) ⟨(fun h => by cases h), (fun h => by cases h)⟩)
  intro _
  refine wps_next (wps_seq (wps_if1 (p := decide (y = "undo") && decide (0 < (k : Int)) || (decide (y = "redo") && decide ((k : Int) + 1 < (sts.length : Nat)))) (pt1_or (pt1_and ?_ fun _ => ?_) fun _ => pt1_and ?_ fun _ => ?_) ?_ ?_))
  · unfold PT1
    repeat ac_rfl
    exact ⟨rfl, rfl⟩
  · unfold PT1
    repeat ac_rfl
    exact ⟨rfl, rfl⟩
  · unfold PT1
    repeat ac_rfl
    exact ⟨rfl, rfl⟩
  · unfold PT1
    repeat ac_rfl
    refine rw_len (ds := sts.map tsD) (.inl isl) ?_
    rw [List.length_map]
    repeat ac_rfl
    exact ⟨rfl, rfl⟩
  · intro e
    have e' : (y = "undo" ∧ 0 < k) ∨ (y = "redo" ∧ k + 1 < sts.length) := by
      simp at e
      rcases e with ⟨h1, h2⟩ | ⟨h1, h2⟩
      · exact .inl ⟨h1, by omega⟩
      · exact .inr ⟨h1, by omega⟩
    rcases e' with ⟨rfl, h2⟩ | ⟨rfl, h2⟩
    · repeat ac_rfl
      exact w .undo x h2 hs1 ⟨fun _ => hy, fun h => by cases h⟩
    · repeat ac_rfl
      exact w .redo x h2 hs1 ⟨(fun h => by cases h), fun _ => hy⟩
  intro _
  refine wps_next ?_
  repeat ac_rfl
  refine chooseM Dt.str (xs := ["own", "other"]) hs1 (by decide) (by decide) fun z x2 hz hs3 => ?_
  rw [List.set_set] at hs3 ⊢
  have hb2 : (μ.set c (a, x2))[c']? = some (a', boxMo sts k) := at_setN hb hne
  clear hs1 hb1 again hs2
  have hz' : z = "own" ∨ z = "other" := by simpa using hz
  rcases hz' with rfl | rfl
  · repeat ac_rfl
    refine rw_len (ds := t.own.map lnD) (.inl isl) ?_
    rw [List.length_map]
    repeat ac_rfl
    refine it2 (fun e => ?_) fun e => ?_
    · repeat ac_rfl
      refine rw_catS (by decide) ?_
      repeat ac_rfl
      have hl : 0 < t.own.length := by simp at e; omega
      refine rw_ixL (atI_map (enc := lnD) (k := 0) (List.getElem?_eq_getElem hl)) ?_
      repeat ac_rfl
      refine rw_ixT (d := .int (t.own[0]).1) rfl ?_
      repeat ac_rfl
      have ew : ("drop " : Str) ++ ("own" : Str) = "drop own" := by decide +kernel
      rw [ew]
      exact w (.dropOwn (t.own[0]).1) x2 (List.mem_map.mpr ⟨t.own[0], List.getElem_mem hl, rfl⟩) hs3 ⟨(fun h => by cases h), (fun h => by cases h)⟩
    · have hn : t.own.length ≤ 7 := by simp at e; omega
      repeat infer_instance
      apply lcF
      · intro x hx
        repeat infer_instance
        apply lcM Dt.int
        · intro l hl
          repeat infer_instance
        · repeat infer_instance
        · omega
      · repeat infer_instance
        refine chooseM (fun i : Nat => Dt.int (1 + (i : Int))) hs3 (free_ids (m := 7) (by decide) (by rw [List.length_map]; exact hn)) (Nat.le_trans (List.length_filter_le _ _) (by decide)) fun i y1 hi hs4 => ?_
        rw [List.set_set] at hs4 ⊢
        repeat infer_instance
        refine chooseM Dt.int (xs := [100, 100, 100, 0 - 7]) hs4 (by decide) (by decide) fun am y2 ham hs5 => ?_
        rw [List.set_set] at hs5 ⊢
        repeat infer_instance
        refine ⟨_, _, rfl, ?_⟩
        repeat infer_instance
        refine ⟨c, a, rfl, hs5, fun r y3 r0 r1 hs6 => ?_⟩
        rw [List.set_set] at hs6 ⊢
        repeat infer_instance
        obtain ⟨h1, h2⟩ := List.mem_filter.mp hi
        have h1 := List.mem_range.mp h1
        have e29 : (30 - 1 : Int).toNat = 29 := by decide
        rw [e29] at h1
        have h2 : 1 + (i : Int) ∉ ids t.own := fun z => by rw [decide_eq_true (show 1 + (i : Int) ∈ List.map Prod.fst t.own from z)] at h2; cases h2
        have hb1 : 1 ≤ 1 + (i : Int) := by omega
        have hb2 : 1 + (i : Int) ≤ 29 := by omega
        have hok : lineOk (1 + (i : Int)) r am = true := by
          rw [lineOk_iff]
          simp at ham
          refine ⟨⟨hb1, by omega⟩, ⟨r0, by omega⟩, ?_, ?_⟩ <;> omega
        exact w (.own (1 + (i : Int), r, am)) y3 ⟨hok, h2, by omega⟩ hs6 ⟨(fun h => by cases h), (fun h => by cases h)⟩
      · rw [List.length_range]; decide
      · decide
  · repeat ac_rfl
    refine rw_len (ds := t.other.map lnD) (.inl isl) ?_
    rw [List.length_map]
    repeat ac_rfl
    refine it2 (fun e => ?_) fun e => ?_
    · repeat ac_rfl
      refine rw_catS (by decide) ?_
      repeat ac_rfl
      have hl : 0 < t.other.length := by simp at e; omega
      refine rw_ixL (atI_map (enc := lnD) (k := 0) (List.getElem?_eq_getElem hl)) ?_
      repeat ac_rfl
      refine rw_ixT (d := .int (t.other[0]).1) rfl ?_
      repeat ac_rfl
      have ew : ("drop " : Str) ++ ("other" : Str) = "drop other" := by decide +kernel
      rw [ew]
      exact w (.dropOther (t.other[0]).1) x2 (List.mem_map.mpr ⟨t.other[0], List.getElem_mem hl, rfl⟩) hs3 ⟨(fun h => by cases h), (fun h => by cases h)⟩
    · have hn : t.other.length ≤ 7 := by simp at e; omega
      repeat infer_instance
      apply lcF
      · intro x hx
        repeat infer_instance
        apply lcM Dt.int
        · intro l hl
          repeat infer_instance
        · repeat infer_instance
        · omega
      · repeat infer_instance
        refine chooseM (fun i : Nat => Dt.int (1 + (i : Int))) hs3 (free_ids (m := 7) (by decide) (by rw [List.length_map]; exact hn)) (Nat.le_trans (List.length_filter_le _ _) (by decide)) fun i y1 hi hs4 => ?_
        rw [List.set_set] at hs4 ⊢
        repeat infer_instance
        refine chooseM Dt.int (xs := [100, 100, 100, 0 - 7]) hs4 (by decide) (by decide) fun am y2 ham hs5 => ?_
        rw [List.set_set] at hs5 ⊢
        repeat infer_instance
        refine ⟨_, _, rfl, ?_⟩
        repeat infer_instance
        refine ⟨c, a, rfl, hs5, fun r y3 r0 r1 hs6 => ?_⟩
        rw [List.set_set] at hs6 ⊢
        repeat infer_instance
        obtain ⟨h1, h2⟩ := List.mem_filter.mp hi
        have h1 := List.mem_range.mp h1
        have e29 : (30 - 1 : Int).toNat = 29 := by decide
        rw [e29] at h1
        have h2 : 1 + (i : Int) ∉ ids t.other := fun z => by rw [decide_eq_true (show 1 + (i : Int) ∈ List.map Prod.fst t.other from z)] at h2; cases h2
        have hb1 : 1 ≤ 1 + (i : Int) := by omega
        have hb2 : 1 + (i : Int) ≤ 29 := by omega
        have hok : lineOk (1 + (i : Int)) r am = true := by
          rw [lineOk_iff]
          simp at ham
          refine ⟨⟨hb1, by omega⟩, ⟨r0, by omega⟩, ?_, ?_⟩ <;> omega
        exact w (.other (1 + (i : Int), r, am)) y3 ⟨hok, h2, by omega⟩ hs6 ⟨(fun h => by cases h), (fun h => by cases h)⟩
      · rw [List.length_range]; decide
      · decide



abbrev sp__law_begun (K : Frag) : DSp := sp1 (q_law_begun 8 K)
theorem ok__law_begun {P : Program} {w : World} {K : Frag} {mg : Str → Option Value} {base : Heap} (G : Good fa fn K mg) : FnOk P w K mg base (L2.CX P w) 7 (gA "_law_begun" K) (fdOf K (gA "_law_begun" K)) ["stream"] (spD K (sp__law_begun K)) := by
  have ok_Comparison___init__ : FnOk P w K mg base (L2.CX P w) 3 (mA "Comparison" "__init__" K) (fdOf K (mA "Comparison" "__init__" K)) ["self"] (spD K (sp_Comparison___init__ K)) := ok_Comparison___init__ G
  have ok__law_draw : FnOk P w K mg base (L2.CX P w) 1 (gA "_law_draw" K) (fdOf K (gA "_law_draw" K)) ["stream", "size"] (spD K (sp__law_draw K)) := ok__law_draw G
  have ok__law_deed : FnOk P w K mg base (L2.CX P w) 4 (gA "_law_deed" K) (fdOf K (gA "_law_deed" K)) ["stream", "box", "words"] (spD K (sp__law_deed K)) := ok__law_deed G
  have ok__law_play : FnOk P w K mg base (L2.CX P w) 2 (gA "_law_play" K) (fdOf K (gA "_law_play" K)) ["box", "deed"] (spD K (sp__law_play K)) := ok__law_play G
  have ok__law_done : FnOk P w K mg base (L2.CX P w) 6 (gA "_law_done" K) (fdOf K (gA "_law_done" K)) ["book", "deed"] (spD K (sp__law_done K)) := ok__law_done G
  refine ok_defN 5 rfl rfl (G.def_ 47 rfl) sc__law_begun len1 fun cdv A outer s0 H E hr => ⟨_, (pss_cons (ps_par (i := 1) (j := 2) rfl sc__law_begun.nd rfl rfl (by decide) rfl rfl (pa_cons (pe_make0 (G.mkr 14 rfl) ok_Comparison___init__ (hr.mono (by decide)) rfl (G.glo 42 rfl) (b_Comparison___init__ G) .nil passL) (pa_cons (pe_disp (pps_cons pe_str (pe_lst (pa_cons (pe_tup (pa_cons (pe_lst pa_nil) (pa_cons (pe_lst pa_nil) (pa_cons pe_int (pa_cons (pe_lst pa_nil) pa_nil))))) pa_nil)) (pps_cons pe_str pe_int pps_nil)) rfl rfl (by decide) (by decide)) pa_nil)) rfl) (pss_cons (ps_for PassesOwn.leaving rfl (pi_range1 rfl (G.free 61 rfl) (pa_cons (pe_call ok__law_draw (hr.mono (by decide)) rfl (G.glo 47 rfl) (G.def_ 37 rfl).kp (b__law_draw G) .nil passL (pa_cons (pv 0) (pa_cons pe_int pa_nil))) pa_nil)) (pg_name (i := 3) sc__law_begun.nd rfl (Or.inl rfl)) (pss_cons (ps_set (i := 4) sc__law_begun.nd rfl (Or.inl rfl) (pe_call ok__law_deed (hr.mono (by decide)) rfl (G.glo 63 rfl) (G.def_ 46 rfl).kp (b__law_deed G) .nil passL (pa_cons (pv 0) (pa_cons (pv 2) (pa_cons (pe_lst (pa_cons pe_str (pa_cons pe_str (pa_cons pe_str pa_nil)))) pa_nil))))) (pss_cons (ps_expr (pe_call ok__law_play (hr.mono (by decide)) rfl (G.glo 64 rfl) (G.def_ 42 rfl).kp (b__law_play G) .nil passL (pa_cons (pv 2) (pa_cons (pv 4) pa_nil)))) (pss_one (ps_expr (pe_call ok__law_done (hr.mono (by decide)) rfl (G.glo 65 rfl) (G.def_ 43 rfl).kp (b__law_done G) .nil passL (pa_cons (pv 1) (pa_cons (pv 4) pa_nil)))))))) (pss_one (ps_ret (pe_tup (pa_cons (pv 1) (pa_cons (pv 2) pa_nil))))))), ?_⟩
  try dsimp only [cxOf]
  rintro ds μ W X ⟨_, rfl, c, a, rfl, hs, w⟩
  repeat infer_instance
  refine wp_make ?_
  repeat infer_instance
  intro p hp
  repeat infer_instance
  refine ⟨p, _, rfl, rfl, rfl, ?_⟩
  repeat infer_instance
  refine wp_disp fun b hb => ?_
  simp only [WPP]
  repeat infer_instance
  refine ⟨0, [(.inr "states", .lst [tsD ⟨[], [], 0, []⟩]), (.inr "place", .int 0)], rfl, rfl, by decide, ?_⟩
  repeat infer_instance
  refine ⟨_, _, rfl, ?_⟩
  have hpb : p ≠ b := fun e => hb (by subst e; exact List.mem_cons_self)
  have hb' : b ∉ dom μ := fun h => hb (List.mem_cons_of_mem _ h)
  refine wps_seq (wps_for ?_)
  repeat infer_instance
  refine ⟨c + 2, a, 10, rfl, rfl, hs.push.push, by decide, by decide, fun r x r0 r1 hs1 => ?_⟩
  repeat infer_instance
  · refine ⟨fun i ρ' μ' => ∃ x sts k o1 o2, μ' = (b, boxMo sts k) :: (p, cmpMo K sts k) :: μ.set c (a, x) ∧ ρ' = [some (.ref a), some (.ref p), some (.ref b), o1, o2] ∧ Twin 8 sts k (i + 1) ∧ StrAt (μ.set c (a, x)) c a, ?_, ?_, ?_⟩
    · exact ⟨x, [⟨[], [], 0, []⟩], 0, _, _, rfl, rfl, Twin.one (val_zero _), by obtain ⟨dg, sd, h1, h2⟩ := hs1.ex; exact ⟨dg, sd, h1, h2⟩⟩
    · rintro i y ρ' μ' hy ⟨x, sts, k, o1, o2, rfl, rfl, tw, hs2⟩
      have hi : i < 10 := by
        have := (List.getElem?_eq_some_iff.mp hy).1
        simp at this
        omega
      obtain ⟨t, ht, v⟩ := tw.at
      have few := tw.few
      repeat infer_instance
      refine ⟨c + 2, a, 0, b, sts, k, t, ["own", "other", "price"], rfl, hs2.push.push, rfl, rfl, ht, v, by omega, rfl, by decide, by decide, fun e x' ok hs3 hw => ?_⟩
      have hs4 : StrAt ((μ.set c (a, x)).set c (a, x')) c a := by obtain ⟨dg, sd, h1, h2⟩ := hs3.ex; exact ⟨dg, sd, h1, h2⟩
      rw [List.set_set] at hs4
      have nu : e ≠ .undo := fun h => by have := hw.1 h; revert this; decide
      have nr : e ≠ .redo := fun h => by have := hw.2 h; revert this; decide
      simp only [List.set_cons_succ, List.set_set]
      repeat infer_instance
      obtain ⟨b1, b2, b3⟩ := v.le8 (m := 8) (by decide)
      refine ⟨0, b, sts, k, t, e, rfl, rfl, ht, by omega, by omega, by omega, by omega, fun h => absurd (by cases e <;> first | rfl | cases h) nu, rfl, ?_⟩
      simp only [List.set_cons_zero]
      repeat infer_instance
      refine ⟨1, p, sts, k, t, e, _, rfl, tw.cmp ht (by decide) (by omega) rfl, rfl, step_same (m := 8) (by decide) v ok, ?_⟩
      simp only [List.set_cons_zero, List.set_cons_succ]
      repeat infer_instance
      exact ⟨x', _, _, _, _, rfl, rfl, tw.step ht ok, hs4⟩
    · rintro ρ' μ' ⟨x, sts, k, o1, o2, rfl, rfl, tw, hs2⟩
      repeat infer_instance
      refine w x p b sts k hp hb' hpb (tw.le ?_) hs2
      simp
      omega
  · constructor <;> omega
abbrev sp__law_same (K : Frag) : DSp := sp2 (q_law_same K)
theorem ok__law_same {P : Program} {w : World} {K : Frag} {mg : Str → Option Value} {base : Heap} (G : Good fa fn K mg) : FnOk P w K mg base (L2.CX P w) 3 (gA "_law_same" K) (fdOf K (gA "_law_same" K)) ["book", "box"] (spD K (sp__law_same K)) := by
  have ok__law_now : FnOk P w K mg base (L2.CX P w) 1 (gA "_law_now" K) (fdOf K (gA "_law_now" K)) ["box"] (spD K (sp__law_now K)) := ok__law_now G
  have ok_Comparison_own : FnOk P w K mg base (L2.CX P w) 1 (pA "Comparison" "own" K) (fdOf K (pA "Comparison" "own" K)) ["self"] (spD K (sp_Comparison_own K)) := ok_Comparison_own G
  have ok_Comparison_other : FnOk P w K mg base (L2.CX P w) 1 (pA "Comparison" "other" K) (fdOf K (pA "Comparison" "other" K)) ["self"] (spD K (sp_Comparison_other K)) := ok_Comparison_other G
  have ok_Comparison_price : FnOk P w K mg base (L2.CX P w) 1 (pA "Comparison" "price" K) (fdOf K (pA "Comparison" "price" K)) ["self"] (spD K (sp_Comparison_price K)) := ok_Comparison_price G
  have ok_Comparison_confirmed : FnOk P w K mg base (L2.CX P w) 1 (pA "Comparison" "confirmed" K) (fdOf K (pA "Comparison" "confirmed" K)) ["self"] (spD K (sp_Comparison_confirmed K)) := ok_Comparison_confirmed G
  refine ok_defN 6 rfl rfl (G.def_ 48 rfl) sc__law_same len2 fun cdv A outer s0 H E hr => ⟨_, (pss_cons (ps_asg (pe_call ok__law_now (hr.mono (by decide)) rfl (G.glo 48 rfl) (G.def_ 40 rfl).kp (b__law_now G) .nil passL (pa_cons (pv 1) pa_nil)) (pg_tup (n := 4) rfl (pgs_cons (pg_name (i := 2) sc__law_same.nd rfl (Or.inl rfl)) (pgs_cons (pg_name (i := 3) sc__law_same.nd rfl (Or.inl rfl)) (pgs_cons (pg_name (i := 4) sc__law_same.nd rfl (Or.inl rfl)) (pgs_cons (pg_name (i := 5) sc__law_same.nd rfl (Or.inl rfl)) pgs_nil)))))) (pss_one (ps_ret (pe_and (pe_cmpR (r := rEqD K) (op_eqD (hu64 hr)) (pe_prop (pv 0) (G.cls 27 rfl) (G.prop 29 rfl) ok_Comparison_own (hr.mono (by decide)) (b_Comparison_own G) .nil passL rfl) (pv 2) (nomark _)) (pe_and (pe_cmpR (r := rEqD K) (op_eqD (hu64 hr)) (pe_prop (pv 0) (G.cls 27 rfl) (G.prop 33 rfl) ok_Comparison_other (hr.mono (by decide)) (b_Comparison_other G) .nil passL rfl) (pv 3) (nomark _)) (pe_and (pe_cmpR op_eq (pe_prop (pv 0) (G.cls 27 rfl) (G.prop 66 rfl) ok_Comparison_price (hr.mono (by decide)) (b_Comparison_price G) .nil passL rfl) (pv 4) (nomark _)) (pe_one (pe_cmpR (r := rEqD K) (op_eqD (hu64 hr)) (pe_prop (pv 0) (G.cls 27 rfl) (G.prop 39 rfl) ok_Comparison_confirmed (hr.mono (by decide)) (b_Comparison_confirmed G) .nil passL rfl) (pv 5) (nomark _))))))))), ?_⟩
  try dsimp only [cxOf]
  rintro ds μ W X ⟨_, _, rfl, c, a, sts, k, t, c', a', sts', k', s, rfl, h, rfl, hb, hn, w⟩
  have hc := h.cell
  have key : decide (t = s) = (decide (t.own = s.own) && (decide (t.other = s.other) && (decide (t.cap = s.cap) && decide (t.fixed = s.fixed)))) := by simp [stt_eq]
  rw [key] at w
  repeat infer_instance
  refine ⟨c', a', sts', k', s, rfl, hb, hn, ?_⟩
  repeat infer_instance
  refine ⟨c, a, sts, k, t, rfl, h, .inl ?_⟩
  repeat infer_instance
  refine it2 (fun e => ?_) fun e => ?_
  · rw [e] at w
    repeat infer_instance
    refine ⟨c, a, sts, k, t, rfl, h, .inl ?_⟩
    repeat infer_instance
    refine it2 (fun e => ?_) fun e => ?_
    · rw [e] at w
      repeat infer_instance
      refine ⟨c, a, sts, k, t, rfl, h, ?_⟩
      repeat infer_instance
      refine it2 (fun e => ?_) fun e => ?_
      · rw [e] at w
        repeat infer_instance
        refine ⟨c, a, sts, k, t, rfl, h, .inl ?_⟩
        repeat infer_instance
        exact w
      · rw [e] at w
        exact w
    · rw [e] at w
      exact w
  · rw [e] at w
    exact w


local macro_rules | `(tactic| infer_instance) => `(tactic| first
  | with_reducible first
  | refine wp_cmeth ?_ | refine rw_ixL1 ?_ | refine rw_ixL2 ?_
  | (with_reducible apply rw_own; nofun; nofun) | (with_reducible apply rw_notOwn; nofun; nofun)
  | (with_reducible apply rwm_clearN; nofun; first | (simp only [List.set_cons_succ, List.set_cons_zero]; rfl) | rfl)
  | (with_reducible apply rwm_appN; nofun; first | (simp only [List.set_cons_succ, List.set_cons_zero]; rfl) | rfl)
  | refine forCons ?_ | refine forNil ?_)
local macro_rules | `(tactic| infer_instance) => `(tactic| first
  | with_reducible first
  | refine wp_dcS1 ?_ | refine wp_sortDc ?_ | refine wp_lcS4 ?_ | refine rw_srtRk ?_ ?_ | refine rw_min2 ?_ | refine rw_abs ?_ | refine rw_mul ?_ ?_ | refine rw_divW ?_ ?_ | refine wpi_keysC ?_ | refine kc1 ?_ | refine wp_dinI ?_)
local macro_rules | `(tactic| eq_refl) => `(tactic| with_reducible first
  | (apply wpg_nameN; first | (simp only [startN, wipeR, List.map_cons, List.map_nil, List.set_cons_succ, List.set_cons_zero]; rfl) | rfl) | refine wpgs_nil ?_ | refine wpgs_cons ?_ | (apply wpg_tup; with_unfolding_all rfl))

/-! ### the steps' functions -/
def q_sequence (a b : Dt) : Post := fun μ W _ => ∃ own other : List Ln, a = .lst (own.map lnD) ∧ b = .lst (other.map lnD) ∧ own.length ≤ 1000 ∧ other.length ≤ 1000 ∧ W (.lst ((seqF own other).map slD)) μ
abbrev sp_sequence (_ : Frag) : DSp := sp2 q_sequence
theorem ok_sequence {P : Program} {w : World} {K : Frag} {mg : Str → Option Value} {base : Heap} (G : Good fa fn K mg) : FnOk P w K mg base (L2.CX P w) 1 (gA "sequence" K) (fdOf K (gA "sequence" K)) ["own", "other"] (spD K (sp_sequence K)) := by
  refine ok_defN 7 rfl rfl (G.def_ 49 rfl) sc_sequence len2 fun cdv A outer s0 H E hr => ⟨_, (pss_cons (ps_set (i := 2) sc_sequence.nd rfl (Or.inl rfl) (pe_op op_cat (pe_lc (own := [("line", 3)]) (g := (gName 3)) (tt := tYes) rfl sc_sequence.nd (pi_listK K (pv 0)) (blkOk_by (N := N_sequence) (sc := defScope s_sequence) (by decide +kernel)) (fun _ _ _ _ _ => (pg_name (i := 3) sc_sequence.nd rfl (Or.inl rfl))) (fun _ _ _ _ _ => pts_nil) (fun _ _ _ _ _ => (pe_tup (pa_cons (pe_ix (r := rIxT K) ix_tup (pv 3) pe_int (fun _ _ => rfl)) (pa_cons pe_int (pa_cons (pe_ix (r := rIxT K) ix_tup (pv 3) pe_int (fun _ _ => rfl)) (pa_cons (pv 3) pa_nil))))))) (pe_lc (own := [("line", 3)]) (g := (gName 3)) (tt := tYes) rfl sc_sequence.nd (pi_listK K (pv 1)) (blkOk_by (N := N_sequence) (sc := defScope s_sequence) (by decide +kernel)) (fun _ _ _ _ _ => (pg_name (i := 3) sc_sequence.nd rfl (Or.inl rfl))) (fun _ _ _ _ _ => pts_nil) (fun _ _ _ _ _ => (pe_tup (pa_cons (pe_ix (r := rIxT K) ix_tup (pv 3) pe_int (fun _ _ => rfl)) (pa_cons pe_int (pa_cons (pe_ix (r := rIxT K) ix_tup (pv 3) pe_int (fun _ _ => rfl)) (pa_cons (pv 3) pa_nil))))))))) (pss_one (ps_ret (pe_lc (own := [("day", 4), ("side", 5), ("row_id", 6), ("line", 3)]) (g := (gTup K 4 (gCons (gName 4) (gCons (gName 5) (gCons (gName 6) (gCons (gName 3) gNil)))))) (tt := tYes) rfl sc_sequence.nd (pi_listK K (pe_callB (r := rSortD K) (cr_sortedD (hu64 hr)) rfl (G.free 11 rfl) (by rfl) (pa_cons (pv 2) pa_nil))) (blkOk_by (N := N_sequence) (sc := defScope s_sequence) (by decide +kernel)) (fun _ _ _ _ _ => (pg_tup (n := 4) rfl (pgs_cons (pg_name (i := 4) sc_sequence.nd rfl (Or.inl rfl)) (pgs_cons (pg_name (i := 5) sc_sequence.nd rfl (Or.inl rfl)) (pgs_cons (pg_name (i := 6) sc_sequence.nd rfl (Or.inl rfl)) (pgs_cons (pg_name (i := 3) sc_sequence.nd rfl (Or.inl rfl)) pgs_nil)))))) (fun _ _ _ _ _ => pts_nil) (fun _ _ _ _ _ => (pe_tup (pa_cons (pe_ifExp (pt_cmpR op_eq (pv 5) pe_int (nomark _)) pe_str pe_str) (pa_cons (pv 3) pa_nil)))))))), ?_⟩
  try dsimp only [cxOf]
  rintro ds μ W X ⟨_, _, rfl, own, other, rfl, rfl, l1, l2, w⟩
  repeat infer_instance
  · refine lcM rkD (e := fun l : Ln => ((true, l) : Sl)) (fun l hl => ?_) ?_ (by omega)
    · repeat infer_instance
    repeat infer_instance
    refine lcM rkD (e := fun l : Ln => ((false, l) : Sl)) (fun l hl => ?_) ?_ (by omega)
    · repeat infer_instance
    refine rw_catM ?_ (by rw [List.length_map, List.length_map]; omega)
    repeat infer_instance
    · refine lcM slD (e := fun x : Sl => x) (fun x hx => ?_) ?_ ?_
      · repeat infer_instance
        unfold rkD
        repeat infer_instance
        obtain ⟨s, l⟩ := x
        cases s with
        | true => repeat infer_instance
        | false => repeat infer_instance
      · rw [List.map_id']
        exact w
      · rw [sortSl_len, List.length_append, List.length_map, List.length_map]
        omega
    · rw [List.length_append, List.length_map, List.length_map]
      omega
def q_lines_of (a b : Dt) : Post := fun μ W _ => ∃ (book : List Ln) (n : Int), a = .lst (book.map lnD) ∧ b = .int n ∧ book.length ≤ 1000 ∧ W (.lst ((linesF book n).map lnD)) μ
abbrev sp_lines_of (_ : Frag) : DSp := sp2 q_lines_of
theorem ok_lines_of {P : Program} {w : World} {K : Frag} {mg : Str → Option Value} {base : Heap} (G : Good fa fn K mg) : FnOk P w K mg base (L2.CX P w) 1 (gA "lines_of" K) (fdOf K (gA "lines_of" K)) ["book", "amount"] (spD K (sp_lines_of K)) := by
  refine ok_defN 6 rfl rfl (G.def_ 50 rfl) sc_lines_of len2 fun cdv A outer s0 H E hr => ⟨_, (pss_cons (ps_set (i := 2) sc_lines_of.nd rfl (Or.inl rfl) (pe_callB (r := rSortD K) (cr_sortedD (hu64 hr)) rfl (G.free 11 rfl) (by rfl) (pa_cons (pe_lc (own := [("line", 3)]) (g := (gName 3)) (tt := _) rfl sc_lines_of.nd (pi_listK K (pv 0)) (blkOk_by (N := N_lines_of) (sc := defScope s_lines_of) (by decide +kernel)) (fun _ _ _ _ _ => (pg_name (i := 3) sc_lines_of.nd rfl (Or.inl rfl))) (fun _ _ _ _ _ => (pts_one (pt_cmpR op_eq (pe_ix (r := rIxT K) ix_tup (pv 3) pe_int (fun _ _ => rfl)) (pv 1) (nomark _)))) (fun _ _ _ _ _ => (pe_tup (pa_cons (pe_ix (r := rIxT K) ix_tup (pv 3) pe_int (fun _ _ => rfl)) (pa_cons (pe_ix (r := rIxT K) ix_tup (pv 3) pe_int (fun _ _ => rfl)) pa_nil))))) pa_nil))) (pss_one (ps_ret (pe_lc (own := [("day", 4), ("row_id", 5)]) (g := (gTup K 2 (gCons (gName 4) (gCons (gName 5) gNil)))) (tt := tYes) rfl sc_lines_of.nd (pi_listK K (pv 2)) (blkOk_by (N := N_lines_of) (sc := defScope s_lines_of) (by decide +kernel)) (fun _ _ _ _ _ => (pg_tup (n := 2) rfl (pgs_cons (pg_name (i := 4) sc_lines_of.nd rfl (Or.inl rfl)) (pgs_cons (pg_name (i := 5) sc_lines_of.nd rfl (Or.inl rfl)) pgs_nil)))) (fun _ _ _ _ _ => pts_nil) (fun _ _ _ _ _ => (pe_tup (pa_cons (pv 5) (pa_cons (pv 4) (pa_cons (pv 1) pa_nil))))))))), ?_⟩
  try dsimp only [cxOf]
  rintro ds μ W X ⟨_, _, rfl, book, n, rfl, rfl, l1, w⟩
  repeat infer_instance
  have hf := List.length_filter_le (fun l : Ln => decide (l.2.2 = n)) book
  refine lcFM prD (f := fun l => decide (l.2.2 = n)) (e := fun l : Ln => ((l.2.1, l.1) : Pr)) (fun l hl => ?_) ?_ (by omega)
  · repeat infer_instance
  repeat infer_instance
  · refine lcM lnD (e := fun p : Pr => ((p.2, p.1, n) : Ln)) (fun p hp => ?_) w ?_
    · repeat infer_instance
    · rw [(sortPr_perm _).length_eq, List.length_map]
      omega
  · rw [List.length_map]
    omega
def q_amounts_of (a b : Dt) : Post := fun μ W _ => ∃ own other : List Ln, a = .lst (own.map lnD) ∧ b = .lst (other.map lnD) ∧ own.length ≤ 63 ∧ other.length ≤ 1000 ∧ W (.lst ((amtsF own other).map .int)) μ
abbrev sp_amounts_of (_ : Frag) : DSp := sp2 q_amounts_of
theorem ok_amounts_of {P : Program} {w : World} {K : Frag} {mg : Str → Option Value} {base : Heap} (G : Good fa fn K mg) : FnOk P w K mg base (L2.CX P w) 1 (gA "amounts_of" K) (fdOf K (gA "amounts_of" K)) ["own", "other"] (spD K (sp_amounts_of K)) := by
  refine ok_defN 4 rfl rfl (G.def_ 51 rfl) sc_amounts_of len2 fun cdv A outer s0 H E hr => ⟨_, (pss_cons (ps_set (i := 2) sc_amounts_of.nd rfl (Or.inr rfl) (pe_dc (own := [("line", 3)]) (g := (gName 3)) (tt := tYes) rfl sc_amounts_of.nd (pi_listK K (pv 1)) (blkOk_by (N := N_amounts_of) (sc := defScope s_amounts_of) (by decide +kernel)) (fun _ _ _ _ _ => (pg_name (i := 3) sc_amounts_of.nd rfl (Or.inl rfl))) (fun _ _ _ _ _ => pts_nil) (fun _ _ _ _ _ => (pe_ix (r := rIxT K) ix_tup (pv 3) pe_int (fun _ _ => rfl))) (fun _ _ _ _ _ => pe_bl))) (pss_one (ps_ret (pe_callB (r := rSortDI K) (call_sortedDI rfl) rfl (G.free 11 rfl) (by rfl) (pa_cons (pe_dc (own := [("line", 3)]) (g := (gName 3)) (tt := _) rfl sc_amounts_of.nd (pi_listK K (pv 0)) (blkOk_by (N := N_amounts_of) (sc := defScope s_amounts_of) (by decide +kernel)) (fun _ _ _ _ _ => (pg_name (i := 3) sc_amounts_of.nd rfl (Or.inl rfl))) (fun _ _ _ _ _ => (pts_one (pt_cmp (pc_din (hu_of hr) (pe_ix (r := rIxT K) ix_tup (pv 3) pe_int (fun _ _ => rfl)) (pv 2))))) (fun _ _ _ _ _ => (pe_ix (r := rIxT K) ix_tup (pv 3) pe_int (fun _ _ => rfl))) (fun _ _ _ _ _ => pe_bl)) pa_nil))))), ?_⟩
  try dsimp only [cxOf]
  rintro ds μ W X ⟨_, _, rfl, own, other, rfl, rfl, l1, l2, w⟩
  repeat infer_instance
  refine dcLnA (e := fun l => l.2.2) (fun l hl => ?_) (fun p hp => ?_) (by omega)
  · repeat infer_instance
    refine ⟨rfl, ?_⟩
    repeat infer_instance
    refine ⟨rfl, ?_⟩
    repeat infer_instance
  repeat infer_instance
  have hf := List.length_filter_le (fun l : Ln => decide (l.2.2 ∈ other.map (·.2.2))) own
  have hd := ddI_len ((own.filter fun l => decide (l.2.2 ∈ other.map (·.2.2))).map (·.2.2))
  rw [List.length_map] at hd
  refine dcLn (f := fun l => decide (l.2.2 ∈ other.map (·.2.2))) (e := fun l => l.2.2) (fun l hl => ?_) (fun q hq => ?_) (by omega)
  · repeat infer_instance
    refine ⟨0, _, _, _, rfl, rfl, rfl, ?_⟩
    repeat infer_instance
    refine ⟨rfl, ?_⟩
    repeat infer_instance
  exact sd2 w (by omega)
def q_chosen (a b : Dt) : Post := fun μ W _ => ∃ (book : List Ln) (is : List Int), a = .lst (book.map lnD) ∧ b = .lst (is.map .int) ∧ book.length ≤ 1000 ∧ is.length ≤ 100000 ∧ W (.lst ((chosenF book is).map lnD)) μ
abbrev sp_chosen (_ : Frag) : DSp := sp2 q_chosen
theorem ok_chosen {P : Program} {w : World} {K : Frag} {mg : Str → Option Value} {base : Heap} (G : Good fa fn K mg) : FnOk P w K mg base (L2.CX P w) 1 (gA "chosen" K) (fdOf K (gA "chosen" K)) ["book", "ids"] (spD K (sp_chosen K)) := by
  refine ok_defN 3 rfl rfl (G.def_ 52 rfl) sc_chosen len2 fun cdv A outer s0 H E hr => ⟨_, (pss_one (ps_ret (pe_lc (own := [("line", 2)]) (g := (gName 2)) (tt := _) rfl sc_chosen.nd (pi_listK K (pv 0)) (blkOk_by (N := N_chosen) (sc := defScope s_chosen) (by decide +kernel)) (fun _ _ _ _ _ => (pg_name (i := 2) sc_chosen.nd rfl (Or.inl rfl))) (fun _ _ _ _ _ => (pts_one (pt_cmpR (r := rIn K false) op_in_seq (pe_ix (r := rIxT K) ix_tup (pv 2) pe_int (fun _ _ => rfl)) (pv 1) rfl))) (fun _ _ _ _ _ => (pv 2))))), ?_⟩
  try dsimp only [cxOf]
  rintro ds μ W X ⟨_, _, rfl, book, is, rfl, rfl, l1, l2, w⟩
  repeat infer_instance
  refine lcF (f := fun l : Ln => decide (l.1 ∈ is)) (fun l hl => ?_) w (by omega)
  repeat infer_instance
def q_lesser (a b : Dt) : Post := fun μ W _ => ∃ xs ys : List Int, a = .lst (xs.map .int) ∧ b = .lst (ys.map .int) ∧ xs.length ≤ 1000 ∧ ys.length ≤ 1000 ∧ W (.lst ((St.lesser xs ys).map .int)) μ
abbrev sp_lesser (_ : Frag) : DSp := sp2 q_lesser
theorem ok_lesser {P : Program} {w : World} {K : Frag} {mg : Str → Option Value} {base : Heap} (G : Good fa fn K mg) : FnOk P w K mg base (L2.CX P w) 1 (gA "lesser" K) (fdOf K (gA "lesser" K)) ["first", "second"] (spD K (sp_lesser K)) := by
  refine ok_defN 5 rfl rfl (G.def_ 53 rfl) sc_lesser len2 fun cdv A outer s0 H E hr => ⟨_, (pss_cons (ps_set (i := 2) sc_lesser.nd rfl (Or.inl rfl) (pe_ifExp (pt_cmpR op_gt (pe_callB (r := Evl.rLenS K) cr_len rfl (G.free 5 rfl) (by rfl) (pa_cons (pv 0) pa_nil)) (pe_callB (r := Evl.rLenS K) cr_len rfl (G.free 5 rfl) (by rfl) (pa_cons (pv 1) pa_nil)) (nomark _)) (pv 0) (pv 1))) (pss_one (ps_ret (pe_op op_cat (pe_lc (own := [("one", 3), ("two", 4)]) (g := (gTup K 2 (gCons (gName 3) (gCons (gName 4) gNil)))) (tt := tYes) rfl sc_lesser.nd (pi_zip rfl (G.free 67 rfl) (pa_cons (pv 0) (pa_cons (pv 1) pa_nil))) (blkOk_by (N := N_lesser) (sc := defScope s_lesser) (by decide +kernel)) (fun _ _ _ _ _ => (pg_tup (n := 2) rfl (pgs_cons (pg_name (i := 3) sc_lesser.nd rfl (Or.inl rfl)) (pgs_cons (pg_name (i := 4) sc_lesser.nd rfl (Or.inl rfl)) pgs_nil)))) (fun _ _ _ _ _ => pts_nil) (fun _ _ _ _ _ => (pe_callB (r := rMin2) (call_min2 rfl) rfl (G.free 68 rfl) (by rfl) (pa_cons (pv 3) (pa_cons (pv 4) pa_nil))))) (pe_slice (r := rSlL K) sl_list (pv 2) (po_some (pe_callB (r := rMin2) (call_min2 rfl) rfl (G.free 68 rfl) (by rfl) (pa_cons (pe_callB (r := Evl.rLenS K) cr_len rfl (G.free 5 rfl) (by rfl) (pa_cons (pv 0) pa_nil)) (pa_cons (pe_callB (r := Evl.rLenS K) cr_len rfl (G.free 5 rfl) (by rfl) (pa_cons (pv 1) pa_nil)) pa_nil)))) po_none))))), ?_⟩
  try dsimp only [cxOf]
  rintro ds μ W X ⟨_, _, rfl, xs, ys, rfl, rfl, l1, l2, w⟩
  repeat infer_instance
  have key : ∀ (zs : List Int), zs = (if xs.length > ys.length then xs else ys) → W (.lst ((List.zipWith min xs ys ++ zs.drop (min xs.length ys.length)).map .int)) μ := fun zs e => by
    subst e
    exact w
  have hm : min ((xs.length : Nat) : Int) ((ys.length : Nat) : Int) = ((min xs.length ys.length : Nat) : Int) := by omega
  have zl : (xs.zip ys).length ≤ 1000 := by rw [List.length_zip]; omega
  have zw : (xs.zip ys).map (fun p => min p.1 p.2) = List.zipWith min xs ys := by rw [List.zip, List.map_zipWith]
  refine it2 (fun e => ?_) fun e => ?_
  · repeat infer_instance
    rw [zip_enc]
    refine lcM Dt.int (e := fun p : Int × Int => min p.1 p.2) (fun p hp => ?_) ?_ (by omega)
    · repeat infer_instance
    repeat infer_instance
    refine wp_sl ?_
    repeat infer_instance
    refine wpo_some ?_
    repeat infer_instance
    refine wpo_none ?_
    rw [hm]
    refine rw_slL isl ?_
    rw [cut_drop, ← List.map_drop, zw]
    refine rw_catM ?_ ?_
    · exact key xs (by rw [if_pos (by simp at e; omega)])
    · rw [List.length_zipWith, List.length_drop]; omega
  · repeat infer_instance
    rw [zip_enc]
    refine lcM Dt.int (e := fun p : Int × Int => min p.1 p.2) (fun p hp => ?_) ?_ (by omega)
    · repeat infer_instance
    repeat infer_instance
    refine wp_sl ?_
    repeat infer_instance
    refine wpo_some ?_
    repeat infer_instance
    refine wpo_none ?_
    rw [hm]
    refine rw_slL isl ?_
    rw [cut_drop, ← List.map_drop, zw]
    refine rw_catM ?_ ?_
    · exact key ys (by rw [if_neg (by simp at e; omega)])
    · rw [List.length_zipWith, List.length_drop]; omega


def q_least_by_number (a b u : Dt) : Post := fun μ W _ => ∃ (owns others : List Pr) (unit : Int), a = .lst (owns.map prD) ∧ b = .lst (others.map prD) ∧ u = .int unit ∧ owns.length ≤ 100 ∧ others.length ≤ 100 ∧ (∀ x ∈ owns, ∀ y ∈ others, -(2 ^ 60) ≤ x.1 - y.1 ∧ x.1 - y.1 ≤ 2 ^ 60) ∧ W (.lst ((St.dp (cst unit) owns.reverse others.reverse).map .int)) μ
abbrev sp_least_by_number (_ : Frag) : DSp := sp3 q_least_by_number
theorem ok_least_by_number {P : Program} {w : World} {K : Frag} {mg : Str → Option Value} {base : Heap} (G : Good fa fn K mg) : FnOk P w K mg base (L2.CX P w) 2 (gA "least_by_number" K) (fdOf K (gA "least_by_number" K)) ["owns", "others", "unit"] (spD K (sp_least_by_number K)) := by
  have ok_lesser : FnOk P w K mg base (L2.CX P w) 1 (gA "lesser" K) (fdOf K (gA "lesser" K)) ["first", "second"] (spD K (sp_lesser K)) := ok_lesser G
  refine ok_defN 14 rfl rfl (G.def_ 54 rfl) sc_least_by_number len3 fun cdv A outer s0 H E hr => ⟨_, (pss_cons (ps_setLc (i := 3) (own := [("line", 12)]) (g := (gName 12)) (tt := tYes) rfl sc_least_by_number.nd rfl rfl (sw_true rfl rfl rfl (by decide +kernel)) (pi_range1 rfl (G.free 61 rfl) (pa_cons (pe_op op_add (pe_callB (r := Evl.rLenS K) cr_len rfl (G.free 5 rfl) (by rfl) (pa_cons (pv 1) pa_nil)) pe_int) pa_nil)) (blkOk_by (N := N_least_by_number) (sc := defScope s_least_by_number) (by decide +kernel)) (fun _ _ _ _ _ => (pg_name (i := 12) sc_least_by_number.nd rfl (Or.inl rfl))) (fun _ _ _ _ _ => pts_nil) (fun _ _ _ _ _ => (pe_lst (pa_cons pe_int pa_nil)))) (pss_cons (ps_for PassesOwn.leaving rfl (pi_listK K (pv 0)) (pg_tup (n := 2) rfl (pgs_cons (pg_name (i := 4) sc_least_by_number.nd rfl (Or.inl rfl)) (pgs_cons (pg_name (i := 5) sc_least_by_number.nd rfl (Or.inl rfl)) pgs_nil))) (pss_cons (ps_set (i := 6) sc_least_by_number.nd rfl (Or.inl rfl) (pe_lst (pa_cons (pe_lst (pa_cons pe_int pa_nil)) pa_nil))) (pss_cons (ps_for PassesOwn.leaving rfl (pi_enum rfl (G.free 69 rfl) (pa_cons (pv 1) pa_nil)) (pg_tup (n := 2) rfl (pgs_cons (pg_name (i := 7) sc_least_by_number.nd rfl (Or.inl rfl)) (pgs_cons (pg_tup (n := 2) rfl (pgs_cons (pg_name (i := 8) sc_least_by_number.nd rfl (Or.inl rfl)) (pgs_cons (pg_name (i := 9) sc_least_by_number.nd rfl (Or.inl rfl)) pgs_nil))) pgs_nil))) (pss_cons (ps_set (i := 10) sc_least_by_number.nd rfl (Or.inr rfl) (pe_op op_add (pe_op op_add (pe_op op_mul (pe_callB (r := rAbs) call_abs rfl (G.free 70 rfl) (by rfl) (pa_cons (pe_op op_sub (pv 4) (pv 8)) pa_nil)) (pv 2)) (pv 5)) (pv 9))) (pss_cons (ps_set (i := 11) sc_least_by_number.nd rfl (Or.inl rfl) (pe_op op_cat (pe_lst (pa_cons pe_int pa_nil)) (pe_lc (own := [("number", 13)]) (g := (gName 13)) (tt := tYes) rfl sc_least_by_number.nd (pi_listK K (pe_ix (r := rIxL K) ix_list (pv 3) (pv 7) (fun _ _ => rfl))) (blkOk_by (N := N_least_by_number) (sc := defScope s_least_by_number) (by decide +kernel)) (fun _ _ _ _ _ => (pg_name (i := 13) sc_least_by_number.nd rfl (Or.inl rfl))) (fun _ _ _ _ _ => pts_nil) (fun _ _ _ _ _ => (pe_op op_add (pv 13) (pv 10)))))) (pss_one (ps_expr (pe_bmK K (pe_bm PySem.F.plainAttrs_list PySem.F.slot_list_append PySem.F.type_list_append mt_append (pv 6) (pa_cons (pe_call ok_lesser (hr.mono (by decide)) rfl (G.glo 71 rfl) (G.def_ 53 rfl).kp (b_lesser G) .nil passL (pa_cons (pe_call ok_lesser (hr.mono (by decide)) rfl (G.glo 71 rfl) (G.def_ 53 rfl).kp (b_lesser G) .nil passL (pa_cons (pe_ix (r := rIxL K) ix_list (pv 3) (pe_op op_add (pv 7) pe_int) (fun _ _ => rfl)) (pa_cons (pe_ix (r := rIxL K) ix_list (pv 6) (pv 7) (fun _ _ => rfl)) pa_nil))) (pa_cons (pv 11) pa_nil))) pa_nil)))))))) (pss_one (ps_set (i := 3) sc_least_by_number.nd rfl (Or.inl rfl) (pv 6)))))) (pss_one (ps_ret (pe_ix (r := rIxL K) ix_list (pv 3) (pe_un un_neg pe_int) (fun _ _ => rfl)))))), ?_⟩
  try dsimp only [cxOf]
  rintro ds μ W X ⟨_, _, _, rfl, owns, others, unit, rfl, rfl, rfl, l1, l2, hd, w⟩
  repeat infer_instance
  rotate_left
  · omega
  refine lcM ilD (e := fun _ : Nat => ([0] : List Int)) (fun n hn => ?_) ?_ (by rw [List.length_range]; omega)
  · repeat infer_instance
  have e0 : ((List.range ((others.length : Nat) + 1 : Int).toNat).map fun _ => ([0] : List Int)).map ilD = tabD (dpR (cst unit) owns others 0) (others.length + 1) := by
    rw [List.map_map]
    unfold tabD
    have : ((others.length : Nat) + 1 : Int).toNat = others.length + 1 := by omega
    rw [this]
    apply List.map_congr_left
    intro j _
    rw [dpR_0l]
    rfl
  rw [e0]
  repeat infer_instance
  refine wps_for ?_
  repeat infer_instance
  refine ⟨fun i ρ' μ' => μ' = μ ∧ ∃ o4 o5 o6 o7 o8 o9 o10 o11 o12 o13, ρ' = [some (.lst (owns.map prD)), some (.lst (others.map prD)), some (.int unit), some (.lst (tabD (dpR (cst unit) owns others i) (others.length + 1))), o4, o5, o6, o7, o8, o9, o10, o11, o12, o13], ⟨rfl, _, _, _, _, _, _, _, _, _, _, rfl⟩, ?_, ?_⟩
  · rintro i y ρ' μ' hy ⟨rfl, o4, o5, o6, o7, o8, o9, o10, o11, o12, o13, rfl⟩
    obtain ⟨x, hx, rfl⟩ := map_at hy
    have hxm : x ∈ owns := List.mem_of_getElem? hx
    repeat eq_refl
    refine wps_seq (wps_asg (wp_lstC ?_))
    repeat infer_instance
    intro q hq
    refine wpg_nameN rfl ?_
    simp only [List.set_cons_succ, List.set_cons_zero]
    refine wps_seq (wps_for ?_)
    repeat infer_instance
    refine ⟨fun j ρ' ν => ν = (q, .lst (tabD (dpR (cst unit) owns others (i + 1)) (j + 1))) :: μ' ∧ ∃ o7 o8 o9 o10 o11 o12 o13, ρ' = [some (.lst (owns.map prD)), some (.lst (others.map prD)), some (.int unit), some (.lst (tabD (dpR (cst unit) owns others i) (others.length + 1))), some (.int x.1), some (.int x.2), some (.ref q), o7, o8, o9, o10, o11, o12, o13], ⟨by rw [tabD_one, dpR_0r]; rfl, _, _, _, _, _, _, _, rfl⟩, ?_, ?_⟩
    · rintro j y ρ' ν hy2 ⟨rfl, o7, o8, o9, o10, o11, o12, o13, rfl⟩
      obtain ⟨z, hz, rfl⟩ := enum_at hy2
      have hzm : z ∈ others := List.mem_of_getElem? hz
      have hj : j < others.length := (List.getElem?_eq_some_iff.mp hz).1
      have hb := hd x hxm z hzm
      have n1 := dpR_len (c := cst unit) (owns := owns) (others := others) i j
      have n2 := dpR_len (c := cst unit) (owns := owns) (others := others) i (j + 1)
      have n3 := dpR_len (c := cst unit) (owns := owns) (others := others) (i + 1) j
      repeat infer_instance
      rotate_left
      · refine .inl ?_
        split <;> constructor <;> omega
      refine rw_ixL (tabD_at (by omega)) ⟨_, rfl, ?_⟩
      refine lcM Dt.int (e := fun n : Int => n + cst unit x z) (fun n hn => ?_) ?_ (by omega)
      · repeat infer_instance
      refine rw_cat isl isl (by simp; omega) ?_
      change WPG _ _ _ _ _ (ilD (0 :: (dpR (cst unit) owns others i j).map (· + cst unit x z))) _
      repeat infer_instance
      have ej : ((j : Nat) : Int) + 1 = ((j + 1 : Nat) : Int) := by omega
      rw [ej]
      refine rw_ixL (tabD_at (by omega)) ?_
      repeat infer_instance
      refine rw_ixC (c := 0) rfl (tabD_at (by omega)) ?_
      repeat infer_instance
      refine ⟨_, _, rfl, rfl, by omega, by omega, ?_⟩
      repeat infer_instance
      refine ⟨_, _, rfl, rfl, by rw [St.lesser_length]; omega, by rw [List.length_cons, List.length_map]; omega, ?_⟩
      rw [← dpR_ss hx hz]
      repeat infer_instance
      · exact ⟨by rw [tabD_app], _, _, _, _, _, _, _, rfl⟩
      · rw [tabD_len]
        omega
    · rintro ρ' ν ⟨rfl, o7, o8, o9, o10, o11, o12, o13, rfl⟩
      rw [List.length_map, List.length_zipIdx, List.length_map]
      refine wps_freezeAt 6 rfl ?_
      simp only [List.set_cons_succ, List.set_cons_zero]
      repeat infer_instance
      exact ⟨rfl, _, _, _, _, _, _, _, _, _, _, rfl⟩
  · rintro ρ' μ' ⟨rfl, o4, o5, o6, o7, o8, o9, o10, o11, o12, o13, rfl⟩
    rw [List.length_map]
    repeat infer_instance
    refine rw_ixL tabD_last ?_
    rw [dpR_all]
    exact w


def q_first_unpaired (a b : Dt) : Post := fun μ W _ => ∃ owns others : List Ln, a = .lst (owns.map lnD) ∧ b = .lst (others.map lnD) ∧ owns.length ≤ 500 ∧ others.length ≤ 500 ∧ (ddI ((owns ++ others).map (·.2.2))).length < 64 ∧ unpF owns others = none ∧ W .non μ
abbrev sp_first_unpaired (_ : Frag) : DSp := sp2 q_first_unpaired
theorem ok_first_unpaired {P : Program} {w : World} {K : Frag} {mg : Str → Option Value} {base : Heap} (G : Good fa fn K mg) : FnOk P w K mg base (L2.CX P w) 2 (gA "first_unpaired" K) (fdOf K (gA "first_unpaired" K)) ["owns", "others"] (spD K (sp_first_unpaired K)) := by
  have ok_lines_of : FnOk P w K mg base (L2.CX P w) 1 (gA "lines_of" K) (fdOf K (gA "lines_of" K)) ["book", "amount"] (spD K (sp_lines_of K)) := ok_lines_of G
  refine ok_defN 4 rfl rfl (G.def_ 55 rfl) sc_first_unpaired len2 fun cdv A outer s0 H E hr => ⟨_, (pss_cons (ps_for PassesOwn.leaving rfl (pi_listK K (pe_callB (r := rSortDI K) (call_sortedDI rfl) rfl (G.free 11 rfl) (by rfl) (pa_cons (pe_dc (own := [("line", 3)]) (g := (gName 3)) (tt := tYes) rfl sc_first_unpaired.nd (pi_listK K (pe_lst (pa_starK K (pv 0) (pa_starK K (pv 1) pa_nil)))) (blkOk_by (N := N_first_unpaired) (sc := defScope s_first_unpaired) (by decide +kernel)) (fun _ _ _ _ _ => (pg_name (i := 3) sc_first_unpaired.nd rfl (Or.inl rfl))) (fun _ _ _ _ _ => pts_nil) (fun _ _ _ _ _ => (pe_ix (r := rIxT K) ix_tup (pv 3) pe_int (fun _ _ => rfl))) (fun _ _ _ _ _ => pe_bl)) pa_nil))) (pg_name (i := 2) sc_first_unpaired.nd rfl (Or.inl rfl)) (pss_one (ps_if (pt_cmpR op_ne (pe_callB (r := Evl.rLenS K) cr_len rfl (G.free 5 rfl) (by rfl) (pa_cons (pe_call ok_lines_of (hr.mono (by decide)) rfl (G.glo 72 rfl) (G.def_ 50 rfl).kp (b_lines_of G) .nil passL (pa_cons (pv 0) (pa_cons (pv 2) pa_nil))) pa_nil)) (pe_callB (r := Evl.rLenS K) cr_len rfl (G.free 5 rfl) (by rfl) (pa_cons (pe_call ok_lines_of (hr.mono (by decide)) rfl (G.glo 72 rfl) (G.def_ 50 rfl).kp (b_lines_of G) .nil passL (pa_cons (pv 1) (pa_cons (pv 2) pa_nil))) pa_nil)) (nomark _)) (pss_one (ps_ret (pv 2))) pss_nil))) (pss_one (ps_ret pe_non))), ?_⟩
  try dsimp only [cxOf]
  rintro ds μ W X ⟨_, _, rfl, owns, others, rfl, rfl, l1, l2, hd, hu, w⟩
  refine wps_seq (wps_for ?_)
  repeat infer_instance
  refine ⟨_, .inl isl, ?_⟩
  repeat infer_instance
  refine ⟨_, .inl isl, ?_⟩
  repeat infer_instance
  refine ⟨by simp; omega, ?_⟩
  repeat infer_instance
  rw [List.append_nil, ← List.map_append]
  refine dcLnA (e := fun l => l.2.2) (fun l hl => ?_) (fun p hp => ?_) (by rw [List.length_append]; omega)
  · repeat infer_instance
    refine ⟨rfl, ?_⟩
    repeat infer_instance
    refine ⟨rfl, ?_⟩
    repeat infer_instance
  refine ⟨p, _, 0, [_], μ, ddI ((owns ++ others).map (·.2.2)), rfl, rfl, (List.perm_append_singleton _ _).symm, by rw [List.map_map]; rfl, hd, ?_⟩
  refine ⟨_, rfl, fun i ρ' μ' => μ' = μ ∧ ∃ o2 o3, ρ' = [some (.lst (owns.map lnD)), some (.lst (others.map lnD)), o2, o3], ⟨rfl, _, _, rfl⟩, ?_, ?_⟩
  · rintro i y ρ' μ' hy ⟨rfl, o2, o3, rfl⟩
    obtain ⟨n, hn, rfl⟩ := map_at hy
    have hq : (linesF owns n).length = (linesF others n).length := by
      have := List.find?_eq_none.mp hu n (List.mem_of_getElem? hn)
      simpa using this
    repeat infer_instance
    refine ⟨owns, n, rfl, rfl, by omega, ?_⟩
    repeat infer_instance
    refine ⟨others, n, rfl, rfl, by omega, ?_⟩
    repeat infer_instance
    rw [hq]
    refine itF (by simp) ?_
    repeat infer_instance
    exact ⟨rfl, _, _, rfl⟩
  · rintro ρ' μ' ⟨rfl, o2, o3, rfl⟩
    repeat infer_instance
    exact w
section
local macro_rules | `(tactic| infer_instance) => `(tactic| with_reducible refine wp_lstNilC ?_)
def q_in_sequence (a b oi ti : Dt) : Post := fun μ W _ => ∃ (own other : List Ln) (is js : List Int), a = .lst (own.map lnD) ∧ b = .lst (other.map lnD) ∧ oi = .lst (is.map .int) ∧ ti = .lst (js.map .int) ∧ own.length ≤ 500 ∧ other.length ≤ 500 ∧ is.length ≤ 100000 ∧ js.length ≤ 100000 ∧ (ddI ((chosenF own is ++ chosenF other js).map (·.2.2))).length < 64 ∧ unpF (chosenF own is) (chosenF other js) = none ∧ RetL W ((inSeqF (chosenF own is) (chosenF other js)).map prD) μ
abbrev sp_in_sequence (_ : Frag) : DSp := sp4 q_in_sequence
theorem ok_in_sequence {P : Program} {w : World} {K : Frag} {mg : Str → Option Value} {base : Heap} (G : Good fa fn K mg) : FnOk P w K mg base (L2.CX P w) 3 (gA "in_sequence" K) (fdOf K (gA "in_sequence" K)) ["own", "other", "own_ids", "other_ids"] (spD K (sp_in_sequence K)) := by
  have ok_chosen : FnOk P w K mg base (L2.CX P w) 1 (gA "chosen" K) (fdOf K (gA "chosen" K)) ["book", "ids"] (spD K (sp_chosen K)) := ok_chosen G
  have ok_first_unpaired : FnOk P w K mg base (L2.CX P w) 2 (gA "first_unpaired" K) (fdOf K (gA "first_unpaired" K)) ["owns", "others"] (spD K (sp_first_unpaired K)) := ok_first_unpaired G
  have ok_Unpaired___init__ : FnOk P w K mg base (L2.CX P w) 1 (mA "Unpaired" "__init__" K) (fdOf K (mA "Unpaired" "__init__" K)) ["self", "amount"] (spX K (gA "Unpaired" K) (mA "Unpaired" "__init__" K) "amount") := ok_Unpaired___init__ G
  have ok_lines_of : FnOk P w K mg base (L2.CX P w) 1 (gA "lines_of" K) (fdOf K (gA "lines_of" K)) ["book", "amount"] (spD K (sp_lines_of K)) := ok_lines_of G
  refine ok_defN 11 rfl rfl (G.def_ 56 rfl) sc_in_sequence len4 fun cdv A outer s0 H E hr => ⟨_, (pss_cons (ps_par (i := 4) (j := 5) rfl sc_in_sequence.nd rfl rfl (by decide) rfl rfl (pa_cons (pe_call ok_chosen (hr.mono (by decide)) rfl (G.glo 73 rfl) (G.def_ 52 rfl).kp (b_chosen G) .nil passL (pa_cons (pv 0) (pa_cons (pv 2) pa_nil))) (pa_cons (pe_call ok_chosen (hr.mono (by decide)) rfl (G.glo 73 rfl) (G.def_ 52 rfl).kp (b_chosen G) .nil passL (pa_cons (pv 1) (pa_cons (pv 3) pa_nil))) pa_nil)) rfl) (pss_cons (ps_set (i := 6) sc_in_sequence.nd rfl (Or.inl rfl) (pe_call ok_first_unpaired (hr.mono (by decide)) rfl (G.glo 74 rfl) (G.def_ 55 rfl).kp (b_first_unpaired G) .nil passL (pa_cons (pv 4) (pa_cons (pv 5) pa_nil)))) (pss_cons (ps_if (pt_cmp (pc_notN (pv 6)) (nomark _)) (pss_one (L2.ps_raise rfl (takes_of rfl rfl rfl rfl) (pmk_oex (G.exc1 75 rfl).o (G.exc1 75 rfl).i (G.exc1 75 rfl).t ok_Unpaired___init__ (hr.mono (by decide)) (b_Unpaired___init__ G) .nil passL rfl (G.glo 76 rfl) (pa_cons (pv 6) pa_nil)))) pss_nil) (pss_cons (ps_set (i := 7) sc_in_sequence.nd rfl (Or.inl rfl) (pe_lst pa_nil)) (pss_cons (ps_for PassesOwn.leaving rfl (pi_keys (pe_frz (pe_dc (own := [("line", 10)]) (g := (gName 10)) (tt := tYes) rfl sc_in_sequence.nd (pi_listK K (pv 4)) (blkOk_by (N := N_in_sequence) (sc := defScope s_in_sequence) (by decide +kernel)) (fun _ _ _ _ _ => (pg_name (i := 10) sc_in_sequence.nd rfl (Or.inl rfl))) (fun _ _ _ _ _ => pts_nil) (fun _ _ _ _ _ => (pe_ix (r := rIxT K) ix_tup (pv 10) pe_int (fun _ _ => rfl))) (fun _ _ _ _ _ => pe_bl)))) (pg_name (i := 6) sc_in_sequence.nd rfl (Or.inl rfl)) (pss_one (ps_for PassesOwn.leaving rfl (pi_zip rfl (G.free 67 rfl) (pa_cons (pe_call ok_lines_of (hr.mono (by decide)) rfl (G.glo 72 rfl) (G.def_ 50 rfl).kp (b_lines_of G) .nil passL (pa_cons (pv 4) (pa_cons (pv 6) pa_nil))) (pa_cons (pe_call ok_lines_of (hr.mono (by decide)) rfl (G.glo 72 rfl) (G.def_ 50 rfl).kp (b_lines_of G) .nil passL (pa_cons (pv 5) (pa_cons (pv 6) pa_nil))) pa_nil))) (pg_tup (n := 2) rfl (pgs_cons (pg_name (i := 8) sc_in_sequence.nd rfl (Or.inl rfl)) (pgs_cons (pg_name (i := 9) sc_in_sequence.nd rfl (Or.inl rfl)) pgs_nil))) (pss_one (ps_expr (pe_bmK K (pe_bm PySem.F.plainAttrs_list PySem.F.slot_list_append PySem.F.type_list_append mt_append (pv 7) (pa_cons (pe_tup (pa_cons (pe_ix (r := rIxT K) ix_tup (pv 8) pe_int (fun _ _ => rfl)) (pa_cons (pe_ix (r := rIxT K) ix_tup (pv 9) pe_int (fun _ _ => rfl)) pa_nil))) pa_nil)))))))) (pss_one (ps_ret (pe_callB (r := rSortD K) (cr_sortedD (hu64 hr)) rfl (G.free 11 rfl) (by rfl) (pa_cons (pv 7) pa_nil))))))))), ?_⟩
  try dsimp only [cxOf]
  rintro ds μ W X ⟨_, _, _, _, rfl, own, other, is, js, rfl, rfl, rfl, rfl, l1, l2, l3, l4, hd, hu, w⟩
  have c1 : (chosenF own is).length ≤ 500 := Nat.le_trans (List.length_filter_le _ _) l1
  have c2 : (chosenF other js).length ≤ 500 := Nat.le_trans (List.length_filter_le _ _) l2
  repeat infer_instance
  refine ⟨own, is, rfl, rfl, by omega, by omega, ?_⟩
  repeat infer_instance
  refine ⟨other, js, rfl, rfl, by omega, by omega, ?_⟩
  repeat infer_instance
  refine ⟨_, _, rfl, ?_⟩
  simp only [startN, List.set_cons_succ, List.set_cons_zero]
  repeat infer_instance
  refine ⟨_, _, rfl, rfl, c1, c2, hd, hu, ?_⟩
  repeat infer_instance
  intro q hq
  repeat eq_refl
  generalize chosenF own is = owns at *
  generalize chosenF other js = others at *
  let zp : Int → List Pr := fun a => ((linesF owns a).zip (linesF others a)).map fun p => (p.1.1, p.2.1)
  have zl : ∀ a, (zp a).length ≤ 500 := fun a => by
    have := linesF_len (book := owns) (a := a)
    simp only [zp, List.length_map, List.length_zip]
    omega
  have fl : ∀ as : List Int, (as.flatMap zp).length ≤ as.length * 500 := fun as => by
    induction as with
    | nil => simp
    | cons a as ih =>
      have := zl a
      rw [List.flatMap_cons, List.length_append, List.length_cons]
      omega
  have al : (ddI (owns.map (·.2.2))).length ≤ 500 := Nat.le_trans (ddI_len _) (by rw [List.length_map]; exact c1)
  refine wps_seq (wps_for ?_)
  repeat infer_instance
  refine dcLnA (e := fun l => l.2.2) (fun l hl => ?_) (fun p hp => ?_) (by omega)
  · repeat infer_instance
    refine ⟨rfl, ?_⟩
    repeat infer_instance
    refine ⟨rfl, ?_⟩
    repeat infer_instance
  refine ⟨p, _, _, rfl, rfl, ?_⟩
  rw [List.map_map]
  change ∃ I : Nat → Ro → Mem → Prop, _ ∧ (∀ i y ρ' μ', ((ddI (owns.map fun l => l.2.2)).map Dt.int)[i]? = some y → _) ∧ ∀ ρ' μ', I ((ddI (owns.map fun l => l.2.2)).map Dt.int).length ρ' μ' → _
  refine ⟨fun i ρ' μ' => μ' = (q, .lst ((((ddI (owns.map (·.2.2))).take i).flatMap zp).map prD)) :: μ ∧ ∃ o6 o8 o9 o10, ρ' = [some (.lst (own.map lnD)), some (.lst (other.map lnD)), some (.lst (is.map .int)), some (.lst (js.map .int)), some (.lst (owns.map lnD)), some (.lst (others.map lnD)), o6, some (.ref q), o8, o9, o10], ⟨rfl, _, _, _, _, rfl⟩, ?_, ?_⟩
  · rintro i y ρ' μ' hy ⟨rfl, o6, o8, o9, o10, rfl⟩
    obtain ⟨n, hn, rfl⟩ := map_at hy
    have hi := (List.getElem?_eq_some_iff.mp hn).1
    repeat infer_instance
    refine wps_for ?_
    repeat infer_instance
    refine ⟨owns, n, rfl, rfl, by omega, ?_⟩
    repeat infer_instance
    refine ⟨others, n, rfl, rfl, by omega, ?_⟩
    repeat infer_instance
    rw [zip_enc]
    refine ⟨fun j ρ' μ' => μ' = (q, .lst ((((ddI (owns.map (·.2.2))).take i).flatMap zp ++ (zp n).take j).map prD)) :: μ ∧ ∃ o8 o9 o10, ρ' = [some (.lst (own.map lnD)), some (.lst (other.map lnD)), some (.lst (is.map .int)), some (.lst (js.map .int)), some (.lst (owns.map lnD)), some (.lst (others.map lnD)), some (.int n), some (.ref q), o8, o9, o10], ⟨by rw [List.take_zero, List.append_nil], _, _, _, rfl⟩, ?_, ?_⟩
    · rintro j y2 ρ' μ' hy2 ⟨rfl, o8, o9, o10, rfl⟩
      obtain ⟨z, hz, rfl⟩ := map_at hy2
      have hzp : (zp n)[j]? = some (z.1.1, z.2.1) := by
        simp only [zp, List.getElem?_map, hz]
        rfl
      have tk : (zp n).take (j + 1) = (zp n).take j ++ [(z.1.1, z.2.1)] := by rw [List.take_add_one, hzp]; rfl
      repeat infer_instance
      · exact ⟨by rw [tk, ← List.append_assoc, List.map_append (l₂ := [_])]; rfl, _, _, _, rfl⟩
      · have h1 := fl ((ddI (owns.map (·.2.2))).take i)
        have h2 := zl n
        rw [List.length_map, List.length_append, List.length_take]
        rw [List.length_take] at h1
        have h3 : min i (ddI (owns.map (·.2.2))).length ≤ 500 := by omega
        have h4 := Nat.mul_le_mul_right 500 h3
        omega
    · rintro ρ' μ' ⟨rfl, o8, o9, o10, rfl⟩
      have e1 : (zp n).take (((linesF owns n).zip (linesF others n)).map (fun p => Dt.tup [lnD p.1, lnD p.2])).length = zp n := List.take_of_length_le (by simp only [zp, List.length_map]; omega)
      have e2 : (ddI (owns.map (·.2.2))).take (i + 1) = (ddI (owns.map (·.2.2))).take i ++ [n] := by rw [List.take_add_one, hn]; rfl
      refine ⟨?_, _, _, _, _, rfl⟩
      rw [e1, e2, List.flatMap_append]
      simp only [List.flatMap_cons, List.flatMap_nil, List.append_nil]
  · rintro ρ' μ' ⟨rfl, o6, o8, o9, o10, rfl⟩
    have e3 : (ddI (owns.map (·.2.2))).take ((ddI (owns.map fun l => l.2.2)).map Dt.int).length = ddI (owns.map (·.2.2)) := List.take_of_length_le (by rw [List.length_map]; exact Nat.le_refl _)
    rw [e3]
    have h1 := fl (ddI (owns.map (·.2.2)))
    refine wps_ret (wp_dropP ?_)
    repeat infer_instance
    refine rwL_sorted (islC 0 rfl) (sorts_pr _ (by omega)) ?_
    rw [sortD_pr]
    rcases w with w | w
    · exact .inl ⟨[_], μ, (List.perm_append_singleton _ _).symm, w⟩
    · exact .inr fun p hp => ⟨[_], (p, _) :: μ, .trans (.swap _ _ _) (List.perm_append_singleton _ _).symm, w p fun z => hp (List.mem_cons_of_mem _ z)⟩
end


section
local macro_rules | `(tactic| infer_instance) => `(tactic| with_reducible refine wp_lstNilC ?_)
def q_exact_steps (a b : Dt) : Post := fun μ W _ => ∃ own other : List Ln, a = .lst (own.map lnD) ∧ b = .lst (other.map lnD) ∧ StOk own other ∧ W (.tup [.lst ((exactF own other).map .int), .fdT ((wkvs (seqF own other)).map (·.1)) ((wkvs (seqF own other)).map (·.2)), .int (2 ^ (seqF own other).length)]) μ
abbrev sp_exact_steps (_ : Frag) : DSp := sp2 q_exact_steps
theorem ok_exact_steps {P : Program} {w : World} {K : Frag} {mg : Str → Option Value} {base : Heap} (G : Good fa fn K mg) : FnOk P w K mg base (L2.CX P w) 3 (gA "exact_steps" K) (fdOf K (gA "exact_steps" K)) ["own", "other"] (spD K (sp_exact_steps K)) := by
  have ok_sequence : FnOk P w K mg base (L2.CX P w) 1 (gA "sequence" K) (fdOf K (gA "sequence" K)) ["own", "other"] (spD K (sp_sequence K)) := ok_sequence G
  have ok_amounts_of : FnOk P w K mg base (L2.CX P w) 1 (gA "amounts_of" K) (fdOf K (gA "amounts_of" K)) ["own", "other"] (spD K (sp_amounts_of K)) := ok_amounts_of G
  have ok_lines_of : FnOk P w K mg base (L2.CX P w) 1 (gA "lines_of" K) (fdOf K (gA "lines_of" K)) ["book", "amount"] (spD K (sp_lines_of K)) := ok_lines_of G
  have ok_least_by_number : FnOk P w K mg base (L2.CX P w) 2 (gA "least_by_number" K) (fdOf K (gA "least_by_number" K)) ["owns", "others", "unit"] (spD K (sp_least_by_number K)) := ok_least_by_number G
  refine ok_defN 13 rfl rfl (G.def_ 57 rfl) sc_exact_steps len2 fun cdv A outer s0 H E hr => ⟨_, (pss_cons (ps_set (i := 2) sc_exact_steps.nd rfl (Or.inr rfl) pe_dnewT) (pss_cons (ps_set (i := 3) sc_exact_steps.nd rfl (Or.inl rfl) pe_int) (pss_cons (ps_for PassesOwn.leaving rfl (pi_listK K (pe_call ok_sequence (hr.mono (by decide)) rfl (G.glo 77 rfl) (G.def_ 49 rfl).kp (b_sequence G) .nil passL (pa_cons (pv 0) (pa_cons (pv 1) pa_nil)))) (pg_tup (n := 2) rfl (pgs_cons (pg_name (i := 4) sc_exact_steps.nd rfl (Or.inl rfl)) (pgs_cons (pg_name (i := 5) sc_exact_steps.nd rfl (Or.inl rfl)) pgs_nil))) (pss_cons (ps_dput (hu_of hr) (pv 2) (pe_tup (pa_cons (pv 4) (pa_cons (pe_ix (r := rIxT K) ix_tup (pv 5) pe_int (fun _ _ => rfl)) pa_nil))) (pv 3) rfl) (pss_one (ps_aug (i := 3) sc_exact_steps.nd rfl (Or.inl rfl) pe_int iop_mul)))) (pss_cons (ps_set (i := 6) sc_exact_steps.nd rfl (Or.inl rfl) (pe_lst pa_nil)) (pss_cons (ps_for PassesOwn.leaving rfl (pi_listK K (pe_call ok_amounts_of (hr.mono (by decide)) rfl (G.glo 78 rfl) (G.def_ 51 rfl).kp (b_amounts_of G) .nil passL (pa_cons (pv 0) (pa_cons (pv 1) pa_nil)))) (pg_name (i := 7) sc_exact_steps.nd rfl (Or.inl rfl)) (pss_cons (ps_setLc (i := 8) (own := [("line", 5)]) (g := (gName 5)) (tt := tYes) rfl sc_exact_steps.nd rfl rfl (sw_true rfl rfl rfl (by decide +kernel)) (pi_listK K (pe_call ok_lines_of (hr.mono (by decide)) rfl (G.glo 72 rfl) (G.def_ 50 rfl).kp (b_lines_of G) .nil passL (pa_cons (pv 0) (pa_cons (pv 7) pa_nil)))) (blkOk_by (N := N_exact_steps) (sc := defScope s_exact_steps) (by decide +kernel)) (fun _ _ _ _ _ => (pg_name (i := 5) sc_exact_steps.nd rfl (Or.inl rfl))) (fun _ _ _ _ _ => pts_nil) (fun _ _ _ _ _ => (pe_tup (pa_cons (pe_ix (r := rIxT K) ix_tup (pv 5) pe_int (fun _ _ => rfl)) (pa_cons (pe_dget (hu_of hr) (pv 2) (pe_tup (pa_cons pe_str (pa_cons (pe_ix (r := rIxT K) ix_tup (pv 5) pe_int (fun _ _ => rfl)) pa_nil))) (fun _ _ => rfl)) pa_nil))))) (pss_cons (ps_setLc (i := 9) (own := [("line", 5)]) (g := (gName 5)) (tt := tYes) rfl sc_exact_steps.nd rfl rfl (sw_true rfl rfl rfl (by decide +kernel)) (pi_listK K (pe_call ok_lines_of (hr.mono (by decide)) rfl (G.glo 72 rfl) (G.def_ 50 rfl).kp (b_lines_of G) .nil passL (pa_cons (pv 1) (pa_cons (pv 7) pa_nil)))) (blkOk_by (N := N_exact_steps) (sc := defScope s_exact_steps) (by decide +kernel)) (fun _ _ _ _ _ => (pg_name (i := 5) sc_exact_steps.nd rfl (Or.inl rfl))) (fun _ _ _ _ _ => pts_nil) (fun _ _ _ _ _ => (pe_tup (pa_cons (pe_ix (r := rIxT K) ix_tup (pv 5) pe_int (fun _ _ => rfl)) (pa_cons (pe_dget (hu_of hr) (pv 2) (pe_tup (pa_cons pe_str (pa_cons (pe_ix (r := rIxT K) ix_tup (pv 5) pe_int (fun _ _ => rfl)) pa_nil))) (fun _ _ => rfl)) pa_nil))))) (pss_cons (ps_set (i := 10) sc_exact_steps.nd rfl (Or.inl rfl) (pe_call ok_least_by_number (hr.mono (by decide)) rfl (G.glo 79 rfl) (G.def_ 54 rfl).kp (b_least_by_number G) .nil passL (pa_cons (pv 8) (pa_cons (pv 9) (pa_cons (pv 3) pa_nil))))) (pss_one (ps_expr (pe_bmK K (pe_bm PySem.F.plainAttrs_list PySem.F.slot_list_extend PySem.F.type_list_extend mt_extend (pv 6) (pa_cons (pe_lc (own := [("sooner", 11), ("later", 12)]) (g := (gTup K 2 (gCons (gName 11) (gCons (gName 12) gNil)))) (tt := tYes) rfl sc_exact_steps.nd (pi_zip rfl (G.free 67 rfl) (pa_cons (pv 10) (pa_cons (pe_slice (r := rSlL K) sl_list (pv 10) (po_some pe_int) po_none) pa_nil))) (blkOk_by (N := N_exact_steps) (sc := defScope s_exact_steps) (by decide +kernel)) (fun _ _ _ _ _ => (pg_tup (n := 2) rfl (pgs_cons (pg_name (i := 11) sc_exact_steps.nd rfl (Or.inl rfl)) (pgs_cons (pg_name (i := 12) sc_exact_steps.nd rfl (Or.inl rfl)) pgs_nil)))) (fun _ _ _ _ _ => pts_nil) (fun _ _ _ _ _ => (pe_op op_sub (pv 12) (pv 11)))) pa_nil))))))))) (pss_one (ps_frz (ps_ret (pe_tup (pa_cons (pe_callB (r := rSortD K) (cr_sortedD (hu64 hr)) rfl (G.free 11 rfl) (by rfl) (pa_cons (pv 6) pa_nil)) (pa_cons (pv 2) (pa_cons (pv 3) pa_nil)))))))))))), ?_⟩
  try dsimp only [cxOf]
  rintro ds μ W X ⟨_, _, rfl, own, other, rfl, rfl, h, w⟩
  have l1 := h.l1
  have l2 := h.l2
  have hn := ky_nodup h.n1 h.n2
  have sl := seq_len (own := own) (other := other)
  refine wps_seq (wps_asg (wp_dnewT fun q hq => ?_))
  repeat infer_instance
  refine wps_for ?_
  repeat infer_instance
  refine ⟨own, other, rfl, rfl, by omega, by omega, ?_⟩
  repeat infer_instance
  refine ⟨fun i ρ' μ' => μ' = (q, .dT (wkvs ((seqF own other).take i))) :: μ ∧ ∃ o4 o5 o6 o7 o8 o9 o10 o11 o12, ρ' = [some (.lst (own.map lnD)), some (.lst (other.map lnD)), some (.ref q), some (.int (2 ^ i)), o4, o5, o6, o7, o8, o9, o10, o11, o12], ⟨rfl, _, _, _, _, _, _, _, _, _, rfl⟩, ?_, ?_⟩
  · rintro i y ρ' μ' hy ⟨rfl, o4, o5, o6, o7, o8, o9, o10, o11, o12, rfl⟩
    obtain ⟨x, hx, rfl⟩ := map_at hy
    have hi := (List.getElem?_eq_some_iff.mp hx).1
    unfold slD
    repeat infer_instance
    refine .inr ⟨0, q, _, ky x, rfl, rfl, rfl, ?_, ?_⟩
    · rw [wkvs_len, List.length_take]; omega
    rw [putKD_new (ky_fresh hn hx), ← wkvs_take hx]
    repeat infer_instance
    refine wps_augM rfl ?_
    repeat infer_instance
    refine ⟨.inr ⟨by decide, by decide⟩, ?_⟩
    simp only [List.set_cons_succ, List.set_cons_zero, ← Int.pow_succ]
    exact ⟨by trivial, _, _, _, _, _, _, _, _, _, rfl⟩
  · rintro ρ' μ' ⟨rfl, o4, o5, o6, o7, o8, o9, o10, o11, o12, rfl⟩
    rw [List.length_map, List.take_length]
    repeat infer_instance
    intro f hf
    repeat infer_instance
    refine wps_for ?_
    repeat infer_instance
    refine ⟨own, other, rfl, rfl, by omega, by omega, ?_⟩
    repeat infer_instance
    let gf : Int → List Int := fun a => St.diffs (numsF own other a)
    have al := amts_len (own := own) (other := other)
    have fl : ∀ as : List Int, (as.flatMap gf).length ≤ as.length * (own.length + 1) := flat_len
    refine ⟨fun i ρ' μ' => μ' = (f, .lst ((((amtsF own other).take i).flatMap gf).map .int)) :: (q, .dT (wkvs (seqF own other))) :: μ ∧ ∃ o4 o5 o7 o8 o9 o10 o11 o12, ρ' = [some (.lst (own.map lnD)), some (.lst (other.map lnD)), some (.ref q), some (.int (2 ^ (seqF own other).length)), o4, o5, some (.ref f), o7, o8, o9, o10, o11, o12], ⟨rfl, _, _, _, _, _, _, _, _, rfl⟩, ?_, ?_⟩
    · rintro i y ρ' μ' hy ⟨rfl, o4, o5, o7, o8, o9, o10, o11, o12, rfl⟩
      obtain ⟨n, hm, rfl⟩ := map_at hy
      have hi := (List.getElem?_eq_some_iff.mp hm).1
      repeat infer_instance
      refine ⟨own, n, rfl, rfl, by omega, ?_⟩
      repeat infer_instance
      have k1 := linesF_len (book := own) (a := n)
      have k2 := linesF_len (book := other) (a := n)
      refine lcM prD (e := fun l : Ln => ((l.2.1, wOf (seqF own other) true l.1) : Pr)) (fun l hl => ?_) ?_ (by omega)
      · repeat infer_instance
        refine ⟨_, .inr ⟨1, q, _, [.inr (wd true), .inl l.1], rfl, rfl, rfl, (wOf_own h (mem_linesF.mp hl).1).symm⟩, ?_⟩
        repeat infer_instance
      repeat infer_instance
      refine ⟨other, n, rfl, rfl, by omega, ?_⟩
      repeat infer_instance
      refine lcM prD (e := fun l : Ln => ((l.2.1, wOf (seqF own other) false l.1) : Pr)) (fun l hl => ?_) ?_ (by omega)
      · repeat infer_instance
        refine ⟨_, .inr ⟨1, q, _, [.inr (wd false), .inl l.1], rfl, rfl, rfl, (wOf_other h (mem_linesF.mp hl).1).symm⟩, ?_⟩
        repeat infer_instance
      repeat infer_instance
      refine ⟨_, _, _, rfl, rfl, rfl, by rw [List.length_map]; omega, by rw [List.length_map]; omega, ?_, ?_⟩
      · rintro x hx z hz
        obtain ⟨l, hl, rfl⟩ := List.mem_map.mp hx
        obtain ⟨m, hm', rfl⟩ := List.mem_map.mp hz
        have b1 := h.d1 l (mem_linesF.mp hl).1
        have b2 := h.d2 m (mem_linesF.mp hm').1
        constructor <;> show _ <;> omega
      change WPG _ _ _ _ _ (.lst ((numsF own other n).map .int)) _
      repeat infer_instance
      have n1 := nums_len (own := own) (other := other) (a := n)
      have n2 := diffs_len (numsF own other n)
      refine wp_sl ?_
      repeat infer_instance
      refine wpo_some ?_
      repeat infer_instance
      refine wpo_none ?_
      refine rw_slL isl ?_
      rw [show (1 : Int) = ((1 : Nat) : Int) from rfl, cut_drop, ← List.map_drop]
      repeat infer_instance
      rw [zip_enc]
      refine lcM Dt.int (e := fun p : Int × Int => p.2 - p.1) (fun p hp => ?_) ?_ (by rw [List.length_zip]; omega)
      · repeat infer_instance
      rw [zip_diffs]
      have h1 := fl ((amtsF own other).take i)
      rw [List.length_take] at h1
      have h3 : min i (amtsF own other).length ≤ 63 := by omega
      have h4 := Nat.mul_le_mul h3 (show own.length + 1 ≤ 64 by omega)
      repeat infer_instance
      refine rwm_extend (c := 0) rfl isl (by rw [List.length_map, List.length_map]; omega) ?_
      have e2 : (amtsF own other).take (i + 1) = (amtsF own other).take i ++ [n] := by rw [List.take_add_one, hm]; rfl
      refine ⟨?_, _, _, _, _, _, _, _, _, rfl⟩
      rw [e2, List.flatMap_append, ← List.map_append]
      simp only [List.flatMap_cons, List.flatMap_nil, List.append_nil, List.set_cons_zero]
      rfl
    · rintro ρ' μ' ⟨rfl, o4, o5, o7, o8, o9, o10, o11, o12, rfl⟩
      rw [List.length_map, List.take_length]
      have h1 := fl (amtsF own other)
      have h4 := Nat.mul_le_mul (show (amtsF own other).length ≤ 63 by omega) (show own.length + 1 ≤ 64 by omega)
      refine wps_frzT (a := q) (rest := (f, _) :: μ) (List.Perm.swap _ _ _) (by simp) (frz_at (k := 2) rfl) ?_
      simp only [List.set_cons_succ, List.set_cons_zero]
      refine wps_ret (wp_dropM ?_)
      repeat infer_instance
      refine rw_sorted (islC 0 rfl) (sorts_ints _ (by omega)) ?_
      rw [sortD_ints]
      repeat infer_instance
      exact ⟨[_], μ, rfl, w⟩
end


section
local macro_rules | `(tactic| infer_instance) => `(tactic| with_reducible refine wp_lstNilC ?_)
def keyD (x : Sl) : Dt := .tup [.str (wd x.1), .int x.2.1]
theorem items_w (sq : List Sl) : (((wkvs sq).map (·.1)).zip ((wkvs sq).map (·.2))).map (fun p => Dt.tup [.tup (p.1.map kD), p.2]) = sq.zipIdx.map fun p => .tup [keyD p.1, .int (2 ^ p.2)] := by
  rw [List.zip_map', List.map_map, wkvs, List.map_map]
  rfl
theorem joined_at (a b : Ln) (ks : List Sl) (h : ks = [(true, a), (false, b)] ∨ ks = [(false, b), (true, a)]) : valD (mergeD [] (ks.map fun x => ((.inr (wd x.1) : Key), Dt.int x.2.1))) (.inr "own") = some (.int a.1) ∧ valD (mergeD [] (ks.map fun x => ((.inr (wd x.1) : Key), Dt.int x.2.1))) (.inr "other") = some (.int b.1) ∧ dec ks = (a.1, b.1) := by
  rcases h with rfl | rfl <;> exact ⟨rfl, rfl, rfl⟩
theorem cdivW_pow (i : Int) (k : Nat) (h : k < 9000) : CDivW i (2 ^ k) := by
  refine ⟨Int.pow_pos (by decide), ?_⟩
  have : ((2 : Int) ^ k).natAbs = 2 ^ k := by rw [Int.natAbs_pow]; rfl
  rw [this, Nat.log2_two_pow]
  exact h
theorem zi_lt {sq : List Sl} {p : Sl × Nat} (h : p ∈ sq.zipIdx) : p.2 < sq.length := by
  obtain ⟨j, hj⟩ := List.mem_iff_getElem?.mp h
  rw [List.getElem?_zipIdx] at hj
  cases e : sq[j]? with
  | none => rw [e] at hj; cases hj
  | some x =>
    rw [e] at hj
    have := Option.some.inj hj
    rw [← this]
    have := (List.getElem?_eq_some_iff.mp e).1
    show 0 + j < _
    omega
def q_steps (a b : Dt) : Post := fun μ W _ => ∃ own other : List Ln, a = .lst (own.map lnD) ∧ b = .lst (other.map lnD) ∧ StOk own other ∧ RetL W ((stepsF own other).map lnD) μ
abbrev sp_steps (_ : Frag) : DSp := sp2 q_steps
theorem ok_steps {P : Program} {w : World} {K : Frag} {mg : Str → Option Value} {base : Heap} (G : Good fa fn K mg) : FnOk P w K mg base (L2.CX P w) 4 (gA "steps" K) (fdOf K (gA "steps" K)) ["own", "other"] (spD K (sp_steps K)) := by
  have ok_exact_steps : FnOk P w K mg base (L2.CX P w) 3 (gA "exact_steps" K) (fdOf K (gA "exact_steps" K)) ["own", "other"] (spD K (sp_exact_steps K)) := ok_exact_steps G
  refine ok_defN 10 rfl rfl (G.def_ 58 rfl) sc_steps len2 fun cdv A outer s0 H E hr => ⟨_, (pss_cons (ps_asg (pe_call ok_exact_steps (hr.mono (by decide)) rfl (G.glo 80 rfl) (G.def_ 57 rfl).kp (b_exact_steps G) .nil passL (pa_cons (pv 0) (pa_cons (pv 1) pa_nil))) (pg_tup (n := 3) rfl (pgs_cons (pg_name (i := 2) sc_steps.nd rfl (Or.inl rfl)) (pgs_cons (pg_name (i := 3) sc_steps.nd rfl (Or.inl rfl)) (pgs_cons (pg_name (i := 4) sc_steps.nd rfl (Or.inr rfl)) pgs_nil))))) (pss_cons (ps_set (i := 5) sc_steps.nd rfl (Or.inl rfl) (pe_lst pa_nil)) (pss_cons (ps_for PassesOwn.leaving rfl (pi_listK K (pv 2)) (pg_name (i := 6) sc_steps.nd rfl (Or.inr rfl)) (pss_cons (ps_set (i := 7) sc_steps.nd rfl (Or.inl rfl) (pe_callTy (r := rDictP K) (call_dictP rfl) rfl (G.free 81 rfl) (by rfl) (pa_cons (pe_lc (own := [("key", 8), ("weight", 9)]) (g := (gTup K 2 (gCons (gName 8) (gCons (gName 9) gNil)))) (tt := _) rfl sc_steps.nd (pi_itemsT (pv 3)) (blkOk_by (N := N_steps) (sc := defScope s_steps) (by decide +kernel)) (fun _ _ _ _ _ => (pg_tup (n := 2) rfl (pgs_cons (pg_name (i := 8) sc_steps.nd rfl (Or.inl rfl)) (pgs_cons (pg_name (i := 9) sc_steps.nd rfl (Or.inl rfl)) pgs_nil)))) (fun _ _ _ _ _ => (pts_one (pt_cmpR op_eq (pe_op op_mod (pe_op op_fdivW (pe_op op_mod (pv 6) (pv 4)) (pv 9)) pe_int) pe_int (nomark _)))) (fun _ _ _ _ _ => (pv 8))) pa_nil))) (pss_one (ps_expr (pe_bmK K (pe_bm PySem.F.plainAttrs_list PySem.F.slot_list_append PySem.F.type_list_append mt_append (pv 5) (pa_cons (pe_tup (pa_cons (pe_op op_fdivW (pv 6) (pv 4)) (pa_cons (pe_dget (hu_of hr) (pv 7) pe_str (fun _ _ => rfl)) (pa_cons (pe_dget (hu_of hr) (pv 7) pe_str (fun _ _ => rfl)) pa_nil)))) pa_nil))))))) (pss_one (ps_ret (pv 5)))))), ?_⟩
  try dsimp only [cxOf]
  rintro ds μ W X ⟨_, _, rfl, own, other, rfl, rfl, h, w⟩
  have l1 := h.l1
  have l2 := h.l2
  have sl := seq_len (own := own) (other := other)
  repeat infer_instance
  refine ⟨own, other, rfl, rfl, h, ?_⟩
  repeat infer_instance
  intro f hf
  repeat infer_instance
  refine wps_for ?_
  repeat infer_instance
  let df : Int → Ln := fun n => (n / 2 ^ (seqF own other).length, dec (keysOf (seqF own other) n))
  refine ⟨fun i ρ' μ' => μ' = (f, .lst ((((exactF own other).take i).map df).map lnD)) :: μ ∧ ∃ o6 o7 o8 o9, ρ' = [some (.lst (own.map lnD)), some (.lst (other.map lnD)), some (.lst ((exactF own other).map .int)), some (.fdT ((wkvs (seqF own other)).map (·.1)) ((wkvs (seqF own other)).map (·.2))), some (.int (2 ^ (seqF own other).length)), some (.ref f), o6, o7, o8, o9], ⟨rfl, _, _, _, _, rfl⟩, ?_, ?_⟩
  · rintro i y ρ' μ' hy ⟨rfl, o6, o7, o8, o9, rfl⟩
    obtain ⟨n, hn, rfl⟩ := map_at hy
    have hi := (List.getElem?_eq_some_iff.mp hn).1
    obtain ⟨a, b, hk⟩ := dec_ok h n (List.mem_of_getElem? hn)
    obtain ⟨j1, j2, j3⟩ := joined_at a b _ hk
    repeat infer_instance
    refine wpi_itemsT ?_
    repeat infer_instance
    refine ⟨_, _, rfl, ?_⟩
    rw [items_w]
    refine lcFM keyD (f := fun p : Sl × Nat => decide (n % 2 ^ (seqF own other).length / 2 ^ p.2 % 2 = 1)) (e := fun p : Sl × Nat => p.1) (fun p hp => ?_) ?_ ?_
    · have hlt := zi_lt hp
      repeat infer_instance
      refine rw_mod ?_ (Int.pow_pos (by decide))
      repeat infer_instance
      rotate_left
      · exact cdivW_pow _ _ (by omega)
      refine rw_mod ?_ (by decide)
      repeat infer_instance
    · repeat infer_instance
      refine rw_dictP (xs := keysOf (seqF own other) n) (kf := fun x : Sl => .inr (wd x.1)) (vf := fun x : Sl => .int x.2.1) isl rfl ?_
      intro p hp
      repeat eq_refl
      refine wps_drop (wp_dropM ?_)
      repeat infer_instance
      rotate_left
      · exact cdivW_pow _ _ (by omega)
      refine ⟨_, .inl ⟨0, p, _, .inr "own", rfl, rfl, rfl, j1.symm⟩, ?_⟩
      repeat infer_instance
      refine ⟨_, .inl ⟨0, p, _, .inr "other", rfl, rfl, rfl, j2.symm⟩, ?_⟩
      repeat infer_instance
      · refine ⟨[_], _, rfl, ?_, _, _, _, _, rfl⟩
        have tk : (exactF own other).take (i + 1) = (exactF own other).take i ++ [n] := by rw [List.take_add_one, hn]; rfl
        rw [tk, List.map_append, List.map_append]
        show _ = (f, Mo.lst (_ ++ [lnD (n / 2 ^ (seqF own other).length, dec (keysOf (seqF own other) n))])) :: μ
        rw [j3]
      · have hl := exact_len h
        rw [List.length_map, List.length_map, List.length_take]
        omega
    · rw [List.length_zipIdx]; omega
  · rintro ρ' μ' ⟨rfl, o6, o7, o8, o9, rfl⟩
    rw [List.length_map, List.take_length]
    rcases w with w | w
    · refine wps_ret (wp_freezeL ?_)
      repeat infer_instance
      exact ⟨f, _, μ, rfl, rfl, w⟩
    · repeat infer_instance
      exact w f hf
end


def q_need_number (a b : Dt) : Post := fun μ W _ => ∃ (rows : List Ln) (n : Int), a = .lst (rows.map lnD) ∧ b = .int n ∧ 0 ≤ n ∧ n ≤ rows.length ∧ rows.length ≤ 100000 ∧ W .non μ
abbrev sp_need_number (_ : Frag) : DSp := sp2 q_need_number
theorem ok_need_number {P : Program} {w : World} {K : Frag} {mg : Str → Option Value} {base : Heap} (G : Good fa fn K mg) : FnOk P w K mg base (L2.CX P w) 3 (gA "need_number" K) (fdOf K (gA "need_number" K)) ["rows", "number"] (spD K (sp_need_number K)) := by
  have ok_is_integer : FnOk P w K mg base (L2.CX P w) 1 (gA "is_integer" K) (fdOf K (gA "is_integer" K)) ["value"] (spD K (sp_is_integer K)) := ok_is_integer G
  have ok_BadNumber___init__ : FnOk P w K mg base (L2.CX P w) 1 (mA "BadNumber" "__init__" K) (fdOf K (mA "BadNumber" "__init__" K)) ["self", "value"] (spX K (gA "BadNumber" K) (mA "BadNumber" "__init__" K) "value") := ok_BadNumber___init__ G
  refine ok_defN 2 rfl rfl (G.def_ 59 rfl) sc_need_number len2 fun cdv A outer s0 H E hr => ⟨_, (pss_one (ps_if (PW.pt (pw_or (pt_not (pt_val (pe_call ok_is_integer (hr.mono (by decide)) rfl (G.glo 3 rfl) (G.def_ 8 rfl).kp (b_is_integer G) .nil passL (pa_cons (pv 1) pa_nil)))) (pw_or1 (pt_not (pt_chain op_le op_le pe_int (pv 1) (pe_callB (r := Evl.rLenS K) cr_len rfl (G.free 5 rfl) (by rfl) (pa_cons (pv 0) pa_nil))))))) (pss_one (L2.ps_raise rfl (takes_of rfl rfl rfl rfl) (pmk_oex (G.exc1 23 rfl).o (G.exc1 23 rfl).i (G.exc1 23 rfl).t ok_BadNumber___init__ (hr.mono (by decide)) (b_BadNumber___init__ G) .nil passL rfl (G.glo 24 rfl) (pa_cons (pv 1) pa_nil)))) pss_nil)), ?_⟩
  try dsimp only [cxOf]
  rintro ds μ W X ⟨_, _, rfl, rows, n, rfl, rfl, h0, h1, l1, w⟩
  repeat infer_instance
  refine ⟨true, isInt _ _, ?_⟩
  repeat infer_instance
  refine itT (by simpa using h0) ?_
  repeat infer_instance
  refine itF (by simp; omega) ?_
  repeat infer_instance
  exact w
theorem cut_take {α : Type} {xs : List α} {k : Nat} : cutD xs none (some (k : Int)) = xs.take k := by
  unfold cutD
  have e1 : HT.sIx xs.length 0 none = 0 := rfl
  have e2 : HT.sIx xs.length xs.length (some (k : Int)) = min k xs.length := by
    simp only [HT.sIx]
    split <;> omega
  rw [e1, e2, List.drop_zero, Nat.sub_zero]
  by_cases h : k ≤ xs.length
  · rw [Nat.min_eq_left h]
  · rw [Nat.min_eq_right (by omega), List.take_of_length_le (by omega), List.take_of_length_le (by omega)]
def q_best_matching (a b c : Dt) : Post := fun μ W _ => ∃ (own other : List Ln) (n : Nat), a = .lst (own.map lnD) ∧ b = .lst (other.map lnD) ∧ c = .int (n : Nat) ∧ StOk own other ∧ n ≤ (stepsF own other).length ∧ RetL W ((bestF own other n).map prD) μ
abbrev sp_best_matching (_ : Frag) : DSp := sp3 q_best_matching
theorem ok_best_matching {P : Program} {w : World} {K : Frag} {mg : Str → Option Value} {base : Heap} (G : Good fa fn K mg) : FnOk P w K mg base (L2.CX P w) 5 (gA "best_matching" K) (fdOf K (gA "best_matching" K)) ["own", "other", "number"] (spD K (sp_best_matching K)) := by
  have ok_steps : FnOk P w K mg base (L2.CX P w) 4 (gA "steps" K) (fdOf K (gA "steps" K)) ["own", "other"] (spD K (sp_steps K)) := ok_steps G
  have ok_need_number : FnOk P w K mg base (L2.CX P w) 3 (gA "need_number" K) (fdOf K (gA "need_number" K)) ["rows", "number"] (spD K (sp_need_number K)) := ok_need_number G
  have ok_in_sequence : FnOk P w K mg base (L2.CX P w) 3 (gA "in_sequence" K) (fdOf K (gA "in_sequence" K)) ["own", "other", "own_ids", "other_ids"] (spD K (sp_in_sequence K)) := ok_in_sequence G
  refine ok_defN 5 rfl rfl (G.def_ 60 rfl) sc_best_matching len3 fun cdv A outer s0 H E hr => ⟨_, (pss_cons (ps_set (i := 3) sc_best_matching.nd rfl (Or.inl rfl) (pe_call ok_steps (hr.mono (by decide)) rfl (G.glo 82 rfl) (G.def_ 58 rfl).kp (b_steps G) .nil passL (pa_cons (pv 0) (pa_cons (pv 1) pa_nil)))) (pss_cons (ps_expr (pe_call ok_need_number (hr.mono (by decide)) rfl (G.glo 83 rfl) (G.def_ 59 rfl).kp (b_need_number G) .nil passL (pa_cons (pv 3) (pa_cons (pv 2) pa_nil)))) (pss_one (ps_ret (pe_call ok_in_sequence (hr.mono (by decide)) rfl (G.glo 84 rfl) (G.def_ 56 rfl).kp (b_in_sequence G) .nil passL (pa_cons (pv 0) (pa_cons (pv 1) (pa_cons (pe_lc (own := [("row", 4)]) (g := (gName 4)) (tt := tYes) rfl sc_best_matching.nd (pi_listK K (pe_slice (r := rSlL K) sl_list (pv 3) po_none (po_some (pv 2)))) (blkOk_by (N := N_best_matching) (sc := defScope s_best_matching) (by decide +kernel)) (fun _ _ _ _ _ => (pg_name (i := 4) sc_best_matching.nd rfl (Or.inl rfl))) (fun _ _ _ _ _ => pts_nil) (fun _ _ _ _ _ => (pe_ix (r := rIxT K) ix_tup (pv 4) pe_int (fun _ _ => rfl)))) (pa_cons (pe_lc (own := [("row", 4)]) (g := (gName 4)) (tt := tYes) rfl sc_best_matching.nd (pi_listK K (pe_slice (r := rSlL K) sl_list (pv 3) po_none (po_some (pv 2)))) (blkOk_by (N := N_best_matching) (sc := defScope s_best_matching) (by decide +kernel)) (fun _ _ _ _ _ => (pg_name (i := 4) sc_best_matching.nd rfl (Or.inl rfl))) (fun _ _ _ _ _ => pts_nil) (fun _ _ _ _ _ => (pe_ix (r := rIxT K) ix_tup (pv 4) pe_int (fun _ _ => rfl)))) pa_nil))))))))), ?_⟩
  try dsimp only [cxOf]
  rintro ds μ W X ⟨_, _, _, rfl, own, other, n, rfl, rfl, rfl, h, hn, w⟩
  have l1 := h.l1
  have l2 := h.l2
  have l3 := steps_len h
  repeat infer_instance
  refine ⟨own, other, rfl, rfl, h, .inl ?_⟩
  repeat infer_instance
  refine ⟨_, n, rfl, rfl, by omega, by omega, by omega, ?_⟩
  repeat infer_instance
  have tl : ((stepsF own other).take n).length ≤ 4032 := by rw [List.length_take]; omega
  refine wp_sl ?_
  repeat infer_instance
  refine wpo_none ?_
  refine wpo_some ?_
  repeat infer_instance
  refine rw_slL isl ?_
  rw [cut_take, ← List.map_take]
  repeat infer_instance
  refine lcM Dt.int (e := fun r : Ln => r.2.1) (fun r hr => ?_) ?_ (by omega)
  · repeat infer_instance
  repeat infer_instance
  refine wp_sl ?_
  repeat infer_instance
  refine wpo_none ?_
  refine wpo_some ?_
  repeat infer_instance
  refine rw_slL isl ?_
  rw [cut_take, ← List.map_take]
  refine ⟨_, rfl, ?_⟩
  refine lcM Dt.int (e := fun r : Ln => r.2.2) (fun r hr => ?_) ?_ (by omega)
  · repeat infer_instance
  repeat infer_instance
  refine ⟨own, other, _, _, rfl, rfl, rfl, rfl, by omega, by omega, by rw [List.length_map]; omega, by rw [List.length_map]; omega, dd_ok h n, unp_ok h n, w⟩
def q_pairs_at (a b c : Dt) : Post := fun μ W _ => ∃ (own other : List Ln) (p : Int), a = .lst (own.map lnD) ∧ b = .lst (other.map lnD) ∧ c = .int p ∧ StOk own other ∧ W (.int ((pairsAtF own other p : Nat) : Int)) μ
abbrev sp_pairs_at (_ : Frag) : DSp := sp3 q_pairs_at
theorem ok_pairs_at {P : Program} {w : World} {K : Frag} {mg : Str → Option Value} {base : Heap} (G : Good fa fn K mg) : FnOk P w K mg base (L2.CX P w) 5 (gA "pairs_at" K) (fdOf K (gA "pairs_at" K)) ["own", "other", "price"] (spD K (sp_pairs_at K)) := by
  have ok_steps : FnOk P w K mg base (L2.CX P w) 4 (gA "steps" K) (fdOf K (gA "steps" K)) ["own", "other"] (spD K (sp_steps K)) := ok_steps G
  refine ok_defN 4 rfl rfl (G.def_ 61 rfl) sc_pairs_at len3 fun cdv A outer s0 H E hr => ⟨_, (pss_one (ps_ret (pe_callB (r := Evl.rLenS K) cr_len rfl (G.free 5 rfl) (by rfl) (pa_cons (pe_lc (own := [("row", 3)]) (g := (gName 3)) (tt := _) rfl sc_pairs_at.nd (pi_listK K (pe_call ok_steps (hr.mono (by decide)) rfl (G.glo 82 rfl) (G.def_ 58 rfl).kp (b_steps G) .nil passL (pa_cons (pv 0) (pa_cons (pv 1) pa_nil)))) (blkOk_by (N := N_pairs_at) (sc := defScope s_pairs_at) (by decide +kernel)) (fun _ _ _ _ _ => (pg_name (i := 3) sc_pairs_at.nd rfl (Or.inl rfl))) (fun _ _ _ _ _ => (pts_one (pt_cmpR op_le (pe_ix (r := rIxT K) ix_tup (pv 3) pe_int (fun _ _ => rfl)) (pv 2) (nomark _)))) (fun _ _ _ _ _ => (pv 3))) pa_nil)))), ?_⟩
  try dsimp only [cxOf]
  rintro ds μ W X ⟨_, _, _, rfl, own, other, p, rfl, rfl, rfl, h, w⟩
  have l3 := steps_len h
  repeat infer_instance
  refine ⟨own, other, rfl, rfl, h, .inl ?_⟩
  repeat infer_instance
  refine lcF (f := fun r : Ln => decide (r.1 ≤ p)) (fun r hr => ?_) ?_ (by omega)
  · repeat infer_instance
  repeat infer_instance
  exact w
def q_matching_at (a b c : Dt) : Post := fun μ W _ => ∃ (own other : List Ln) (p : Int), a = .lst (own.map lnD) ∧ b = .lst (other.map lnD) ∧ c = .int p ∧ StOk own other ∧ RetL W ((bestF own other (pairsAtF own other p)).map prD) μ
abbrev sp_matching_at (_ : Frag) : DSp := sp3 q_matching_at
theorem ok_matching_at {P : Program} {w : World} {K : Frag} {mg : Str → Option Value} {base : Heap} (G : Good fa fn K mg) : FnOk P w K mg base (L2.CX P w) 6 (gA "matching_at" K) (fdOf K (gA "matching_at" K)) ["own", "other", "price"] (spD K (sp_matching_at K)) := by
  have ok_best_matching : FnOk P w K mg base (L2.CX P w) 5 (gA "best_matching" K) (fdOf K (gA "best_matching" K)) ["own", "other", "number"] (spD K (sp_best_matching K)) := ok_best_matching G
  have ok_pairs_at : FnOk P w K mg base (L2.CX P w) 5 (gA "pairs_at" K) (fdOf K (gA "pairs_at" K)) ["own", "other", "price"] (spD K (sp_pairs_at K)) := ok_pairs_at G
  refine ok_defN 3 rfl rfl (G.def_ 62 rfl) sc_matching_at len3 fun cdv A outer s0 H E hr => ⟨_, (pss_one (ps_ret (pe_call ok_best_matching (hr.mono (by decide)) rfl (G.glo 85 rfl) (G.def_ 60 rfl).kp (b_best_matching G) .nil passL (pa_cons (pv 0) (pa_cons (pv 1) (pa_cons (pe_call ok_pairs_at (hr.mono (by decide)) rfl (G.glo 86 rfl) (G.def_ 61 rfl).kp (b_pairs_at G) .nil passL (pa_cons (pv 0) (pa_cons (pv 1) (pa_cons (pv 2) pa_nil)))) pa_nil)))))), ?_⟩
  try dsimp only [cxOf]
  rintro ds μ W X ⟨_, _, _, rfl, own, other, p, rfl, rfl, rfl, h, w⟩
  repeat infer_instance
  refine ⟨own, other, p, rfl, rfl, rfl, h, ?_⟩
  repeat infer_instance
  refine ⟨own, other, _, rfl, rfl, rfl, h, ?_, w⟩
  exact List.length_filter_le _ _



/-! ### open lines, matched pairs -/
def q_State_open_mine (K : Frag) (s : Dt) : Post := fun μ W _ => ∃ t : Stt, s = stD K t ∧ t.own.length ≤ 1000 ∧ t.fixed.length ≤ 1000 ∧ RetL W ((openOwn t).map lnD) μ
abbrev sp_State_open_mine (K : Frag) : DSp := sp1 (q_State_open_mine K)
theorem ok_State_open_mine {P : Program} {w : World} {K : Frag} {mg : Str → Option Value} {base : Heap} (G : Good fa fn K mg) : FnOk P w K mg base (L2.CX P w) 1 (mA "State" "open_mine" K) (fdOf K (mA "State" "open_mine" K)) ["self"] (spD K (sp_State_open_mine K)) := by
  have c_State := G.cls 43 rfl
  have n_State_fixed := G.noat 117 rfl
  have c_State := G.cls 43 rfl
  have n_State_mine := G.noat 114 rfl
  refine ok_defN 4 rfl rfl (G.def_ 63 rfl) sc_State_open_mine len1 fun cdv A outer s0 H E hr => ⟨_, (pss_cons (ps_set (i := 1) sc_State_open_mine.nd rfl (Or.inr rfl) (pe_lc (own := [("pair", 2)]) (g := (gName 2)) (tt := tYes) rfl sc_State_open_mine.nd (pi_listK K (pe_fldK K (pv 0))) (blkOk_by (N := N_State_open_mine) (sc := defScope s_State_open_mine) (by decide +kernel)) (fun _ _ _ _ _ => (pg_name (i := 2) sc_State_open_mine.nd rfl (Or.inl rfl))) (fun _ _ _ _ _ => pts_nil) (fun _ _ _ _ _ => (pe_ix (r := rIxT K) ix_tup (pv 2) pe_int (fun _ _ => rfl))))) (pss_one (ps_ret (pe_lc (own := [("line", 3)]) (g := (gName 3)) (tt := _) rfl sc_State_open_mine.nd (pi_listK K (pe_fldK K (pv 0))) (blkOk_by (N := N_State_open_mine) (sc := defScope s_State_open_mine) (by decide +kernel)) (fun _ _ _ _ _ => (pg_name (i := 3) sc_State_open_mine.nd rfl (Or.inl rfl))) (fun _ _ _ _ _ => (pts_one (pt_cmpR (r := rIn K true) op_notIn_seq (pe_ix (r := rIxT K) ix_tup (pv 3) pe_int (fun _ _ => rfl)) (pv 1) rfl))) (fun _ _ _ _ _ => (pv 3)))))), ?_⟩
  try dsimp only [cxOf]
  rintro ds μ W X ⟨_, rfl, t, rfl, l1, l2, w⟩
  repeat infer_instance
  refine lcM Dt.int (e := fun p : Pr => p.1) (fun p hp => ?_) ?_ (by omega)
  · repeat infer_instance
  repeat eq_refl
  refine wps_ret (wp_lcS1R ?_)
  repeat infer_instance
  refine lcF (f := fun l : Ln => !decide (l.1 ∈ t.fixed.map fun p : Pr => p.1)) (fun l hl => ?_) ⟨_, rfl, w⟩ (by omega)
  repeat infer_instance
def q_State_open_theirs (K : Frag) (s : Dt) : Post := fun μ W _ => ∃ t : Stt, s = stD K t ∧ t.other.length ≤ 1000 ∧ t.fixed.length ≤ 1000 ∧ RetL W ((openOther t).map lnD) μ
abbrev sp_State_open_theirs (K : Frag) : DSp := sp1 (q_State_open_theirs K)
theorem ok_State_open_theirs {P : Program} {w : World} {K : Frag} {mg : Str → Option Value} {base : Heap} (G : Good fa fn K mg) : FnOk P w K mg base (L2.CX P w) 1 (mA "State" "open_theirs" K) (fdOf K (mA "State" "open_theirs" K)) ["self"] (spD K (sp_State_open_theirs K)) := by
  have c_State := G.cls 43 rfl
  have n_State_fixed := G.noat 117 rfl
  have c_State := G.cls 43 rfl
  have n_State_theirs := G.noat 115 rfl
  refine ok_defN 4 rfl rfl (G.def_ 64 rfl) sc_State_open_theirs len1 fun cdv A outer s0 H E hr => ⟨_, (pss_cons (ps_set (i := 1) sc_State_open_theirs.nd rfl (Or.inr rfl) (pe_lc (own := [("pair", 2)]) (g := (gName 2)) (tt := tYes) rfl sc_State_open_theirs.nd (pi_listK K (pe_fldK K (pv 0))) (blkOk_by (N := N_State_open_theirs) (sc := defScope s_State_open_theirs) (by decide +kernel)) (fun _ _ _ _ _ => (pg_name (i := 2) sc_State_open_theirs.nd rfl (Or.inl rfl))) (fun _ _ _ _ _ => pts_nil) (fun _ _ _ _ _ => (pe_ix (r := rIxT K) ix_tup (pv 2) pe_int (fun _ _ => rfl))))) (pss_one (ps_ret (pe_lc (own := [("line", 3)]) (g := (gName 3)) (tt := _) rfl sc_State_open_theirs.nd (pi_listK K (pe_fldK K (pv 0))) (blkOk_by (N := N_State_open_theirs) (sc := defScope s_State_open_theirs) (by decide +kernel)) (fun _ _ _ _ _ => (pg_name (i := 3) sc_State_open_theirs.nd rfl (Or.inl rfl))) (fun _ _ _ _ _ => (pts_one (pt_cmpR (r := rIn K true) op_notIn_seq (pe_ix (r := rIxT K) ix_tup (pv 3) pe_int (fun _ _ => rfl)) (pv 1) rfl))) (fun _ _ _ _ _ => (pv 3)))))), ?_⟩
  try dsimp only [cxOf]
  rintro ds μ W X ⟨_, rfl, t, rfl, l1, l2, w⟩
  repeat infer_instance
  refine lcM Dt.int (e := fun p : Pr => p.2) (fun p hp => ?_) ?_ (by omega)
  · repeat infer_instance
  repeat eq_refl
  refine wps_ret (wp_lcS1R ?_)
  repeat infer_instance
  refine lcF (f := fun l : Ln => !decide (l.1 ∈ t.fixed.map fun p : Pr => p.2)) (fun l hl => ?_) ⟨_, rfl, w⟩ (by omega)
  repeat infer_instance
def q_State_matched (K : Frag) (s : Dt) : Post := fun μ W _ => ∃ t : Stt, s = stD K t ∧ t.own.length ≤ 1000 ∧ t.other.length ≤ 1000 ∧ t.fixed.length ≤ 1000 ∧ StOk (openOwn t) (openOther t) ∧ RetL W ((matchedF t).map prD) μ
abbrev sp_State_matched (K : Frag) : DSp := sp1 (q_State_matched K)
theorem ok_State_matched {P : Program} {w : World} {K : Frag} {mg : Str → Option Value} {base : Heap} (G : Good fa fn K mg) : FnOk P w K mg base (L2.CX P w) 7 (mA "State" "matched" K) (fdOf K (mA "State" "matched" K)) ["self"] (spD K (sp_State_matched K)) := by
  have ok_matching_at : FnOk P w K mg base (L2.CX P w) 6 (gA "matching_at" K) (fdOf K (gA "matching_at" K)) ["own", "other", "price"] (spD K (sp_matching_at K)) := ok_matching_at G
  have ok_State_open_theirs : FnOk P w K mg base (L2.CX P w) 1 (mA "State" "open_theirs" K) (fdOf K (mA "State" "open_theirs" K)) ["self"] (spD K (sp_State_open_theirs K)) := ok_State_open_theirs G
  have ok_State_open_mine : FnOk P w K mg base (L2.CX P w) 1 (mA "State" "open_mine" K) (fdOf K (mA "State" "open_mine" K)) ["self"] (spD K (sp_State_open_mine K)) := ok_State_open_mine G
  have c_State := G.cls 43 rfl
  have n_State_cap := G.noat 116 rfl
  refine ok_defN 1 rfl rfl (G.def_ 65 rfl) sc_State_matched len1 fun cdv A outer s0 H E hr => ⟨_, (pss_one (ps_ret (pe_call ok_matching_at (hr.mono (by decide)) rfl (G.glo 87 rfl) (G.def_ 62 rfl).kp (b_matching_at G) .nil passL (pa_cons (pe_meth0 (pv 0) (G.cls 43 rfl) (G.meth 89 rfl) ok_State_open_mine (hr.mono (by decide)) (b_State_open_mine G) .nil passL) (pa_cons (pe_meth0 (pv 0) (G.cls 43 rfl) (G.meth 88 rfl) ok_State_open_theirs (hr.mono (by decide)) (b_State_open_theirs G) .nil passL) (pa_cons (pe_fldK K (pv 0)) pa_nil)))))), ?_⟩
  try dsimp only [cxOf]
  rintro ds μ W X ⟨_, rfl, t, rfl, l1, l2, l3, h, w⟩
  repeat infer_instance
  refine ⟨t, rfl, l1, l3, .inl ?_⟩
  repeat infer_instance
  refine ⟨t, rfl, l2, l3, .inl ?_⟩
  repeat infer_instance
  exact ⟨openOwn t, openOther t, t.cap, rfl, rfl, rfl, h, w⟩
def q_Comparison_pairs (K : Frag) (s : Dt) : Post := fun μ W _ => ∃ c a sts k t, s = .ref a ∧ CmpAt K μ c a sts k t ∧ StOk (openOwn t) (openOther t) ∧ RetL W ((matchedF t).map prD) μ
abbrev sp_Comparison_pairs (K : Frag) : DSp := sp1 (q_Comparison_pairs K)
theorem ok_Comparison_pairs {P : Program} {w : World} {K : Frag} {mg : Str → Option Value} {base : Heap} (G : Good fa fn K mg) : FnOk P w K mg base (L2.CX P w) 8 (mA "Comparison" "pairs" K) (fdOf K (mA "Comparison" "pairs" K)) ["self"] (spD K (sp_Comparison_pairs K)) := by
  have ok_Comparison_now : FnOk P w K mg base (L2.CX P w) 1 (mA "Comparison" "now" K) (fdOf K (mA "Comparison" "now" K)) ["self"] (spD K (sp_Comparison_now K)) := ok_Comparison_now G
  have ok_State_matched : FnOk P w K mg base (L2.CX P w) 7 (mA "State" "matched" K) (fdOf K (mA "State" "matched" K)) ["self"] (spD K (sp_State_matched K)) := ok_State_matched G
  refine ok_defN 1 rfl rfl (G.def_ 66 rfl) sc_Comparison_pairs len1 fun cdv A outer s0 H E hr => ⟨_, (pss_one (ps_ret (pe_meth0 (pe_meth0 (pv 0) (G.cls 27 rfl) (G.meth 30 rfl) ok_Comparison_now (hr.mono (by decide)) (b_Comparison_now G) .nil passL) (G.cls 43 rfl) (G.meth 90 rfl) ok_State_matched (hr.mono (by decide)) (b_State_matched G) .nil passL))), ?_⟩
  try dsimp only [cxOf]
  rintro ds μ W X ⟨_, rfl, c, a, sts, k, t, rfl, h, g, w⟩
  have hc := h.cell
  repeat infer_instance
  refine ⟨c, a, sts, k, t, rfl, h, ?_⟩
  repeat infer_instance
  exact ⟨t, rfl, h.own, h.other, h.fixed, g, w⟩


/-! ### reports -/
theorem ok_BadSpan___init__ {P : Program} {w : World} {K : Frag} {mg : Str → Option Value} {base : Heap} (G : Good fa fn K mg) : FnOk P w K mg base (L2.CX P w) 1 (mA "BadSpan" "__init__" K) (fdOf K (mA "BadSpan" "__init__" K)) ["self", "value"] (spX K (gA "BadSpan" K) (mA "BadSpan" "__init__" K) "value") :=
  ok_exc (m := "invalid span") (G.def_ 67 rfl) sc_BadSpan___init__ rfl (G.exc1 93 rfl) fun cdv A outer s0 H E hr => pss_cons (ps_expr (pe_oinit rfl (G.glo 112 rfl) (G.exc0 113 rfl) (pa_cons (pv 0) (pa_cons pe_str pa_nil)))) (pss_one (ps_ost (pv 0) (pv 1)))
def q_is_day (a : Dt) : Post := fun μ W _ => (∃ i, a = .int i ∧ W (.bl (decide (0 ≤ i) && decide (i ≤ 1000000))) μ) ∨ (IsInt μ a false ∧ W (.bl false) μ)
abbrev sp_is_day (_ : Frag) : DSp := sp1 q_is_day
theorem ok_is_day {P : Program} {w : World} {K : Frag} {mg : Str → Option Value} {base : Heap} (G : Good fa fn K mg) : FnOk P w K mg base (L2.CX P w) 1 (gA "is_day" K) (fdOf K (gA "is_day" K)) ["value"] (spD K (sp_is_day K)) := by
  obtain ⟨tk_MAX_DAY, hk_MAX_DAY⟩ := G.int 91 rfl
  refine ok_defN 1 rfl rfl (G.def_ 68 rfl) sc_is_day len1 fun cdv A outer s0 H E hr => ⟨_, (pss_one (ps_ret (pe_and (pe_callB (r := rIsi K) call_isi rfl (G.free 0 rfl) (by rfl) (pa_cons (pv 0) (pa_cons (pe_bltn (v := .ty "int") (u := .type "int") rfl (G.free 1 rfl) rfl rfl) pa_nil))) (pe_and (pe_not (pe_callB (r := rIsi K) call_isi rfl (G.free 0 rfl) (by rfl) (pa_cons (pv 0) (pa_cons (pe_bltn (v := .ty "bool") (u := .type "bool") rfl (G.free 2 rfl) rfl rfl) pa_nil)))) (pe_one (pe_chain op_le op_le pe_int (pv 0) (pe_glob (v := .int 1000000) rfl hk_MAX_DAY ⟨_, rfl⟩))))))), ?_⟩
  try dsimp only [cxOf]
  rintro ds μ W X ⟨a, rfl, w⟩
  repeat ac_rfl
  rcases w with ⟨i, rfl, w⟩ | ⟨⟨i, _, h⟩ | ⟨_, t, ht, rfl | hk⟩, w⟩
  · refine rw_isi (.int i) (b := true) (by decide +kernel) ?_
    repeat ac_rfl
    refine rw_isi (.int i) (b := false) (by decide +kernel) ?_
    repeat ac_rfl
    refine it2 (fun e => ?_) fun e => ?_
    · repeat ac_rfl
      rw [e] at w
      exact w
    · rw [e] at w
      exact w
  · cases h
  · refine rw_isi ht (b := true) (by decide +kernel) ?_
    repeat ac_rfl
    refine rw_isi ht (b := true) (by decide +kernel) ?_
    repeat ac_rfl
    exact w
  · refine rw_isi ht hk ?_
    repeat ac_rfl
    exact w
def q_need_span (a b : Dt) : Post := fun μ W _ => ∃ i j : Int, a = .int i ∧ b = .int j ∧ 0 ≤ i ∧ i ≤ j ∧ j ≤ 1000000 ∧ W .non μ
abbrev sp_need_span (_ : Frag) : DSp := sp2 q_need_span
theorem ok_need_span {P : Program} {w : World} {K : Frag} {mg : Str → Option Value} {base : Heap} (G : Good fa fn K mg) : FnOk P w K mg base (L2.CX P w) 3 (gA "need_span" K) (fdOf K (gA "need_span" K)) ["first", "last"] (spD K (sp_need_span K)) := by
  have ok_is_day : FnOk P w K mg base (L2.CX P w) 1 (gA "is_day" K) (fdOf K (gA "is_day" K)) ["value"] (spD K (sp_is_day K)) := ok_is_day G
  have ok_BadSpan___init__ : FnOk P w K mg base (L2.CX P w) 1 (mA "BadSpan" "__init__" K) (fdOf K (mA "BadSpan" "__init__" K)) ["self", "value"] (spX K (gA "BadSpan" K) (mA "BadSpan" "__init__" K) "value") := ok_BadSpan___init__ G
  refine ok_defN 2 rfl rfl (G.def_ 69 rfl) sc_need_span len2 fun cdv A outer s0 H E hr => ⟨_, (pss_one (ps_if (PW.pt (pw_or (pt_not (pt_val (pe_call ok_is_day (hr.mono (by decide)) rfl (G.glo 92 rfl) (G.def_ 68 rfl).kp (b_is_day G) .nil passL (pa_cons (pv 0) pa_nil)))) (pw_or (pt_not (pt_val (pe_call ok_is_day (hr.mono (by decide)) rfl (G.glo 92 rfl) (G.def_ 68 rfl).kp (b_is_day G) .nil passL (pa_cons (pv 1) pa_nil)))) (pw_or1 (pt_cmpR op_gt (pv 0) (pv 1) (nomark _)))))) (pss_one (L2.ps_raise rfl (takes_of rfl rfl rfl rfl) (pmk_oex (G.exc1 93 rfl).o (G.exc1 93 rfl).i (G.exc1 93 rfl).t ok_BadSpan___init__ (hr.mono (by decide)) (b_BadSpan___init__ G) .nil passL rfl (G.glo 94 rfl) (pa_cons (pe_tup (pa_cons (pv 0) (pa_cons (pv 1) pa_nil))) pa_nil)))) pss_nil)), ?_⟩
  try dsimp only [cxOf]
  rintro ds μ W X ⟨_, _, rfl, i, j, rfl, rfl, h1, h2, h3, w⟩
  repeat ac_rfl
  refine .inl ⟨i, rfl, ?_⟩
  rw [decide_eq_true h1, decide_eq_true (show i ≤ 1000000 by omega)]
  repeat ac_rfl
  refine .inl ⟨j, rfl, ?_⟩
  rw [decide_eq_true h3, decide_eq_true (show 0 ≤ j by omega)]
  repeat ac_rfl
  refine itF (decide_eq_false (by omega)) ?_
  repeat ac_rfl
  exact w
def q_amount_of (a b : Dt) : Post := fun μ W _ => ∃ (ls : List Ln) (is : List Int), a = .lst (ls.map lnD) ∧ b = .lst (is.map .int) ∧ ls.length ≤ 1000 ∧ W (.int (amtS (ls.filter fun l => decide (l.1 ∈ is)))) μ
abbrev sp_amount_of (_ : Frag) : DSp := sp2 q_amount_of
theorem ok_amount_of {P : Program} {w : World} {K : Frag} {mg : Str → Option Value} {base : Heap} (G : Good fa fn K mg) : FnOk P w K mg base (L2.CX P w) 1 (gA "amount_of" K) (fdOf K (gA "amount_of" K)) ["lines", "ids"] (spD K (sp_amount_of K)) := by
  refine ok_defN 3 rfl rfl (G.def_ 70 rfl) sc_amount_of len2 fun cdv A outer s0 H E hr => ⟨_, (pss_one (ps_ret (pe_callB (r := rSum K) (cr_sum rfl) rfl (G.free 95 rfl) (by rfl) (pa_cons (pe_lc (own := [("line", 2)]) (g := (gName 2)) (tt := _) rfl sc_amount_of.nd (pi_listK K (pv 0)) (blkOk_by (N := N_amount_of) (sc := defScope s_amount_of) (by decide +kernel)) (fun _ _ _ _ _ => (pg_name (i := 2) sc_amount_of.nd rfl (Or.inl rfl))) (fun _ _ _ _ _ => (pts_one (pt_cmpR (r := rIn K false) op_in_seq (pe_ix (r := rIxT K) ix_tup (pv 2) pe_int (fun _ _ => rfl)) (pv 1) rfl))) (fun _ _ _ _ _ => (pe_ix (r := rIxT K) ix_tup (pv 2) pe_int (fun _ _ => rfl)))) pa_nil)))), ?_⟩
  try dsimp only [cxOf]
  rintro ds μ W X ⟨_, _, rfl, ls, is, rfl, rfl, hl, w⟩
  repeat infer_instance
  refine lcFM Dt.int (f := fun l : Ln => decide (l.1 ∈ is)) (e := fun l : Ln => l.2.2) (fun l hl => ?_) ?_ (by omega)
  · repeat infer_instance
  repeat infer_instance
  refine rw_sumI ?_
  exact w
def q_lines_between (l a b : Dt) : Post := fun μ W _ => ∃ (ls : List Ln) (i j : Int), l = .lst (ls.map lnD) ∧ a = .int i ∧ b = .int j ∧ ls.length ≤ 1000 ∧ W (.lst ((betw i j ls).map lnD)) μ
abbrev sp_lines_between (_ : Frag) : DSp := sp3 q_lines_between
theorem ok_lines_between {P : Program} {w : World} {K : Frag} {mg : Str → Option Value} {base : Heap} (G : Good fa fn K mg) : FnOk P w K mg base (L2.CX P w) 1 (gA "lines_between" K) (fdOf K (gA "lines_between" K)) ["lines", "first", "last"] (spD K (sp_lines_between K)) := by
  refine ok_defN 4 rfl rfl (G.def_ 71 rfl) sc_lines_between len3 fun cdv A outer s0 H E hr => ⟨_, (pss_one (ps_ret (pe_lc (own := [("line", 3)]) (g := (gName 3)) (tt := _) rfl sc_lines_between.nd (pi_listK K (pv 0)) (blkOk_by (N := N_lines_between) (sc := defScope s_lines_between) (by decide +kernel)) (fun _ _ _ _ _ => (pg_name (i := 3) sc_lines_between.nd rfl (Or.inl rfl))) (fun _ _ _ _ _ => (pts_one (pt_chain op_le op_le (pv 1) (pe_ix (r := rIxT K) ix_tup (pv 3) pe_int (fun _ _ => rfl)) (pv 2)))) (fun _ _ _ _ _ => (pv 3))))), ?_⟩
  try dsimp only [cxOf]
  rintro ds μ W X ⟨_, _, _, rfl, ls, i, j, rfl, rfl, rfl, hl, w⟩
  repeat infer_instance
  refine lcF (f := fun l : Ln => decide (i ≤ l.2.1) && decide (l.2.1 ≤ j)) (fun l hl => ?_) ?_ (by omega)
  · repeat infer_instance
    refine it2 (fun e => ?_) fun e => ?_
    · repeat infer_instance
      refine ⟨by rw [e]; rfl, rfl, fun _ => ?_⟩
      repeat infer_instance
    · exact ⟨_, rfl, by rw [e]; rfl, rfl, fun h => by cases h⟩
  repeat infer_instance
  exact w
def q_book_sums (l a b : Dt) : Post := fun μ W _ => ∃ (ls : List Ln) (fs ms : List Int), l = .lst (ls.map lnD) ∧ a = .lst (fs.map .int) ∧ b = .lst (ms.map .int) ∧ ls.length ≤ 1000 ∧ W (.tup ((bookS ls fs ms).map .int)) μ
abbrev sp_book_sums (_ : Frag) : DSp := sp3 q_book_sums
theorem ok_book_sums {P : Program} {w : World} {K : Frag} {mg : Str → Option Value} {base : Heap} (G : Good fa fn K mg) : FnOk P w K mg base (L2.CX P w) 2 (gA "book_sums" K) (fdOf K (gA "book_sums" K)) ["lines", "fixed_ids", "matched_ids"] (spD K (sp_book_sums K)) := by
  have ok_amount_of : FnOk P w K mg base (L2.CX P w) 1 (gA "amount_of" K) (fdOf K (gA "amount_of" K)) ["lines", "ids"] (spD K (sp_amount_of K)) := ok_amount_of G
  refine ok_defN 5 rfl rfl (G.def_ 72 rfl) sc_book_sums len3 fun cdv A outer s0 H E hr => ⟨_, (pss_cons (ps_set (i := 3) sc_book_sums.nd rfl (Or.inl rfl) (pe_tup (pa_cons (pe_callB (r := rSum K) (cr_sum rfl) rfl (G.free 95 rfl) (by rfl) (pa_cons (pe_lc (own := [("line", 4)]) (g := (gName 4)) (tt := tYes) rfl sc_book_sums.nd (pi_listK K (pv 0)) (blkOk_by (N := N_book_sums) (sc := defScope s_book_sums) (by decide +kernel)) (fun _ _ _ _ _ => (pg_name (i := 4) sc_book_sums.nd rfl (Or.inl rfl))) (fun _ _ _ _ _ => pts_nil) (fun _ _ _ _ _ => (pe_ix (r := rIxT K) ix_tup (pv 4) pe_int (fun _ _ => rfl)))) pa_nil)) (pa_cons (pe_call ok_amount_of (hr.mono (by decide)) rfl (G.glo 96 rfl) (G.def_ 70 rfl).kp (b_amount_of G) .nil passL (pa_cons (pv 0) (pa_cons (pv 1) pa_nil))) (pa_cons (pe_call ok_amount_of (hr.mono (by decide)) rfl (G.glo 96 rfl) (G.def_ 70 rfl).kp (b_amount_of G) .nil passL (pa_cons (pv 0) (pa_cons (pv 2) pa_nil))) pa_nil))))) (pss_one (ps_ret (pe_tup (pa_starK K (pv 3) (pa_cons (pe_op op_sub (pe_op op_sub (pe_ix (r := rIxT K) ix_tup (pv 3) pe_int (fun _ _ => rfl)) (pe_ix (r := rIxT K) ix_tup (pv 3) pe_int (fun _ _ => rfl))) (pe_ix (r := rIxT K) ix_tup (pv 3) pe_int (fun _ _ => rfl))) pa_nil)))))), ?_⟩
  try dsimp only [cxOf]
  rintro ds μ W X ⟨_, _, _, rfl, ls, fs, ms, rfl, rfl, rfl, hl, w⟩
  repeat infer_instance
  refine lcM Dt.int (e := fun l : Ln => l.2.2) (fun l hl => ?_) ?_ (by omega)
  · repeat infer_instance
  repeat infer_instance
  refine rw_sumI ?_
  repeat infer_instance
  refine ⟨ls, fs, rfl, rfl, hl, ?_⟩
  repeat infer_instance
  refine ⟨ls, ms, rfl, rfl, hl, ?_⟩
  repeat infer_instance
  refine ⟨_, .inr (.inl rfl), ?_⟩
  repeat infer_instance
  exact w
def q_report (K : Frag) (s a b : Dt) : Post := fun μ W _ => ∃ c r sts k t i j, s = .ref r ∧ CmpAt K μ c r sts k t ∧ StOk (openOwn t) (openOther t) ∧ a = .int i ∧ b = .int j ∧ 0 ≤ i ∧ i ≤ j ∧ j ≤ 1000000 ∧ W (repD t i j) μ
abbrev sp_report (K : Frag) : DSp := sp3 (q_report K)
theorem ok_report {P : Program} {w : World} {K : Frag} {mg : Str → Option Value} {base : Heap} (G : Good fa fn K mg) : FnOk P w K mg base (L2.CX P w) 9 (gA "report" K) (fdOf K (gA "report" K)) ["comparison", "first", "last"] (spD K (sp_report K)) := by
  have ok_need_span : FnOk P w K mg base (L2.CX P w) 3 (gA "need_span" K) (fdOf K (gA "need_span" K)) ["first", "last"] (spD K (sp_need_span K)) := ok_need_span G
  have ok_Comparison_confirmed : FnOk P w K mg base (L2.CX P w) 1 (pA "Comparison" "confirmed" K) (fdOf K (pA "Comparison" "confirmed" K)) ["self"] (spD K (sp_Comparison_confirmed K)) := ok_Comparison_confirmed G
  have ok_Comparison_pairs : FnOk P w K mg base (L2.CX P w) 8 (mA "Comparison" "pairs" K) (fdOf K (mA "Comparison" "pairs" K)) ["self"] (spD K (sp_Comparison_pairs K)) := ok_Comparison_pairs G
  have ok_lines_between : FnOk P w K mg base (L2.CX P w) 1 (gA "lines_between" K) (fdOf K (gA "lines_between" K)) ["lines", "first", "last"] (spD K (sp_lines_between K)) := ok_lines_between G
  have ok_Comparison_own : FnOk P w K mg base (L2.CX P w) 1 (pA "Comparison" "own" K) (fdOf K (pA "Comparison" "own" K)) ["self"] (spD K (sp_Comparison_own K)) := ok_Comparison_own G
  have ok_Comparison_other : FnOk P w K mg base (L2.CX P w) 1 (pA "Comparison" "other" K) (fdOf K (pA "Comparison" "other" K)) ["self"] (spD K (sp_Comparison_other K)) := ok_Comparison_other G
  have ok_book_sums : FnOk P w K mg base (L2.CX P w) 2 (gA "book_sums" K) (fdOf K (gA "book_sums" K)) ["lines", "fixed_ids", "matched_ids"] (spD K (sp_book_sums K)) := ok_book_sums G
  refine ok_defN 9 rfl rfl (G.def_ 73 rfl) sc_report len3 fun cdv A outer s0 H E hr => ⟨_, (pss_cons (ps_expr (pe_call ok_need_span (hr.mono (by decide)) rfl (G.glo 97 rfl) (G.def_ 69 rfl).kp (b_need_span G) .nil passL (pa_cons (pv 1) (pa_cons (pv 2) pa_nil)))) (pss_cons (ps_par (i := 3) (j := 4) rfl sc_report.nd rfl rfl (by decide) rfl rfl (pa_cons (pe_prop (pv 0) (G.cls 27 rfl) (G.prop 39 rfl) ok_Comparison_confirmed (hr.mono (by decide)) (b_Comparison_confirmed G) .nil passL rfl) (pa_cons (pe_meth0 (pv 0) (G.cls 27 rfl) (G.meth 98 rfl) ok_Comparison_pairs (hr.mono (by decide)) (b_Comparison_pairs G) .nil passL) pa_nil)) rfl) (pss_cons (ps_set (i := 5) sc_report.nd rfl (Or.inl rfl) (pe_call ok_lines_between (hr.mono (by decide)) rfl (G.glo 99 rfl) (G.def_ 71 rfl).kp (b_lines_between G) .nil passL (pa_cons (pe_prop (pv 0) (G.cls 27 rfl) (G.prop 29 rfl) ok_Comparison_own (hr.mono (by decide)) (b_Comparison_own G) .nil passL rfl) (pa_cons (pv 1) (pa_cons (pv 2) pa_nil))))) (pss_cons (ps_set (i := 6) sc_report.nd rfl (Or.inl rfl) (pe_call ok_lines_between (hr.mono (by decide)) rfl (G.glo 99 rfl) (G.def_ 71 rfl).kp (b_lines_between G) .nil passL (pa_cons (pe_prop (pv 0) (G.cls 27 rfl) (G.prop 33 rfl) ok_Comparison_other (hr.mono (by decide)) (b_Comparison_other G) .nil passL rfl) (pa_cons (pv 1) (pa_cons (pv 2) pa_nil))))) (pss_cons (ps_set (i := 7) sc_report.nd rfl (Or.inl rfl) (pe_call ok_book_sums (hr.mono (by decide)) rfl (G.glo 100 rfl) (G.def_ 72 rfl).kp (b_book_sums G) .nil passL (pa_cons (pv 5) (pa_cons (pe_lc (own := [("pair", 8)]) (g := (gName 8)) (tt := tYes) rfl sc_report.nd (pi_listK K (pv 3)) (blkOk_by (N := N_report) (sc := defScope s_report) (by decide +kernel)) (fun _ _ _ _ _ => (pg_name (i := 8) sc_report.nd rfl (Or.inl rfl))) (fun _ _ _ _ _ => pts_nil) (fun _ _ _ _ _ => (pe_ix (r := rIxT K) ix_tup (pv 8) pe_int (fun _ _ => rfl)))) (pa_cons (pe_lc (own := [("pair", 8)]) (g := (gName 8)) (tt := tYes) rfl sc_report.nd (pi_listK K (pv 4)) (blkOk_by (N := N_report) (sc := defScope s_report) (by decide +kernel)) (fun _ _ _ _ _ => (pg_name (i := 8) sc_report.nd rfl (Or.inl rfl))) (fun _ _ _ _ _ => pts_nil) (fun _ _ _ _ _ => (pe_ix (r := rIxT K) ix_tup (pv 8) pe_int (fun _ _ => rfl)))) pa_nil))))) (pss_one (ps_ret (pe_tup (pa_cons (pv 7) (pa_cons (pe_call ok_book_sums (hr.mono (by decide)) rfl (G.glo 100 rfl) (G.def_ 72 rfl).kp (b_book_sums G) .nil passL (pa_cons (pv 6) (pa_cons (pe_lc (own := [("pair", 8)]) (g := (gName 8)) (tt := tYes) rfl sc_report.nd (pi_listK K (pv 3)) (blkOk_by (N := N_report) (sc := defScope s_report) (by decide +kernel)) (fun _ _ _ _ _ => (pg_name (i := 8) sc_report.nd rfl (Or.inl rfl))) (fun _ _ _ _ _ => pts_nil) (fun _ _ _ _ _ => (pe_ix (r := rIxT K) ix_tup (pv 8) pe_int (fun _ _ => rfl)))) (pa_cons (pe_lc (own := [("pair", 8)]) (g := (gName 8)) (tt := tYes) rfl sc_report.nd (pi_listK K (pv 4)) (blkOk_by (N := N_report) (sc := defScope s_report) (by decide +kernel)) (fun _ _ _ _ _ => (pg_name (i := 8) sc_report.nd rfl (Or.inl rfl))) (fun _ _ _ _ _ => pts_nil) (fun _ _ _ _ _ => (pe_ix (r := rIxT K) ix_tup (pv 8) pe_int (fun _ _ => rfl)))) pa_nil)))) pa_nil)))))))))), ?_⟩
  try dsimp only [cxOf]
  rintro ds μ W X ⟨_, _, _, rfl, c, r, sts, k, t, i, j, rfl, h, g, rfl, rfl, h1, h2, h3, w⟩
  have z1 := h.own
  have z2 := h.other
  have z3 := h.fixed
  have ml := matched_len g
  have hc := h.cell
  have b1 : (betw i j t.own).length ≤ 1000 := Nat.le_trans (List.length_filter_le _ _) h.own
  have b2 : (betw i j t.other).length ≤ 1000 := Nat.le_trans (List.length_filter_le _ _) h.other
  repeat infer_instance
  refine ⟨i, j, rfl, rfl, h1, h2, h3, ?_⟩
  repeat infer_instance
  refine ⟨c, r, sts, k, t, rfl, h, .inl ?_⟩
  repeat infer_instance
  refine ⟨c, r, sts, k, t, rfl, h, g, .inl ?_⟩
  repeat infer_instance
  refine ⟨_, _, rfl, ?_⟩
  repeat infer_instance
  refine ⟨c, r, sts, k, t, rfl, h, .inl ?_⟩
  repeat infer_instance
  refine ⟨t.own, i, j, rfl, rfl, rfl, z1, ?_⟩
  repeat infer_instance
  refine ⟨c, r, sts, k, t, rfl, h, .inl ?_⟩
  repeat infer_instance
  refine ⟨t.other, i, j, rfl, rfl, rfl, z2, ?_⟩
  repeat infer_instance
  refine lcM Dt.int (e := fun p : Pr => p.1) (fun p hp => ?_) ?_ (by omega)
  · repeat infer_instance
  repeat infer_instance
  refine lcM Dt.int (e := fun p : Pr => p.1) (fun p hp => ?_) ?_ (by omega)
  · repeat infer_instance
  repeat infer_instance
  refine ⟨_, _, _, rfl, rfl, rfl, b1, ?_⟩
  repeat infer_instance
  refine lcM Dt.int (e := fun p : Pr => p.2) (fun p hp => ?_) ?_ (by omega)
  · repeat infer_instance
  repeat infer_instance
  refine lcM Dt.int (e := fun p : Pr => p.2) (fun p hp => ?_) ?_ (by omega)
  · repeat infer_instance
  repeat infer_instance
  refine ⟨_, _, _, rfl, rfl, rfl, b2, ?_⟩
  repeat infer_instance
  exact w
def q_balance (K : Frag) (s : Dt) : Post := fun μ W _ => ∃ c r sts k t, s = .ref r ∧ CmpAt K μ c r sts k t ∧ W (.int (balF t)) μ
abbrev sp_balance (K : Frag) : DSp := sp1 (q_balance K)
theorem ok_balance {P : Program} {w : World} {K : Frag} {mg : Str → Option Value} {base : Heap} (G : Good fa fn K mg) : FnOk P w K mg base (L2.CX P w) 3 (gA "balance" K) (fdOf K (gA "balance" K)) ["comparison"] (spD K (sp_balance K)) := by
  have ok_Comparison_own : FnOk P w K mg base (L2.CX P w) 1 (pA "Comparison" "own" K) (fdOf K (pA "Comparison" "own" K)) ["self"] (spD K (sp_Comparison_own K)) := ok_Comparison_own G
  have ok_Comparison_other : FnOk P w K mg base (L2.CX P w) 1 (pA "Comparison" "other" K) (fdOf K (pA "Comparison" "other" K)) ["self"] (spD K (sp_Comparison_other K)) := ok_Comparison_other G
  refine ok_defN 2 rfl rfl (G.def_ 74 rfl) sc_balance len1 fun cdv A outer s0 H E hr => ⟨_, (pss_one (ps_ret (pe_op op_sub (pe_callB (r := rSum K) (cr_sum rfl) rfl (G.free 95 rfl) (by rfl) (pa_cons (pe_lc (own := [("line", 1)]) (g := (gName 1)) (tt := tYes) rfl sc_balance.nd (pi_listK K (pe_prop (pv 0) (G.cls 27 rfl) (G.prop 29 rfl) ok_Comparison_own (hr.mono (by decide)) (b_Comparison_own G) .nil passL rfl)) (blkOk_by (N := N_balance) (sc := defScope s_balance) (by decide +kernel)) (fun _ _ _ _ _ => (pg_name (i := 1) sc_balance.nd rfl (Or.inl rfl))) (fun _ _ _ _ _ => pts_nil) (fun _ _ _ _ _ => (pe_ix (r := rIxT K) ix_tup (pv 1) pe_int (fun _ _ => rfl)))) pa_nil)) (pe_callB (r := rSum K) (cr_sum rfl) rfl (G.free 95 rfl) (by rfl) (pa_cons (pe_lc (own := [("line", 1)]) (g := (gName 1)) (tt := tYes) rfl sc_balance.nd (pi_listK K (pe_prop (pv 0) (G.cls 27 rfl) (G.prop 33 rfl) ok_Comparison_other (hr.mono (by decide)) (b_Comparison_other G) .nil passL rfl)) (blkOk_by (N := N_balance) (sc := defScope s_balance) (by decide +kernel)) (fun _ _ _ _ _ => (pg_name (i := 1) sc_balance.nd rfl (Or.inl rfl))) (fun _ _ _ _ _ => pts_nil) (fun _ _ _ _ _ => (pe_ix (r := rIxT K) ix_tup (pv 1) pe_int (fun _ _ => rfl)))) pa_nil))))), ?_⟩
  try dsimp only [cxOf]
  rintro ds μ W X ⟨_, rfl, c, r, sts, k, t, rfl, h, w⟩
  have z1 := h.own
  have z2 := h.other
  have hc := h.cell
  repeat infer_instance
  refine ⟨c, r, sts, k, t, rfl, h, .inl ?_⟩
  repeat infer_instance
  refine lcM Dt.int (e := fun l : Ln => l.2.2) (fun l hl => ?_) ?_ (by omega)
  · repeat infer_instance
  repeat infer_instance
  refine rw_sumI ?_
  repeat infer_instance
  refine ⟨c, r, sts, k, t, rfl, h, .inl ?_⟩
  repeat infer_instance
  refine lcM Dt.int (e := fun l : Ln => l.2.2) (fun l hl => ?_) ?_ (by omega)
  · repeat infer_instance
  repeat infer_instance
  refine rw_sumI ?_
  repeat infer_instance
  exact w



/-! ### k53 -/
def accD (x : Int × Int × Int × Int) : List Dt := [.int x.1, .int x.2.1, .int x.2.2.1, .int x.2.2.2]
def q__law_sums (l f m a b : Dt) : Post := fun μ W _ => ∃ (ls : List Ln) (fs ms : List Int) (i j : Int), l = .lst (ls.map lnD) ∧ f = .lst (fs.map .int) ∧ m = .lst (ms.map .int) ∧ a = .int i ∧ b = .int j ∧ ls.length ≤ 1000 ∧ (∀ x ∈ ms, x ∉ fs) ∧ W (.tup ((bookS (betw i j ls) fs ms).map .int)) μ
abbrev sp__law_sums (_ : Frag) : DSp := sp5 q__law_sums
theorem ok__law_sums {P : Program} {w : World} {K : Frag} {mg : Str → Option Value} {base : Heap} (G : Good fa fn K mg) : FnOk P w K mg base (L2.CX P w) 1 (gA "_law_sums" K) (fdOf K (gA "_law_sums" K)) ["lines", "fixed", "matched", "first", "last"] (spD K (sp__law_sums K)) := by
  refine ok_defN 10 rfl rfl (G.def_ 75 rfl) sc__law_sums len5 fun cdv A outer s0 H E hr => ⟨_, (pss_cons (ps_set (i := 5) sc__law_sums.nd rfl (Or.inl rfl) (pe_lst (pa_cons pe_int (pa_cons pe_int (pa_cons pe_int (pa_cons pe_int pa_nil)))))) (pss_cons (ps_for PassesOwn.leaving rfl (pi_listK K (pv 0)) (pg_tup (n := 3) rfl (pgs_cons (pg_name (i := 6) sc__law_sums.nd rfl (Or.inl rfl)) (pgs_cons (pg_name (i := 7) sc__law_sums.nd rfl (Or.inl rfl)) (pgs_cons (pg_name (i := 8) sc__law_sums.nd rfl (Or.inl rfl)) pgs_nil)))) (pss_one (ps_if (pt_chain op_le op_le (pv 3) (pv 7) (pv 4)) (pss_cons (ps_asg (pe_op op_add (pe_ix (r := rIxL K) ix_list (pv 5) pe_int (fun _ _ => rfl)) (pv 8)) (pg_sub (pv 5) pe_int set_list)) (pss_cons (ps_set (i := 9) sc__law_sums.nd rfl (Or.inl rfl) (pe_ifExp (pt_cmpR (r := rIn K false) op_in_seq (pv 6) (pv 1) rfl) pe_int (pe_ifExp (pt_cmpR (r := rIn K false) op_in_seq (pv 6) (pv 2) rfl) pe_int pe_int))) (pss_one (ps_asg (pe_op op_add (pe_ix (r := rIxL K) ix_list (pv 5) (pv 9) (fun _ _ => rfl)) (pv 8)) (pg_sub (pv 5) (pv 9) set_list))))) pss_nil))) (pss_one (ps_ret (pe_callTy (r := rTupO K) cr_tupO rfl (G.free 4 rfl) (by rfl) (pa_cons (pv 5) pa_nil)))))), ?_⟩
  try dsimp only [cxOf]
  rintro ds μ W X ⟨_, _, _, _, _, rfl, ls, fs, ms, i, j, rfl, rfl, rfl, rfl, rfl, hl, hd, w⟩
  refine wps_dropR ?_
  refine wps_seq (wps_asg (wp_lstC ?_))
  repeat infer_instance
  intro p hp
  repeat infer_instance
  refine wps_for ?_
  repeat infer_instance
  refine ⟨fun n ρ' μ' => ∃ o6 o7 o8 o9, μ' = (p, .lst (accD ((betw i j (ls.take n)).foldl (addS fs ms) (0, 0, 0, 0)))) :: μ ∧ ρ' = [some (.lst (ls.map lnD)), some (.lst (fs.map .int)), some (.lst (ms.map .int)), some (.int i), some (.int j), some (.ref p), o6, o7, o8, o9], ⟨_, _, _, _, rfl, rfl⟩, ?_, ?_⟩
  · rintro n y ρ' μ' hy ⟨o6, o7, o8, o9, rfl, rfl⟩
    obtain ⟨l, hl2, rfl⟩ := map_at hy
    have tk : ls.take (n + 1) = ls.take n ++ [l] := by rw [List.take_add_one, hl2]; rfl
    have e1 : ∀ h : (decide (i ≤ l.2.1) && decide (l.2.1 ≤ j)) = true, betw i j (ls.take (n + 1)) = betw i j (ls.take n) ++ [l] := fun h => by
      unfold betw
      rw [tk, List.filter_append, List.filter_cons, if_pos h]
      rfl
    have e2 : ∀ h : (decide (i ≤ l.2.1) && decide (l.2.1 ≤ j)) = false, betw i j (ls.take (n + 1)) = betw i j (ls.take n) := fun h => by
      unfold betw
      rw [tk, List.filter_append, List.filter_cons, if_neg (by rw [h]; decide)]
      simp
    generalize ha : (betw i j (ls.take n)).foldl (addS fs ms) (0, 0, 0, 0) = acc at *
    obtain ⟨x0, x1, x2, x3⟩ := acc
    repeat infer_instance
    refine it2 (fun h1 => ?_) fun h1 => ?_
    · repeat infer_instance
      refine it2 (fun h2 => ?_) fun h2 => ?_
      · repeat infer_instance
        refine rw_ixC (d := .int x0) (c := 0) rfl rfl ?_
        repeat infer_instance
        refine wpg_setL ?_
        repeat infer_instance
        refine ⟨0, p, _, 0, 0, rfl, rfl, rfl, rfl, ?_⟩
        simp only [List.set_cons_zero, accD]
        repeat infer_instance
        refine it2 (fun h3 => ?_) fun h3 => ?_
        · have h3 := of_decide_eq_true h3
          repeat infer_instance
          refine rw_ixC (d := .int x1) (c := 0) rfl rfl ?_
          repeat infer_instance
          refine wpg_setL ?_
          repeat infer_instance
          refine ⟨0, p, _, 1, 1, rfl, rfl, rfl, rfl, ?_⟩
          refine ⟨_, _, _, _, ?_, rfl⟩
          rw [e1 (by rw [h1, h2]; rfl), List.foldl_append, ha, List.foldl_cons, List.foldl_nil]
          unfold addS
          rw [if_pos h3]
          rfl
        · have h3 := of_decide_eq_false h3
          repeat infer_instance
          refine it2 (fun h4 => ?_) fun h4 => ?_
          · have h4 := of_decide_eq_true h4
            repeat infer_instance
            refine rw_ixC (d := .int x2) (c := 0) rfl rfl ?_
            repeat infer_instance
            refine wpg_setL ?_
            repeat infer_instance
            refine ⟨0, p, _, 2, 2, rfl, rfl, rfl, rfl, ?_⟩
            refine ⟨_, _, _, _, ?_, rfl⟩
            rw [e1 (by rw [h1, h2]; rfl), List.foldl_append, ha, List.foldl_cons, List.foldl_nil]
            unfold addS
            rw [if_neg h3, if_pos h4]
            rfl
          · have h4 := of_decide_eq_false h4
            repeat infer_instance
            refine rw_ixC (d := .int x3) (c := 0) rfl rfl ?_
            repeat infer_instance
            refine wpg_setL ?_
            repeat infer_instance
            refine ⟨0, p, _, 3, 3, rfl, rfl, rfl, rfl, ?_⟩
            refine ⟨_, _, _, _, ?_, rfl⟩
            rw [e1 (by rw [h1, h2]; rfl), List.foldl_append, ha, List.foldl_cons, List.foldl_nil]
            unfold addS
            rw [if_neg h3, if_neg h4]
            rfl
      · repeat infer_instance
        refine ⟨_, _, _, _, ?_, rfl⟩
        rw [e2 (by rw [h1, h2]; rfl), ha]
    · repeat infer_instance
      refine ⟨_, _, _, _, ?_, rfl⟩
      rw [e2 (by rw [h1]; rfl), ha]
  · rintro ρ' μ' ⟨o6, o7, o8, o9, rfl, rfl⟩
    rw [List.length_map, List.take_length]
    repeat infer_instance
    refine rw_tupO (islC 0 rfl) ?_
    refine ⟨[_], _, rfl, ?_⟩
    rw [add_sums _ _ fun l hl h => hd _ h]
    unfold accD
    simp only [Int.zero_add]
    exact w
theorem rep_bounds {m : Nat} {t : Stt} (v : Val m t) (hm : m ≤ 60) (i j : Int) : (betw i j t.own).length ≤ 60 ∧ (betw i j t.other).length ≤ 60 := by
  have h1 := v.l1
  have h2 := v.l2
  have a := List.length_filter_le (fun l : Ln => decide (i ≤ l.2.1) && decide (l.2.1 ≤ j)) t.own
  have b := List.length_filter_le (fun l : Ln => decide (i ≤ l.2.1) && decide (l.2.1 ≤ j)) t.other
  unfold betw
  omega
def q__law_told_right (K : Frag) (s b bx : Dt) : Post := fun μ W _ => ∃ (p rb rx : Addr) (x : Mo) (μ0 : Mem) (sts : List Stt) (k : Nat) (t : Stt), s = .ref p ∧ b = .ref rb ∧ bx = .ref rx ∧ μ = (rx, boxMo sts k) :: (rb, cmpMo K sts k) :: (p, x) :: μ0 ∧ StrAt ((p, x) :: μ0) 0 p ∧ Twin 8 sts k 100 ∧ sts[k]? = some t ∧ ∀ x', StrAt ((p, x') :: μ0) 0 p → W (.bl true) ((rx, boxMo sts k) :: (rb, cmpMo K sts k) :: (p, x') :: μ0)
abbrev sp__law_told_right (K : Frag) : DSp := sp3 (q__law_told_right K)
theorem ok__law_told_right {P : Program} {w : World} {K : Frag} {mg : Str → Option Value} {base : Heap} (G : Good fa fn K mg) : FnOkG P w K mg base (L2.CX P w) 10 (gA "_law_told_right" K) (fdOf K (gA "_law_told_right" K)) ["stream", "book", "box"] (spD K (sp__law_told_right K)) := by
  have ok__law_now : FnOk P w K mg base (L2.CX P w) 1 (gA "_law_now" K) (fdOf K (gA "_law_now" K)) ["box"] (spD K (sp__law_now K)) := ok__law_now G
  have ok_Comparison_pairs : FnOk P w K mg base (L2.CX P w) 8 (mA "Comparison" "pairs" K) (fdOf K (mA "Comparison" "pairs" K)) ["self"] (spD K (sp_Comparison_pairs K)) := ok_Comparison_pairs G
  have ok__law_draw : FnOk P w K mg base (L2.CX P w) 1 (gA "_law_draw" K) (fdOf K (gA "_law_draw" K)) ["stream", "size"] (spD K (sp__law_draw K)) := ok__law_draw G
  have ok__law_choose : FnOk P w K mg base (L2.CX P w) 2 (gA "_law_choose" K) (fdOf K (gA "_law_choose" K)) ["stream", "items"] (spD K (sp__law_choose K)) := ok__law_choose G
  have ok__law_sums : FnOk P w K mg base (L2.CX P w) 1 (gA "_law_sums" K) (fdOf K (gA "_law_sums" K)) ["lines", "fixed", "matched", "first", "last"] (spD K (sp__law_sums K)) := ok__law_sums G
  have ok_report : FnOk P w K mg base (L2.CX P w) 9 (gA "report" K) (fdOf K (gA "report" K)) ["comparison", "first", "last"] (spD K (sp_report K)) := ok_report G
  have ok__law_same : FnOk P w K mg base (L2.CX P w) 3 (gA "_law_same" K) (fdOf K (gA "_law_same" K)) ["book", "box"] (spD K (sp__law_same K)) := ok__law_same G
  have ok_balance : FnOk P w K mg base (L2.CX P w) 3 (gA "balance" K) (fdOf K (gA "balance" K)) ["comparison"] (spD K (sp_balance K)) := ok_balance G
  refine ok_defG 15 rfl rfl (G.def_ 76 rfl) sc__law_told_right len3 fun cdv A gu outer s0 H E hr => ⟨_, (pss_cons (ps_asg (pe_call ok__law_now (hr.mono (by decide)) rfl (G.glo 48 rfl) (G.def_ 40 rfl).kp (b__law_now G) .nil passL (pa_cons (pv 2) pa_nil)) (pg_tup (n := 4) rfl (pgs_cons (pg_name (i := 3) sc__law_told_right.nd rfl (Or.inl rfl)) (pgs_cons (pg_name (i := 4) sc__law_told_right.nd rfl (Or.inl rfl)) (pgs_cons (pg_name (i := 5) sc__law_told_right.nd rfl (Or.inl rfl)) (pgs_cons (pg_name (i := 6) sc__law_told_right.nd rfl (Or.inl rfl)) pgs_nil)))))) (pss_cons (ps_par (i := 7) (j := 8) rfl sc__law_told_right.nd rfl rfl (by decide) rfl rfl (pa_cons (pe_meth0 (pv 1) (G.cls 27 rfl) (G.meth 98 rfl) ok_Comparison_pairs (hr.mono (by decide)) (b_Comparison_pairs G) .nil passL) (pa_cons (pe_call ok__law_draw (hr.mono (by decide)) rfl (G.glo 47 rfl) (G.def_ 37 rfl).kp (b__law_draw G) .nil passL (pa_cons (pv 0) (pa_cons pe_int pa_nil))) pa_nil)) rfl) (pss_cons (ps_set (i := 9) sc__law_told_right.nd rfl (Or.inl rfl) (pe_op op_add (pv 8) (pe_call ok__law_choose (hr.mono (by decide)) rfl (G.glo 59 rfl) (G.def_ 39 rfl).kp (b__law_choose G) .nil passL (pa_cons (pv 0) (pa_cons (pe_lst (pa_cons pe_int (pa_cons pe_int (pa_cons pe_int (pa_cons pe_int (pa_cons pe_int (pa_cons pe_int (pa_cons pe_int (pa_cons pe_int (pa_cons pe_int (pa_cons (pe_op op_powB pe_int pe_int) (pa_cons (pe_call ok__law_draw (hr.mono (by decide)) rfl (G.glo 47 rfl) (G.def_ 37 rfl).kp (b__law_draw G) .nil passL (pa_cons (pv 0) (pa_cons (pe_op op_sub (pe_op op_powB pe_int pe_int) pe_int) pa_nil))) pa_nil)))))))))))) pa_nil))))) (pss_cons (ps_for PassesOwn.leaving rfl (pi_listK K (pe_lst (pa_cons (pe_tup (pa_cons (pv 8) (pa_cons (pv 9) pa_nil))) (pa_cons (pe_tup (pa_cons pe_int (pa_cons (pe_op op_powB pe_int pe_int) pa_nil))) pa_nil)))) (pg_tup (n := 2) rfl (pgs_cons (pg_name (i := 10) sc__law_told_right.nd rfl (Or.inl rfl)) (pgs_cons (pg_name (i := 11) sc__law_told_right.nd rfl (Or.inl rfl)) pgs_nil))) (pss_cons (ps_set (i := 12) sc__law_told_right.nd rfl (Or.inl rfl) (pe_lst (pa_cons (pe_call ok__law_sums (hr.mono (by decide)) rfl (G.glo 101 rfl) (G.def_ 75 rfl).kp (b__law_sums G) .nil passL (pa_cons (pv 3) (pa_cons (pe_lc (own := [("pair", 13)]) (g := (gName 13)) (tt := tYes) rfl sc__law_told_right.nd (pi_listK K (pv 6)) (blkOk_by (N := N__law_told_right) (sc := defScope s__law_told_right) (by decide +kernel)) (fun _ _ _ _ _ => (pg_name (i := 13) sc__law_told_right.nd rfl (Or.inl rfl))) (fun _ _ _ _ _ => pts_nil) (fun _ _ _ _ _ => (pe_ix (r := rIxT K) ix_tup (pv 13) pe_int (fun _ _ => rfl)))) (pa_cons (pe_lc (own := [("pair", 13)]) (g := (gName 13)) (tt := tYes) rfl sc__law_told_right.nd (pi_listK K (pv 7)) (blkOk_by (N := N__law_told_right) (sc := defScope s__law_told_right) (by decide +kernel)) (fun _ _ _ _ _ => (pg_name (i := 13) sc__law_told_right.nd rfl (Or.inl rfl))) (fun _ _ _ _ _ => pts_nil) (fun _ _ _ _ _ => (pe_ix (r := rIxT K) ix_tup (pv 13) pe_int (fun _ _ => rfl)))) (pa_cons (pv 10) (pa_cons (pv 11) pa_nil)))))) pa_nil))) (pss_cons (ps_expr (pe_bmK K (pe_bm PySem.F.plainAttrs_list PySem.F.slot_list_append PySem.F.type_list_append mt_append (pv 12) (pa_cons (pe_call ok__law_sums (hr.mono (by decide)) rfl (G.glo 101 rfl) (G.def_ 75 rfl).kp (b__law_sums G) .nil passL (pa_cons (pv 4) (pa_cons (pe_lc (own := [("pair", 13)]) (g := (gName 13)) (tt := tYes) rfl sc__law_told_right.nd (pi_listK K (pv 6)) (blkOk_by (N := N__law_told_right) (sc := defScope s__law_told_right) (by decide +kernel)) (fun _ _ _ _ _ => (pg_name (i := 13) sc__law_told_right.nd rfl (Or.inl rfl))) (fun _ _ _ _ _ => pts_nil) (fun _ _ _ _ _ => (pe_ix (r := rIxT K) ix_tup (pv 13) pe_int (fun _ _ => rfl)))) (pa_cons (pe_lc (own := [("pair", 13)]) (g := (gName 13)) (tt := tYes) rfl sc__law_told_right.nd (pi_listK K (pv 7)) (blkOk_by (N := N__law_told_right) (sc := defScope s__law_told_right) (by decide +kernel)) (fun _ _ _ _ _ => (pg_name (i := 13) sc__law_told_right.nd rfl (Or.inl rfl))) (fun _ _ _ _ _ => pts_nil) (fun _ _ _ _ _ => (pe_ix (r := rIxT K) ix_tup (pv 13) pe_int (fun _ _ => rfl)))) (pa_cons (pv 10) (pa_cons (pv 11) pa_nil)))))) pa_nil)))) (pss_one (ps_if (PW.pt (pw_or (pt_cmpR op_ne (pe_callB (r := rReprD K) (cr_reprD gu (hu64 hr)) rfl (G.free 102 rfl) (by rfl) (pa_cons (pe_call ok_report (hr.mono (by decide)) rfl (G.glo 103 rfl) (G.def_ 73 rfl).kp (b_report G) .nil passL (pa_cons (pv 1) (pa_cons (pv 10) (pa_cons (pv 11) pa_nil)))) pa_nil)) (pe_callB (r := rReprD K) (cr_reprD gu (hu64 hr)) rfl (G.free 102 rfl) (by rfl) (pa_cons (pe_callTy (r := rTupO K) cr_tupO rfl (G.free 4 rfl) (by rfl) (pa_cons (pv 12) pa_nil)) pa_nil)) (nomark _)) (pw_or1 (pt_not (pt_val (pe_call ok__law_same (hr.mono (by decide)) rfl (G.glo 104 rfl) (G.def_ 48 rfl).kp (b__law_same G) .nil passL (pa_cons (pv 1) (pa_cons (pv 2) pa_nil)))))))) (pss_one (ps_ret pe_bl)) pss_nil))))) (pss_one (ps_ret (pe_cmpR op_eq (pe_call ok_balance (hr.mono (by decide)) rfl (G.glo 105 rfl) (G.def_ 74 rfl).kp (b_balance G) .nil passL (pa_cons (pv 1) pa_nil)) (pe_op op_sub (pe_callB (r := rSum K) (cr_sum rfl) rfl (G.free 95 rfl) (by rfl) (pa_cons (pe_lc (own := [("line", 14)]) (g := (gName 14)) (tt := tYes) rfl sc__law_told_right.nd (pi_listK K (pv 3)) (blkOk_by (N := N__law_told_right) (sc := defScope s__law_told_right) (by decide +kernel)) (fun _ _ _ _ _ => (pg_name (i := 14) sc__law_told_right.nd rfl (Or.inl rfl))) (fun _ _ _ _ _ => pts_nil) (fun _ _ _ _ _ => (pe_ix (r := rIxT K) ix_tup (pv 14) pe_int (fun _ _ => rfl)))) pa_nil)) (pe_callB (r := rSum K) (cr_sum rfl) rfl (G.free 95 rfl) (by rfl) (pa_cons (pe_lc (own := [("line", 14)]) (g := (gName 14)) (tt := tYes) rfl sc__law_told_right.nd (pi_listK K (pv 4)) (blkOk_by (N := N__law_told_right) (sc := defScope s__law_told_right) (by decide +kernel)) (fun _ _ _ _ _ => (pg_name (i := 14) sc__law_told_right.nd rfl (Or.inl rfl))) (fun _ _ _ _ _ => pts_nil) (fun _ _ _ _ _ => (pe_ix (r := rIxT K) ix_tup (pv 14) pe_int (fun _ _ => rfl)))) pa_nil))) (nomark _)))))))), ?_⟩
  try dsimp only [cxOf]
  rintro ds μ W X ⟨_, _, _, rfl, p, rb, rx, x, μ0, sts, k, t, rfl, rfl, rfl, rfl, hs, tw, ht, w⟩
  refine wps_dropR ?_
  have v : Val 8 t := tw.all _ (List.mem_of_getElem? ht)
  have g := v.stok (by decide)
  have few := tw.few
  have ml := matched_len g
  obtain ⟨e1, e2, e3⟩ := v.le8 (by decide)
  have ca : ∀ {y : Addr × Mo} {z}, CmpAt K (y :: (rb, cmpMo K sts k) :: z :: μ0) 1 rb sts k t := tw.cmp ht (by decide) (by omega) rfl
  repeat infer_instance
  refine ⟨0, rx, sts, k, t, rfl, rfl, ht, ?_⟩
  repeat infer_instance
  refine ⟨1, rb, sts, k, t, rfl, ca, g, .inl ?_⟩
  repeat infer_instance
  refine ⟨2, p, 9, rfl, rfl, hs.at (c' := 2) rfl, by decide, by decide, fun r x2 r0 r1 hs2 => ?_⟩
  simp only [List.set_cons_succ, List.set_cons_zero] at hs2 ⊢
  repeat infer_instance
  refine ⟨_, _, rfl, ?_⟩
  repeat infer_instance
  refine rw_I (show CPowB 10 5 from ⟨by decide, by decide +kernel⟩) (fun _ => .int _) ?_
  rw [show (10 : Int) ^ (5 : Int).toNat = 100000 from by decide +kernel]
  repeat infer_instance
  refine rw_I (show CPowB 10 6 from ⟨by decide, by decide +kernel⟩) (fun _ => .int _) ?_
  rw [show (10 : Int) ^ (6 : Int).toNat = 1000000 from by decide +kernel]
  repeat infer_instance
  refine ⟨2, p, 1000000 - 9, rfl, rfl, hs2.at (c' := 2) rfl, by decide, by decide, fun r2 x3 r20 r21 hs3 => ?_⟩
  simp only [List.set_cons_succ, List.set_cons_zero] at hs3 ⊢
  repeat infer_instance
  refine chooseM Dt.int (xs := [0, 1, 3, 9, 10, 11, 30, 99, 100, 100000, r2]) (hs3.at (c' := 2) rfl) (Nat.le_of_ble_eq_true rfl) (Nat.le_of_ble_eq_true rfl) fun f x4 hf hs4 => ?_
  simp only [List.set_cons_succ, List.set_cons_zero] at hs4 ⊢
  have hf2 : 0 ≤ f ∧ f ≤ 999991 := by
    simp at hf
    omega
  repeat infer_instance
  refine wps_for ?_
  repeat infer_instance
  refine rw_I (show CPowB 10 6 from ⟨by decide, by decide +kernel⟩) (fun _ => .int _) ?_
  rw [show (10 : Int) ^ (6 : Int).toNat = 1000000 from by decide +kernel]
  repeat infer_instance
  refine ⟨fun i ρ' μ' => ∃ gone o10 o11 o12 o13 o14, μ' = gone ++ ((rx, boxMo sts k) :: (rb, cmpMo K sts k) :: (p, x4) :: μ0) ∧ ρ' = [some (.ref p), some (.ref rb), some (.ref rx), some (.lst (t.own.map lnD)), some (.lst (t.other.map lnD)), some (.int t.cap), some (.lst (t.fixed.map prD)), some (.lst ((matchedF t).map prD)), some (.int r), some (.int (r + f)), o10, o11, o12, o13, o14], ⟨[], _, _, _, _, _, rfl, rfl⟩, ?_, ?_⟩
  · rintro i y ρ' μ' hy ⟨gone, o10, o11, o12, o13, o14, rfl, rfl⟩
    obtain ⟨a, b, rfl, h1, h2, h3⟩ : ∃ a b : Int, y = .tup [.int a, .int b] ∧ 0 ≤ a ∧ a ≤ b ∧ b ≤ 1000000 := by
      match i, hy with
      | 0, hy => cases hy; exact ⟨_, _, rfl, by omega, by omega, by omega⟩
      | 1, hy => cases hy; exact ⟨_, _, rfl, by omega, by omega, by omega⟩
      | n + 2, hy => simp at hy
    obtain ⟨l1, l2⟩ := rep_bounds v (by decide) a b
    refine wpg_drop ?_
    repeat eq_refl
    refine wps_seq (wps_asg (wp_lstC ?_))
    repeat infer_instance
    refine lcM Dt.int (e := fun p : Pr => p.1) (fun p hp => ?_) ?_ (by omega)
    · repeat infer_instance
    repeat infer_instance
    refine lcM Dt.int (e := fun p : Pr => p.1) (fun p hp => ?_) ?_ (by omega)
    · repeat infer_instance
    repeat infer_instance
    refine ⟨t.own, _, _, a, b, rfl, rfl, rfl, rfl, rfl, by omega, fixed_apart.1, ?_⟩
    repeat infer_instance
    intro du hdu
    repeat infer_instance
    refine lcM Dt.int (e := fun p : Pr => p.2) (fun p hp => ?_) ?_ (by omega)
    · repeat infer_instance
    repeat infer_instance
    refine lcM Dt.int (e := fun p : Pr => p.2) (fun p hp => ?_) ?_ (by omega)
    · repeat infer_instance
    repeat infer_instance
    refine ⟨t.other, _, _, a, b, rfl, rfl, rfl, rfl, rfl, by omega, fixed_apart.2, ?_⟩
    repeat infer_instance
    rotate_left
    · exact (by decide : 1 < 1000000)
    refine ⟨2, rb, sts, k, t, a, b, rfl, tw.cmp ht (by decide) (by omega) rfl, g, rfl, rfl, h1, h2, h3, ?_⟩
    repeat infer_instance
    refine rw_repr (.py (repD_py t a b)) rfl (shw_rep v (by decide) a b) (by decide) (by decide) ?_
    generalize hz : (repP t a b).shown = z
    repeat infer_instance
    refine rw_tupO (islC 0 rfl) ?_
    repeat infer_instance
    refine rw_repr (.py (repD_py t a b)) rfl (shw_rep v (by decide) a b) (by decide) (by decide) ?_
    rw [hz]
    repeat infer_instance
    refine itF nes_self ?_
    repeat infer_instance
    refine ⟨2, rb, sts, k, t, 1, rx, sts, k, t, rfl, tw.cmp ht (by decide) (by omega) rfl, rfl, rfl, ht, ?_⟩
    rw [decide_eq_true (rfl : t = t)]
    repeat infer_instance
    exact ⟨[_], _, _, _, _, _, rfl, rfl⟩
  · rintro ρ' μ' ⟨gone, o10, o11, o12, o13, o14, rfl, rfl⟩
    refine wps_drop' ?_
    repeat infer_instance
    refine ⟨1, rb, sts, k, t, rfl, ca, ?_⟩
    repeat infer_instance
    refine lcM Dt.int (e := fun l : Ln => l.2.2) (fun l hl => ?_) ?_ (by omega)
    · repeat infer_instance
    repeat infer_instance
    refine rw_sumI ?_
    repeat infer_instance
    refine lcM Dt.int (e := fun l : Ln => l.2.2) (fun l hl => ?_) ?_ (by omega)
    · repeat infer_instance
    repeat infer_instance
    refine rw_sumI ?_
    repeat infer_instance
    rw [decide_eq_true (show balF t = (t.own.map fun l : Ln => l.2.2).sum - (t.other.map fun l : Ln => l.2.2).sum from rfl)]
    exact ⟨[], _, rfl, w x4 (hs4.at rfl)⟩


def q__law_full_right (a : Dt) : Post := fun μ W _ => ∃ n : Int, a = .int n ∧ 0 ≤ n ∧ n ≤ 1000000 ∧ W (.bl true) μ
abbrev sp__law_full_right (_ : Frag) : DSp := sp1 q__law_full_right
theorem ok__law_full_right {P : Program} {w : World} {K : Frag} {mg : Str → Option Value} {base : Heap} (G : Good fa fn K mg) : FnOk P w K mg base (L2.CX P w) 10 (gA "_law_full_right" K) (fdOf K (gA "_law_full_right" K)) ["cap"] (spD K (sp__law_full_right K)) := by
  have ok_Comparison_made : FnOk P w K mg base (L2.CX P w) 5 (cA "Comparison" "made" K) (fdOf K (cA "Comparison" "made" K)) ["cls", "own", "other", "price", "confirmed"] (spD K (sp_Comparison_made K)) := ok_Comparison_made G
  have ok_report : FnOk P w K mg base (L2.CX P w) 9 (gA "report" K) (fdOf K (gA "report" K)) ["comparison", "first", "last"] (spD K (sp_report K)) := ok_report G
  have ok_balance : FnOk P w K mg base (L2.CX P w) 3 (gA "balance" K) (fdOf K (gA "balance" K)) ["comparison"] (spD K (sp_balance K)) := ok_balance G
  refine ok_defN 11 rfl rfl (G.def_ 77 rfl) sc__law_full_right len1 fun cdv A outer s0 H E hr => ⟨_, (pss_cons (ps_setLc (i := 1) (own := [("number", 9)]) (g := (gName 9)) (tt := tYes) rfl sc__law_full_right.nd rfl rfl (sw_true rfl rfl rfl (by decide +kernel)) (pi_range2 rfl (G.free 61 rfl) (pa_cons pe_int (pa_cons pe_int pa_nil))) (blkOk_by (N := N__law_full_right) (sc := defScope s__law_full_right) (by decide +kernel)) (fun _ _ _ _ _ => (pg_name (i := 9) sc__law_full_right.nd rfl (Or.inl rfl))) (fun _ _ _ _ _ => pts_nil) (fun _ _ _ _ _ => (pe_tup (pa_cons (pv 9) (pa_cons (pv 9) (pa_cons (pe_op op_add pe_int (pv 9)) pa_nil)))))) (pss_cons (ps_setLc (i := 2) (own := [("number", 9)]) (g := (gName 9)) (tt := tYes) rfl sc__law_full_right.nd rfl rfl (sw_true rfl rfl rfl (by decide +kernel)) (pi_range2 rfl (G.free 61 rfl) (pa_cons pe_int (pa_cons pe_int pa_nil))) (blkOk_by (N := N__law_full_right) (sc := defScope s__law_full_right) (by decide +kernel)) (fun _ _ _ _ _ => (pg_name (i := 9) sc__law_full_right.nd rfl (Or.inl rfl))) (fun _ _ _ _ _ => pts_nil) (fun _ _ _ _ _ => (pe_tup (pa_cons (pv 9) (pa_cons (pe_op op_add (pv 9) (pe_op op_mul pe_int (pe_op op_mod (pv 9) pe_int))) (pa_cons (pe_op op_add pe_int (pv 9)) pa_nil)))))) (pss_cons (ps_set (i := 3) sc__law_full_right.nd rfl (Or.inl rfl) (ClX.pe_cmeth (pe_glob (v := .ref (gA "Comparison" K)) rfl (G.glo 42 rfl) rfl) (G.cmet 106 rfl).1 (G.cmet 106 rfl).2 (fnR_of ok_Comparison_made (b_Comparison_made G)) (hr.mono (by decide)) passL (pa_cons (pv 1) (pa_cons (pv 2) (pa_cons (pe_op op_mod (pv 0) pe_int) (pa_cons (pe_lst (pa_cons (pe_tup (pa_cons pe_int (pa_cons pe_int pa_nil))) (pa_cons (pe_tup (pa_cons pe_int (pa_cons pe_int pa_nil))) pa_nil))) pa_nil)))))) (pss_cons (ps_setLc (i := 4) (own := [("number", 9)]) (g := (gName 9)) (tt := _) rfl sc__law_full_right.nd rfl rfl (sw_true rfl rfl rfl (by decide +kernel)) (pi_range2 rfl (G.free 61 rfl) (pa_cons pe_int (pa_cons pe_int pa_nil))) (blkOk_by (N := N__law_full_right) (sc := defScope s__law_full_right) (by decide +kernel)) (fun _ _ _ _ _ => (pg_name (i := 9) sc__law_full_right.nd rfl (Or.inl rfl))) (fun _ _ _ _ _ => (pts_one (pt_cmpR op_eq (pe_op op_mod (pv 9) pe_int) pe_int (nomark _)))) (fun _ _ _ _ _ => (pv 9))) (pss_cons (ps_par (i := 5) (j := 6) rfl sc__law_full_right.nd rfl rfl (by decide) rfl rfl (pa_cons (pe_op op_add pe_int pe_int) (pa_cons (pe_callB (r := rSum K) (cr_sum rfl) rfl (G.free 95 rfl) (by rfl) (pa_cons (pe_lc (own := [("number", 9)]) (g := (gName 9)) (tt := tYes) rfl sc__law_full_right.nd (pi_listK K (pv 4)) (blkOk_by (N := N__law_full_right) (sc := defScope s__law_full_right) (by decide +kernel)) (fun _ _ _ _ _ => (pg_name (i := 9) sc__law_full_right.nd rfl (Or.inl rfl))) (fun _ _ _ _ _ => pts_nil) (fun _ _ _ _ _ => (pe_op op_add pe_int (pv 9)))) pa_nil)) pa_nil)) rfl) (pss_cons (ps_set (i := 7) sc__law_full_right.nd rfl (Or.inl rfl) (pe_callB (r := rSum K) (cr_sum rfl) rfl (G.free 95 rfl) (by rfl) (pa_cons (pe_lc (own := [("line", 10)]) (g := (gName 10)) (tt := tYes) rfl sc__law_full_right.nd (pi_listK K (pv 1)) (blkOk_by (N := N__law_full_right) (sc := defScope s__law_full_right) (by decide +kernel)) (fun _ _ _ _ _ => (pg_name (i := 10) sc__law_full_right.nd rfl (Or.inl rfl))) (fun _ _ _ _ _ => pts_nil) (fun _ _ _ _ _ => (pe_ix (r := rIxT K) ix_tup (pv 10) pe_int (fun _ _ => rfl)))) pa_nil))) (pss_cons (ps_set (i := 8) sc__law_full_right.nd rfl (Or.inl rfl) (pe_tup (pa_cons (pv 7) (pa_cons (pv 5) (pa_cons (pv 6) (pa_cons (pe_op op_sub (pe_op op_sub (pv 7) (pv 5)) (pv 6)) pa_nil)))))) (pss_one (ps_ret (pe_and (pe_cmpR (r := rEqD K) (op_eqD (hu64 hr)) (pe_call ok_report (hr.mono (by decide)) rfl (G.glo 103 rfl) (G.def_ 73 rfl).kp (b_report G) .nil passL (pa_cons (pv 3) (pa_cons pe_int (pa_cons pe_int pa_nil)))) (pe_tup (pa_cons (pv 8) (pa_cons (pv 8) pa_nil))) (nomark _)) (pe_one (pe_cmpR op_eq (pe_call ok_balance (hr.mono (by decide)) rfl (G.glo 105 rfl) (G.def_ 74 rfl).kp (b_balance G) .nil passL (pa_cons (pv 3) pa_nil)) pe_int (nomark _))))))))))))), ?_⟩
  try dsimp only [cxOf]
  rintro ds μ W X ⟨_, rfl, n, rfl, h0, h1, w⟩
  refine wps_dropR ?_
  repeat infer_instance
  refine lcM lnD (e := Full.lo) (fun i hi => ?_) ?_ (by simp)
  · repeat infer_instance
  repeat infer_instance
  refine lcM lnD (e := Full.lt) (fun i hi => ?_) ?_ (by simp)
  · repeat infer_instance
    refine rw_mod ?_ (by decide)
    repeat infer_instance
    all_goals exact .inl ⟨by decide, by decide⟩
  repeat infer_instance
  refine ⟨rfl, ?_⟩
  repeat infer_instance
  refine rw_mod ?_ (by decide)
  repeat infer_instance
  refine ⟨Full.own, Full.other, n % 2, [(60, 58), (58, 60)], rfl, isl, isl, rfl, isl, Nat.le_of_ble_eq_true rfl, Nat.le_of_ble_eq_true rfl, Nat.le_of_ble_eq_true rfl, fun b hb => ?_⟩
  rw [Full.sort_own, Full.sort_other, Full.sort_fixed, show (⟨Full.own, Full.other, n % 2, [(58, 60), (60, 58)]⟩ : Stt) = Full.st (n % 2) from rfl]
  have c0 : 0 ≤ n % 2 := Int.emod_nonneg _ (by decide)
  have c1 : n % 2 ≤ 1 := by omega
  generalize n % 2 = cc at *
  have v := Full.val cc c0 c1
  have g := v.stok (by decide)
  obtain ⟨s1, s2⟩ := Full.sums c0 c1
  have ca : ∀ {μ'}, CmpAt K ((b, cmpMo K [Full.st cc] 0) :: μ') 0 b [Full.st cc] 0 (Full.st cc) := CmpAt.one v (by decide) rfl
  repeat infer_instance
  refine lcF (enc := fun i : Nat => Dt.int (1 + (i : Int))) (f := fun i : Nat => decide ((1 + (i : Int)) % 2 = 0)) (fun i hi => ?_) ?_ (by simp)
  · repeat infer_instance
    refine rw_mod ?_ (by decide)
    repeat infer_instance
  repeat infer_instance
  refine lcM Dt.int (e := fun i : Nat => 10 + (1 + (i : Int))) (fun i hi => ?_) ?_ (Nat.le_of_ble_eq_true rfl)
  · repeat infer_instance
  repeat infer_instance
  refine rw_sumI ?_
  rw [show ((((List.range (58 - 1 : Int).toNat).filter fun i : Nat => decide ((1 + (i : Int)) % 2 = 0)).map fun i : Nat => 10 + (1 + (i : Int))).sum) = 1092 from by decide +kernel]
  repeat infer_instance
  refine ⟨_, _, rfl, ?_⟩
  repeat infer_instance
  refine lcM Dt.int (e := fun l : Ln => l.2.2) (fun l hl => ?_) ?_ (Nat.le_of_ble_eq_true rfl)
  · repeat infer_instance
  repeat infer_instance
  refine rw_sumI ?_
  rw [show ((((List.range (61 - 1 : Int).toNat).map Full.lo).map fun l : Ln => l.2.2).sum) = 2430 from by decide +kernel]
  repeat infer_instance
  have er : repD (Full.st cc) 0 100 = .tup [.tup [.int 2430, .int 138, .int 1092, .int 1200], .tup [.int 2430, .int 138, .int 1092, .int 1200]] := by unfold repD; rw [s1, s2]; rfl
  refine ⟨0, b, _, 0, _, 0, 100, rfl, ca, g, rfl, rfl, by decide, by decide, by decide, ?_⟩
  rw [er]
  repeat infer_instance
  refine rw_eqD (p := .tuple [.tuple [.int 2430, .int 138, .int 1092, .int 1200], .tuple [.int 2430, .int 138, .int 1092, .int 1200]]) (q := .tuple [.tuple [.int 2430, .int 138, .int 1092, .int 1200], .tuple [.int 2430, .int 138, .int 1092, .int 1200]]) (.inl rfl) (.inl rfl) (by decide +kernel) (by decide +kernel) ?_
  rw [show PyData.eqv (.tuple [.tuple [.int 2430, .int 138, .int 1092, .int 1200], .tuple [.int 2430, .int 138, .int 1092, .int 1200]]) (.tuple [.tuple [.int 2430, .int 138, .int 1092, .int 1200], .tuple [.int 2430, .int 138, .int 1092, .int 1200]]) = true by decide +kernel]
  repeat infer_instance
  refine ⟨0, b, _, 0, _, rfl, ca, ?_⟩
  rw [Full.bal]
  repeat infer_instance
  exact ⟨[_], _, rfl, w⟩
  all_goals decide


theorem ok_law {P : Program} {w : World} {K : Frag} {mg : Str → Option Value} {base : Heap} (G : Good fa fn K mg) : FnOkG P w K mg base (L2.CX P w) 11 (gA "law" K) (fdOf K (gA "law" K)) ["script"] (spD K (sp_law K)) := by
  have ok__law_stream : FnOk P w K mg base (L2.CX P w) 1 (gA "_law_stream" K) (fdOf K (gA "_law_stream" K)) ["script", "start"] (spD K (sp__law_stream K)) := ok__law_stream G
  have ok__law_begun : FnOk P w K mg base (L2.CX P w) 7 (gA "_law_begun" K) (fdOf K (gA "_law_begun" K)) ["stream"] (spD K (sp__law_begun K)) := ok__law_begun G
  have ok__law_deed : FnOk P w K mg base (L2.CX P w) 4 (gA "_law_deed" K) (fdOf K (gA "_law_deed" K)) ["stream", "box", "words"] (spD K (sp__law_deed K)) := ok__law_deed G
  have ok__law_play : FnOk P w K mg base (L2.CX P w) 2 (gA "_law_play" K) (fdOf K (gA "_law_play" K)) ["box", "deed"] (spD K (sp__law_play K)) := ok__law_play G
  have ok__law_done : FnOk P w K mg base (L2.CX P w) 6 (gA "_law_done" K) (fdOf K (gA "_law_done" K)) ["book", "deed"] (spD K (sp__law_done K)) := ok__law_done G
  have ok__law_told_right : FnOkG P w K mg base (L2.CX P w) 10 (gA "_law_told_right" K) (fdOf K (gA "_law_told_right" K)) ["stream", "book", "box"] (spD K (sp__law_told_right K)) := ok__law_told_right G
  have ok_report : FnOk P w K mg base (L2.CX P w) 9 (gA "report" K) (fdOf K (gA "report" K)) ["comparison", "first", "last"] (spD K (sp_report K)) := ok_report G
  have ok_Comparison___init__ : FnOk P w K mg base (L2.CX P w) 3 (mA "Comparison" "__init__" K) (fdOf K (mA "Comparison" "__init__" K)) ["self"] (spD K (sp_Comparison___init__ K)) := ok_Comparison___init__ G
  have ok_balance : FnOk P w K mg base (L2.CX P w) 3 (gA "balance" K) (fdOf K (gA "balance" K)) ["comparison"] (spD K (sp_balance K)) := ok_balance G
  have ok__law_full_right : FnOk P w K mg base (L2.CX P w) 10 (gA "_law_full_right" K) (fdOf K (gA "_law_full_right" K)) ["cap"] (spD K (sp__law_full_right K)) := ok__law_full_right G
  refine ok_defG 8 rfl rfl (G.def_ 78 rfl) sc_law len1 fun cdv A gu outer s0 H E hr => ⟨_, (pss_cons (ps_for PassesOwn.leaving rfl (pi_range1 rfl (G.free 61 rfl) (pa_cons pe_int pa_nil)) (pg_name (i := 1) sc_law.nd rfl (Or.inl rfl)) (pss_cons (ps_set (i := 2) sc_law.nd rfl (Or.inl rfl) (pe_call ok__law_stream (hr.mono (by decide)) rfl (G.glo 107 rfl) (G.def_ 38 rfl).kp (b__law_stream G) .nil passL (pa_cons (pv 0) (pa_cons (pv 1) pa_nil)))) (pss_cons (ps_asg (pe_call ok__law_begun (hr.mono (by decide)) rfl (G.glo 108 rfl) (G.def_ 47 rfl).kp (b__law_begun G) .nil passL (pa_cons (pv 2) pa_nil)) (pg_tup (n := 2) rfl (pgs_cons (pg_name (i := 3) sc_law.nd rfl (Or.inl rfl)) (pgs_cons (pg_name (i := 4) sc_law.nd rfl (Or.inl rfl)) pgs_nil)))) (pss_one (ps_for PassesOwn.leaving rfl (pi_range1 rfl (G.free 61 rfl) (pa_cons pe_int pa_nil)) (pg_name (i := 5) sc_law.nd rfl (Or.inl rfl)) (pss_cons (ps_set (i := 6) sc_law.nd rfl (Or.inl rfl) (pe_lst (pa_cons pe_str (pa_cons pe_str (pa_cons pe_str (pa_cons pe_str (pa_cons pe_str (pa_cons pe_str (pa_cons pe_str (pa_cons pe_str (pa_cons pe_str pa_nil))))))))))) (pss_cons (ps_set (i := 7) sc_law.nd rfl (Or.inl rfl) (pe_call ok__law_deed (hr.mono (by decide)) rfl (G.glo 63 rfl) (G.def_ 46 rfl).kp (b__law_deed G) .nil passL (pa_cons (pv 2) (pa_cons (pv 4) (pa_cons (pv 6) pa_nil))))) (pss_cons (ps_expr (pe_call ok__law_play (hr.mono (by decide)) rfl (G.glo 64 rfl) (G.def_ 42 rfl).kp (b__law_play G) .nil passL (pa_cons (pv 4) (pa_cons (pv 7) pa_nil)))) (pss_cons (ps_expr (pe_call ok__law_done (hr.mono (by decide)) rfl (G.glo 65 rfl) (G.def_ 43 rfl).kp (b__law_done G) .nil passL (pa_cons (pv 3) (pa_cons (pv 7) pa_nil)))) (pss_one (ps_if (pt_not (pt_val (pe_callG gu ok__law_told_right (hr.mono (by decide)) rfl (G.glo 109 rfl) (G.def_ 76 rfl).kp (b__law_told_right G) passL (pa_cons (pv 2) (pa_cons (pv 3) (pa_cons (pv 4) pa_nil)))))) (pss_one (ps_ret pe_bl)) pss_nil))))))))))) (pss_cons (ps_if (PW.pt (pw_or (pt_cmpR (r := rNeD K) (op_neD (hu64 hr)) (pe_call ok_report (hr.mono (by decide)) rfl (G.glo 103 rfl) (G.def_ 73 rfl).kp (b_report G) .nil passL (pa_cons (pe_make0 (G.mkr 14 rfl) ok_Comparison___init__ (hr.mono (by decide)) rfl (G.glo 42 rfl) (b_Comparison___init__ G) .nil passL) (pa_cons pe_int (pa_cons (pe_op op_powB pe_int pe_int) pa_nil)))) (pe_tup (pa_cons (pe_tup (pa_cons pe_int (pa_cons pe_int (pa_cons pe_int (pa_cons pe_int pa_nil))))) (pa_cons (pe_tup (pa_cons pe_int (pa_cons pe_int (pa_cons pe_int (pa_cons pe_int pa_nil))))) pa_nil))) (nomark _)) (pw_or1 (pt_cmpR op_ne (pe_call ok_balance (hr.mono (by decide)) rfl (G.glo 105 rfl) (G.def_ 74 rfl).kp (b_balance G) .nil passL (pa_cons (pe_make0 (G.mkr 14 rfl) ok_Comparison___init__ (hr.mono (by decide)) rfl (G.glo 42 rfl) (b_Comparison___init__ G) .nil passL) pa_nil)) pe_int (nomark _))))) (pss_one (ps_ret pe_bl)) pss_nil) (pss_one (ps_ret (pe_call ok__law_full_right (hr.mono (by decide)) rfl (G.glo 110 rfl) (G.def_ 77 rfl).kp (b__law_full_right G) .nil passL (pa_cons (pe_callB (r := Evl.rLenS K) cr_len rfl (G.free 5 rfl) (by rfl) (pa_cons (pv 0) pa_nil)) pa_nil)))))), ?_⟩
  try dsimp only [cxOf]
  rintro ds μ W X ⟨_, rfl, ns, rfl, hl, hb, w⟩
  repeat infer_instance
  refine wps_for ?_
  repeat infer_instance
  refine ⟨fun i ρ' μ' => ∃ o1 o2 o3 o4 o5 o6 o7, ρ' = [some (.fls (ns.map .int)), o1, o2, o3, o4, o5, o6, o7], ⟨_, _, _, _, _, _, _, rfl⟩, ?_, ?_⟩
  · rintro i z ρ' μ0 hz ⟨o1, o2, o3, o4, o5, o6, o7, rfl⟩
    obtain ⟨hi, rfl⟩ := range_at hz
    have hi : i < 2 := hi
    repeat infer_instance
    refine ⟨ns, i, rfl, rfl, by omega, by omega, by omega, hb, fun p x0 hp hs0 => ?_⟩
    repeat infer_instance
    refine ⟨0, p, rfl, hs0, fun x1 b bx sts k hb1 hbx hne tw hs1 => ?_⟩
    simp only [List.set_cons_zero] at hs1 ⊢
    repeat infer_instance
    refine wps_for ?_
    repeat infer_instance
    rotate_left
    · decide
    refine ⟨fun j ρ' μ' => ∃ x sts k q5 q6 q7, μ' = (bx, boxMo sts k) :: (b, cmpMo K sts k) :: (p, x) :: μ0 ∧ Twin 8 sts k (11 + j) ∧ StrAt ((p, x) :: μ0) 0 p ∧ ρ' = [some (.fls (ns.map .int)), some (.int i), some (.ref p), some (.ref b), some (.ref bx), q5, q6, q7], ⟨x1, sts, k, _, _, _, rfl, tw, hs1, rfl⟩, ?_, ?_⟩
    · rintro j z ρ2 μ2 hz ⟨x, sts, k, q5, q6, q7, rfl, tw, hs, rfl⟩
      obtain ⟨hj, rfl⟩ := range_at hz
      have hj : j < 12 := hj
      obtain ⟨t, ht, v⟩ := tw.at
      have few := tw.few
      obtain ⟨e1, e2, e3⟩ := v.le8 (by decide)
      repeat infer_instance
      refine ⟨2, p, 0, bx, sts, k, t, ["confirm", "confirm", "price", "own", "other", "open", "undo", "undo", "redo"], rfl, hs.at (c' := 2) rfl, rfl, rfl, ht, v, by omega, rfl, by decide, by decide, fun e x' ok hs' hw => ?_⟩
      simp only [List.set_cons_succ, List.set_cons_zero] at hs' ⊢
      repeat infer_instance
      refine ⟨0, bx, sts, k, t, e, rfl, rfl, ht, by omega, by omega, by omega, by omega, fun h => ?_, rfl, ?_⟩
      · have hu : e = .undo := by cases e <;> first | rfl | cases h
        subst hu; exact ok
      simp only [List.set_cons_succ, List.set_cons_zero]
      repeat infer_instance
      refine ⟨1, b, sts, k, t, e, _, rfl, tw.cmp ht (by decide) (by omega) rfl, rfl, step_same (m := 8) (by decide) v ok, ?_⟩
      simp only [List.set_cons_succ, List.set_cons_zero]
      have tws := tw.step ht ok
      generalize (stepB sts k t e).1 = sts2 at *
      generalize (stepB sts k t e).2 = k2 at *
      obtain ⟨t2, ht2, v2⟩ := tws.at
      repeat infer_instance
      refine ⟨p, b, bx, x', μ0, sts2, k2, t2, rfl, rfl, rfl, rfl, hs'.at rfl, tws.le (by omega), ht2, fun x3 hs3 => ?_⟩
      repeat infer_instance
      exact ⟨x3, sts2, k2, _, _, _, rfl, tws, hs3, rfl⟩
    rintro ρ2 μ2 ⟨x, sts, k, q5, q6, q7, rfl, tw, hs, rfl⟩
    exact ⟨_, _, _, _, _, _, _, rfl⟩
  · rintro ρ' μ' ⟨o1, o2, o3, o4, o5, o6, o7, rfl⟩
    refine wps_dropR ?_
    repeat infer_instance
    have zr : ∀ a b : Int, repD ⟨[], [], 0, []⟩ a b = .tup [.tup [.int 0, .int 0, .int 0, .int 0], .tup [.int 0, .int 0, .int 0, .int 0]] := fun _ _ => rfl
    refine wp_make ?_
    repeat infer_instance
    intro b hb
    repeat infer_instance
    refine ⟨b, _, rfl, rfl, rfl, ?_⟩
    repeat infer_instance
    refine rw_I (show CPowB 10 6 from ⟨by decide, by decide +kernel⟩) (fun _ => .int _) ?_
    rw [show (10 : Int) ^ (6 : Int).toNat = 1000000 from by decide +kernel]
    repeat infer_instance
    refine ⟨0, b, [⟨[], [], 0, []⟩], 0, _, 0, 1000000, rfl, CmpAt.one (val_zero 8) (by decide) rfl, (val_zero 8).stok (by decide), rfl, rfl, by decide, by decide, by decide, ?_⟩
    rw [zr]
    repeat infer_instance
    refine rw_neD (p := .tuple [.tuple [.int 0, .int 0, .int 0, .int 0], .tuple [.int 0, .int 0, .int 0, .int 0]]) (q := .tuple [.tuple [.int 0, .int 0, .int 0, .int 0], .tuple [.int 0, .int 0, .int 0, .int 0]]) (.inl rfl) (.inl rfl) (by decide +kernel) (by decide +kernel) ?_
    rw [show PyData.eqv (.tuple [.tuple [.int 0, .int 0, .int 0, .int 0], .tuple [.int 0, .int 0, .int 0, .int 0]]) (.tuple [.tuple [.int 0, .int 0, .int 0, .int 0], .tuple [.int 0, .int 0, .int 0, .int 0]]) = true by decide +kernel]
    repeat infer_instance
    refine wp_make ?_
    repeat infer_instance
    intro b2 hb2
    repeat infer_instance
    refine ⟨b2, _, rfl, rfl, rfl, ?_⟩
    repeat infer_instance
    refine ⟨0, b2, [⟨[], [], 0, []⟩], 0, _, rfl, CmpAt.one (val_zero 8) (by decide) rfl, ?_⟩
    rw [show balF ⟨[], [], 0, []⟩ = 0 from rfl]
    repeat infer_instance
    refine rw_len (.inr (.inr rfl)) ?_
    repeat infer_instance
    refine ⟨_, rfl, by omega, by rw [List.length_map]; omega, ?_⟩
    exact ⟨[_, _], _, rfl, w _⟩
  all_goals decide


end Ml.K53

open PySem PySem.W PyProof.Rows
theorem PySem.Challenge.cw_matchlines_k53_reports_of_days_holds : PySem.Challenge.rw_matchlines_k53_reports_of_days.Holds := by
  w_on; o_law
  refine HandSHeadRun.head_any (r := OpenLaw.row PySem.Challenge.rw_matchlines_k53_reports_of_days) (q := Ml.K53.qv) (H := Ml.hookP 5 Ml.K53.fa Ml.K53.fn) (ob := Ml.obP 5 Ml.K53.fa Ml.K53.fn) (M := 9000) (loose := Ml.K53.loose) (kwd := []) (fun s => Ml.obP_eq s) (by kernel_rfl) (fun s => by kernel_rfl) Ml.K53.run (by rfl) (by rfl) (by rfl) (by rfl) (by first | assumption | decide +kernel) (by decide +kernel) ⟨rfl, rfl, rfl, rfl, rfl, by decide +kernel⟩ ?hw ?hc
  case hw => w_witness2
  case hc => exact Ml.walk_genG (l := PySem.Challenge.rw_matchlines_k53_reports_of_days) (k := 11) rfl rfl ⟨rfl, by decide, by decide⟩ rfl (fun w K mg G base => Ml.K53.ok_law G) (fun K mg G s u => G.bindsTo 78 (ps := ["script"]) rfl rfl (fun _ _ _ _ _ _ us hl => match us, hl with | [_], _ => rfl) s [u] rfl) (fun K mg G => G.glo 111 rfl)
