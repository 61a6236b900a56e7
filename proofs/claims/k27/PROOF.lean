import PyProof.Rows.All
import Wide.All
import OpenK.AllK
import Wide.FinOn
import HandS.ForMost
import HandS.ForExc
import HandS.TupAny
import HandS.Wide
import HandS.IsInst
import HandS.Deep
import HandS.Style
import KE.KDictZip
import KE.GoesEnum
import KE.GoesNew
import HandS.Rev
import HandS.Comp
import KE.KTupSum
import HandS.Text
import HandS.WordsExc
import HandS.Ends
import PySem.Challenge.RW_movedminutes_k27_covered_by_rows_of_numb
set_option Elab.async false
set_option linter.all false
set_option maxRecDepth 100000
set_option maxHeartbeats 4000000
/-! VS1 -/
namespace VS
open PySem L2

abbrev DA := PyData
abbrev En := List (Option PyData)
/-- an exception: its class's name, what it keeps -/
structure XV where
  cls : Str
  arg : Option Int
inductive R (t : Type) where
  | ok (v : t) (en : En)
  | exc (x : XV) (en : En)
  | stuck
def keyD : Key → PyData
  | .inl i => .int i
  | .inr x => .str x
def fnD (x : Str) : PyData := .dict [(.bool true, .str x)]
/-- the script: a list that nobody may change -/
def scrD (ds : List PyData) : PyData := .dict [(.bool false, .list ds)]
mutual
inductive Rp (K : PySem.W.Frag) (mg : Str → Option Value) (H : Hp) : V → PyData → Prop
  | non : Rp K mg H .non .none
  | bl (k : Bool) : Rp K mg H (.bl k) (.bool k)
  | int (i : Int) : Rp K mg H (.int i) (.int i)
  | str (x : Str) : Rp K mg H (.str x) (.str x)
  | lst {p : Addr} {us : List V} {ds : List PyData} : H p = some (.lst us) → RpAll K mg H us ds → Rp K mg H (.ref p) (.list ds)
  | scr {p : Addr} {us : List V} {ds : List PyData} : SqL K H p us → RpAll K mg H us ds → Rp K mg H (.ref p) (scrD ds)
  | tup {p : Addr} {us : List V} {ds : List PyData} : SqT K H p us → RpAll K mg H us ds → Rp K mg H (.ref p) (.tuple ds)
  | dK {p : Addr} {ks : List Key} {us : List V} {ds : List PyData} : H p = some (.dK (ks.zip us)) → ks.length = us.length → RpAll K mg H us ds → Rp K mg H (.ref p) (.dict ((ks.map keyD).zip ds))
  | dT {p : Addr} {ks : List (List Key)} {us : List V} {ds : List PyData} : H p = some (.dT (ks.zip us)) → ks.length = us.length → RpAll K mg H us ds → Rp K mg H (.ref p) (.dict ((ks.map fun k => PyData.tuple (k.map keyD)).zip ds))
  | fn {p : Addr} {x : Str} : mg x = some (.ref p) → Rp K mg H (.ref p) (fnD x)
inductive RpAll (K : PySem.W.Frag) (mg : Str → Option Value) (H : Hp) : List V → List PyData → Prop
  | nil : RpAll K mg H [] []
  | cons {v : V} {us : List V} {d : PyData} {ds : List PyData} : Rp K mg H v d → RpAll K mg H us ds → RpAll K mg H (v :: us) (d :: ds)
end
section
variable {K : PySem.W.Frag} {mg : Str → Option Value} {H H' : Hp}
theorem seqT_mono {p : Addr} {us : List V} (e : Same H H') (h : SqT K H p us) : SqT K H' p us := by
  rcases h with (h | ⟨o, h⟩) | h
  · exact .inl (.inl (e _ _ h))
  · exact .inl (.inr ⟨o, e _ _ h⟩)
  · exact .inr h
theorem seqL_mono {p : Addr} {us : List V} (e : Same H H') (h : SqL K H p us) : SqL K H' p us := by
  rcases h with (h | ⟨o, h⟩) | h
  · exact .inl (.inl (e _ _ h))
  · exact .inl (.inr ⟨o, e _ _ h⟩)
  · exact .inr h
mutual
theorem Rp.mono (e : Same H H') : ∀ {v : V} {d : PyData}, Rp K mg H v d → Rp K mg H' v d
  | _, _, .non => .non
  | _, _, .bl k => .bl k
  | _, _, .int i => .int i
  | _, _, .str x => .str x
  | _, _, .lst h a => .lst (e _ _ h) (RpAll.mono e a)
  | _, _, .scr h a => .scr (seqL_mono e h) (RpAll.mono e a)
  | _, _, .tup h a => .tup (seqT_mono e h) (RpAll.mono e a)
  | _, _, .dK h l a => .dK (e _ _ h) l (RpAll.mono e a)
  | _, _, .dT h l a => .dT (e _ _ h) l (RpAll.mono e a)
  | _, _, .fn h => .fn h
theorem RpAll.mono (e : Same H H') : ∀ {us : List V} {ds : List PyData}, RpAll K mg H us ds → RpAll K mg H' us ds
  | _, _, .nil => .nil
  | _, _, .cons h t => .cons (Rp.mono e h) (RpAll.mono e t)
end
theorem RpAll.length : ∀ {us : List V} {ds : List PyData}, RpAll K mg H us ds → us.length = ds.length
  | _, _, .nil => rfl
  | _, _, .cons _ t => by rw [List.length_cons, List.length_cons, RpAll.length t]
theorem RpAll.append : ∀ {us ws : List V} {ds es : List PyData}, RpAll K mg H us ds → RpAll K mg H ws es → RpAll K mg H (us ++ ws) (ds ++ es)
  | _, _, _, _, .nil, s => s
  | _, _, _, _, .cons h t, s => .cons h (RpAll.append t s)
theorem RpAll.get : ∀ {us : List V} {ds : List PyData} {i : Nat} {d : PyData}, RpAll K mg H us ds → ds[i]? = some d → ∃ v, us[i]? = some v ∧ Rp K mg H v d
  | _, _, i, _, .nil, e => by simp at e
  | _, _, 0, _, .cons h _, e => by
    simp at e
    subst e
    exact ⟨_, rfl, h⟩
  | _, _, i + 1, d, .cons _ t, e => by
    obtain ⟨v, h1, h2⟩ := RpAll.get (i := i) (d := d) t (by simpa using e)
    exact ⟨v, by simpa using h1, h2⟩
theorem RpAll.get' {us : List V} {ds : List PyData} {i : Nat} {v : V} (h : RpAll K mg H us ds) (e : us[i]? = some v) : ∃ d, ds[i]? = some d ∧ Rp K mg H v d := by
  have hl := h.length
  obtain ⟨h1, e1⟩ := List.getElem?_eq_some_iff.mp e
  have h2 : i < ds.length := by omega
  obtain ⟨w, q1, q2⟩ := h.get (i := i) (d := ds[i]) (by simp [h2])
  rw [e] at q1
  cases q1
  exact ⟨_, by simp [h2], q2⟩
theorem RpAll.set {v : V} {d : PyData} (r : Rp K mg H v d) : ∀ {us : List V} {ds : List PyData} (i : Nat), RpAll K mg H us ds → RpAll K mg H (us.set i v) (ds.set i d)
  | _, _, _, .nil => .nil
  | _, _, 0, .cons _ t => .cons r t
  | _, _, i + 1, .cons h t => .cons h (RpAll.set r i t)
theorem RpAll.take : ∀ {us : List V} {ds : List PyData} (n : Nat), RpAll K mg H us ds → RpAll K mg H (us.take n) (ds.take n)
  | _, _, 0, _ => .nil
  | _, _, n + 1, .nil => .nil
  | _, _, n + 1, .cons h t => .cons h (RpAll.take n t)
theorem RpAll.drop : ∀ {us : List V} {ds : List PyData} (n : Nat), RpAll K mg H us ds → RpAll K mg H (us.drop n) (ds.drop n)
  | _, _, 0, h => h
  | _, _, n + 1, .nil => .nil
  | _, _, n + 1, .cons h t => RpAll.drop n t
theorem RpAll.reverse : ∀ {us : List V} {ds : List PyData}, RpAll K mg H us ds → RpAll K mg H us.reverse ds.reverse
  | _, _, .nil => .nil
  | _, _, .cons h t => by
    rw [List.reverse_cons, List.reverse_cons]
    exact RpAll.append (RpAll.reverse t) (.cons h .nil)
/-! what is a scalar tells its value -/
theorem Rp.int_inv {v : V} {i : Int} (h : Rp K mg H v (.int i)) : v = .int i := by cases h; rfl
theorem Rp.bl_inv {v : V} {k : Bool} (h : Rp K mg H v (.bool k)) : v = .bl k := by cases h; rfl
theorem Rp.str_inv {v : V} {x : Str} (h : Rp K mg H v (.str x)) : v = .str x := by cases h; rfl
theorem Rp.non_inv {v : V} (h : Rp K mg H v .none) : v = .non := by cases h; rfl
theorem Rp.tup_inv {v : V} {ds : List PyData} (h : Rp K mg H v (.tuple ds)) : ∃ p us, v = .ref p ∧ SqT K H p us ∧ RpAll K mg H us ds := by
  cases h with
  | tup a b => exact ⟨_, _, rfl, a, b⟩
theorem Rp.lst_inv {v : V} {ds : List PyData} (h : Rp K mg H v (.list ds)) : ∃ p us, v = .ref p ∧ H p = some (.lst us) ∧ RpAll K mg H us ds := by
  cases h with
  | lst a b => exact ⟨_, _, rfl, a, b⟩
theorem rpAll_ints : ∀ {us : List V} {ns : List Int}, RpAll K mg H us (ns.map PyData.int) → us = ns.map V.int
  | _, [], h => by cases h; rfl
  | _, n :: ns, h => by
    cases h with
    | cons a b => rw [List.map_cons, a.int_inv, rpAll_ints b]
theorem rpAll_bools : ∀ {us : List V} {ns : List Bool}, RpAll K mg H us (ns.map PyData.bool) → us = ns.map V.bl
  | _, [], h => by cases h; rfl
  | _, n :: ns, h => by
    cases h with
    | cons a b => rw [List.map_cons, a.bl_inv, rpAll_bools b]
theorem rpAll_strs : ∀ {us : List V} {ns : List Str}, RpAll K mg H us (ns.map PyData.str) → us = ns.map V.str
  | _, [], h => by cases h; rfl
  | _, n :: ns, h => by
    cases h with
    | cons a b => rw [List.map_cons, a.str_inv, rpAll_strs b]
theorem rpAll_of_ints : ∀ (ns : List Int), RpAll K mg H (ns.map V.int) (ns.map PyData.int)
  | [] => .nil
  | n :: ns => .cons (.int n) (rpAll_of_ints ns)
theorem rpAll_of_strs : ∀ (ns : List Str), RpAll K mg H (ns.map V.str) (ns.map PyData.str)
  | [] => .nil
  | n :: ns => .cons (.str n) (rpAll_of_strs ns)
end
/-- what an owned cell holds -/
inductive Ob (K : PySem.W.Frag) (mg : Str → Option Value) (H : Hp) : HO → PyData → Prop
  | lst {us : List V} {ds : List PyData} : RpAll K mg H us ds → Ob K mg H (.lst us) (.list ds)
  | dK {ks : List Key} {us : List V} {ds : List PyData} : ks.length = us.length → RpAll K mg H us ds → Ob K mg H (.dK (ks.zip us)) (.dict ((ks.map keyD).zip ds))
  | dT {ks : List (List Key)} {us : List V} {ds : List PyData} : ks.length = us.length → RpAll K mg H us ds → Ob K mg H (.dT (ks.zip us)) (.dict ((ks.map fun k => PyData.tuple (k.map keyD)).zip ds))
theorem Ob.mono {K : PySem.W.Frag} {mg : Str → Option Value} {H H' : Hp} (e : Same H H') {o : HO} {d : PyData} : Ob K mg H o d → Ob K mg H' o d
  | .lst h => .lst (h.mono e)
  | .dK l h => .dK l (h.mono e)
  | .dT l h => .dT l (h.mono e)
theorem Ob.rp {K : PySem.W.Frag} {mg : Str → Option Value} {H : Hp} {p : Addr} {o : HO} {d : PyData} (h : Ob K mg H o d) (e : H p = some o) : Rp K mg H (.ref p) d := by
  cases h with
  | lst a => exact .lst e a
  | dK l a => exact .dK e l a
  | dT l a => exact .dT e l a
theorem Ob.lst_inv {K : PySem.W.Frag} {mg : Str → Option Value} {H : Hp} {o : HO} {ds : List PyData} (h : Ob K mg H o (.list ds)) : ∃ us, o = .lst us ∧ RpAll K mg H us ds := by
  cases h with
  | lst a => exact ⟨_, rfl, a⟩

/-- a def's frame: what its arguments stand in, the heap at its entry, the list that it may change -/
structure Fr where
  Hc : Hp
  H0 : Hp
  io : Option Addr
def ownAt (m : List Bool) (i : Nat) : Bool := m.getD i false
/-- the frame's part -/
structure Fo (K : PySem.W.Frag) (mg : Str → Option Value) (b : Bool) (f : Fr) (Hs : Hp) (en : En) (H : Hp) : Prop where
  sub : Same Hs H
  base : Same f.Hc Hs
  ext : ∀ a o, f.H0 a = some o → Hs a = f.Hc a
  keep : ∀ a o, f.H0 a = some o → f.io ≠ some a → H a = some o
  bagc : b = true → ∃ a us ds, f.io = some a ∧ en[0]? = some (some (.list ds)) ∧ H a = some (.lst us) ∧ Hs a = none ∧ RpAll K mg Hs us ds
  nobag : b = false → f.io = none
/-- slots and heaps told by data -/
structure Rl (K : PySem.W.Frag) (mg : Str → Option Value) (b : Bool) (m : List Bool) (f : Fr) (Hs : Hp) (en : En) (σ : L2.St) (H : Hp) : Prop where
  sub : Same Hs H
  base : Same f.Hc Hs
  ext : ∀ a o, f.H0 a = some o → Hs a = f.Hc a
  keep : ∀ a o, f.H0 a = some o → f.io ≠ some a → H a = some o
  bag : b = true → ownAt m 0 = true ∧ ∃ a ds, f.io = some a ∧ σ[0]? = some (some (.ref a)) ∧ en[0]? = some (some (.list ds))
  nobag : b = false → f.io = none
  len : en.length = σ.length
  sh : ∀ (i : Nat) (d : PyData), ownAt m i = false → en[i]? = some (some d) → ∃ v, σ[i]? = some (some v) ∧ Rp K mg Hs v d
  ow : ∀ (i : Nat) (d : PyData), ownAt m i = true → en[i]? = some (some d) → ∃ p o, σ[i]? = some (some (.ref p)) ∧ H p = some o ∧ Hs p = none ∧ (∀ u, f.H0 p = some u → f.io = some p) ∧ Ob K mg Hs o d
  dis : ∀ (i j : Nat) (d e : PyData) (p : Addr), i ≠ j → ownAt m i = true → ownAt m j = true → en[i]? = some (some d) → en[j]? = some (some e) → σ[i]? = some (some (.ref p)) → σ[j]? = some (some (.ref p)) → False

section
variable {K : PySem.W.Frag} {mg : Str → Option Value} {b : Bool} {m : List Bool} {f : Fr} {Hs H : Hp} {en : En} {σ : L2.St}
theorem same_updN {p : Addr} {o : HO} (h : H p = none) : Same H (upd H p o) := fun c x e => by
  rw [upd_ne (ne_of_none e h)]
  exact e
/-- a new object that is shared -/
theorem Rl.alloc (r : Rl K mg b m f Hs en σ H) {p : Addr} {o : HO} (hp : H p = none) : Rl K mg b m f (upd Hs p o) en σ (upd H p o) ∧ Same Hs (upd Hs p o) := by
  have hs : Hs p = none := r.sub.free hp
  have s1 : Same Hs (upd Hs p o) := same_updN hs
  refine ⟨⟨fun c x e => ?_, r.base.trans s1, fun c x e => ?_, fun c x e ni => ?_, r.bag, r.nobag, r.len, fun i d h1 h2 => ?_, fun i d h1 h2 => ?_, r.dis⟩, s1⟩
  · by_cases hc : c = p
    · rw [hc, upd_same] at e
      rw [hc, upd_same]
      exact e
    · rw [upd_ne hc] at e
      rw [upd_ne hc]
      exact r.sub c x e
  · by_cases hc : c = p
    · by_cases hi : f.io = some c
      · -- a bag stands in H
        cases hb : b with
        | false => rw [r.nobag hb] at hi; cases hi
        | true =>
          obtain ⟨ho, a, ds, q1, q2, q3⟩ := r.bag hb
          rw [q1] at hi
          cases hi
          obtain ⟨p', o', e1, e2, _⟩ := r.ow 0 _ ho q3
          rw [q2] at e1
          cases e1
          rw [hc, hp] at e2
          cases e2
      · have z := r.keep c x e hi
        rw [hc, hp] at z
        cases z
    · rw [upd_ne hc]
      exact r.ext c x e
  · have z := r.keep c x e ni
    rw [upd_ne (ne_of_none z hp)]
    exact z
  · obtain ⟨v, e1, e2⟩ := r.sh i d h1 h2
    exact ⟨v, e1, e2.mono s1⟩
  · obtain ⟨q, u, e1, e2, e3, e4, e5⟩ := r.ow i d h1 h2
    have nq : q ≠ p := ne_of_none e2 hp
    exact ⟨q, u, e1, by rw [upd_ne nq]; exact e2, by rw [upd_ne nq]; exact e3, e4, e5.mono s1⟩
/-- a new object that is not shared (yet) -/
theorem Rl.fresh (r : Rl K mg b m f Hs en σ H) {p : Addr} {o : HO} (hp : H p = none) : Rl K mg b m f Hs en σ (upd H p o) := by
  refine ⟨fun c x e => ?_, r.base, r.ext, fun c x e ni => ?_, r.bag, r.nobag, r.len, r.sh, fun i d h1 h2 => ?_, r.dis⟩
  · have z := r.sub c x e
    rw [upd_ne (ne_of_none z hp)]
    exact z
  · have z := r.keep c x e ni
    rw [upd_ne (ne_of_none z hp)]
    exact z
  · obtain ⟨q, u, e1, e2, e3, e4, e5⟩ := r.ow i d h1 h2
    exact ⟨q, u, e1, by rw [upd_ne (ne_of_none e2 hp)]; exact e2, e3, e4, e5⟩
theorem Rl.bagAt (r : Rl K mg b m f Hs en σ H) (hb : b = true) : ∃ a us ds, f.io = some a ∧ σ[0]? = some (some (.ref a)) ∧ en[0]? = some (some (.list ds)) ∧ H a = some (.lst us) ∧ Hs a = none ∧ RpAll K mg Hs us ds := by
  obtain ⟨ho, a, ds, q1, q2, q3⟩ := r.bag hb
  obtain ⟨p', o', e1, e2, e3, e4, e5⟩ := r.ow 0 _ ho q3
  rw [q2] at e1
  cases e1
  obtain ⟨us, rfl, e6⟩ := e5.lst_inv
  exact ⟨a, us, ds, q1, q2, q3, e2, e3, e6⟩
theorem Rl.fo (r : Rl K mg b m f Hs en σ H) : Fo K mg b f Hs en H :=
  ⟨r.sub, r.base, r.ext, r.keep, fun hb => let ⟨a, us, ds, q1, q2, q3, e2, e3, e6⟩ := r.bagAt hb; ⟨a, us, ds, q1, q3, e2, e3, e6⟩, r.nobag⟩
/-- what stood at the entry stands, or is the bag -/
theorem Rl.there (r : Rl K mg b m f Hs en σ H) {a : Addr} {o : HO} (e : f.H0 a = some o) : ∃ o', H a = some o' := by
  by_cases hi : f.io = some a
  · cases hb : b with
    | false => rw [r.nobag hb] at hi; cases hi
    | true =>
      obtain ⟨a', us, ds, q1, _, _, e2, _⟩ := r.bagAt hb
      rw [q1] at hi
      cases hi
      exact ⟨_, e2⟩
  · exact ⟨o, r.keep a o e hi⟩
end

/-- owned cells handed over to what is shared -/
def wk (m m' : List Bool) (b : Bool) : Bool := (List.range m'.length).all (fun i => !ownAt m' i || ownAt m i) && (!b || ownAt m' 0)
theorem wk_at {m m' : List Bool} {b : Bool} (h : wk m m' b = true) {i : Nat} (hi : ownAt m' i = true) : ownAt m i = true := by
  unfold wk at h
  rw [Bool.and_eq_true, List.all_eq_true] at h
  by_cases hl : i < m'.length
  · have z := h.1 i (List.mem_range.mpr hl)
    rw [hi] at z
    simpa using z
  · unfold ownAt at hi
    rw [List.getD_eq_getElem?_getD, List.getElem?_eq_none (by omega)] at hi
    cases hi
theorem wk_bag {m m' : List Bool} {b : Bool} (h : wk m m' b = true) (hb : b = true) : ownAt m' 0 = true := by
  unfold wk at h
  rw [Bool.and_eq_true] at h
  have z := h.2
  rw [hb] at z
  simpa using z
open Classical in
theorem Rl.weaken {K : PySem.W.Frag} {mg : Str → Option Value} {b : Bool} {m m' : List Bool} {f : Fr} {Hs H : Hp} {en : En} {σ : L2.St} (r : Rl K mg b m f Hs en σ H) (h : wk m m' b = true) :
    ∃ Hs', Rl K mg b m' f Hs' en σ H ∧ Same Hs Hs' := by
  let G : Addr → Prop := fun a => ∃ i d, ownAt m i = true ∧ ownAt m' i = false ∧ en[i]? = some (some d) ∧ σ[i]? = some (some (V.ref a))
  let Hs' : Hp := fun a => if G a then H a else Hs a
  have gT : ∀ a, G a → Hs' a = H a := fun a g => if_pos g
  have gF : ∀ a, ¬ G a → Hs' a = Hs a := fun a g => if_neg g
  have gN : ∀ a, G a → Hs a = none ∧ (∃ o, H a = some o) ∧ (∀ u, f.H0 a = some u → f.io = some a) := by
    intro a ⟨i, d, h1, h2, h3, h4⟩
    obtain ⟨p, o, e1, e2, e3, e4, e5⟩ := r.ow i d h1 h3
    rw [h4] at e1
    cases e1
    exact ⟨e3, ⟨o, e2⟩, e4⟩
  have s1 : Same Hs Hs' := fun a o e => by
    by_cases g : G a
    · rw [(gN a g).1] at e
      cases e
    · rw [gF a g]
      exact e
  have s2 : Same Hs' H := fun a o e => by
    by_cases g : G a
    · rw [gT a g] at e
      exact e
    · rw [gF a g] at e
      exact r.sub a o e
  have nbag : ∀ a, G a → f.io ≠ some a := fun a ⟨i, d, h1, h2, h3, h4⟩ hi => by
    cases hb : b with
    | false => rw [r.nobag hb] at hi; cases hi
    | true =>
      obtain ⟨ho, a', ds, q1, q2, q3⟩ := r.bag hb
      rw [q1] at hi
      cases hi
      by_cases i0 : i = 0
      · rw [i0, wk_bag h hb] at h2
        cases h2
      · exact r.dis i 0 _ _ a i0 h1 ho h3 q3 h4 q2
  refine ⟨Hs', ⟨s2, r.base.trans s1, fun a o e => ?_, r.keep, fun hb => ⟨wk_bag h hb, (r.bag hb).2⟩, r.nobag, r.len, fun i d h1 h2 => ?_, fun i d h1 h2 => ?_, fun i j d e p hij h1 h2 => r.dis i j d e p hij (wk_at h h1) (wk_at h h2)⟩, s1⟩
  · by_cases g : G a
    · exact absurd ((gN a g).2.2 o e) (nbag a g)
    · rw [gF a g]
      exact r.ext a o e
  · cases hm : ownAt m i with
    | false =>
      obtain ⟨v, e1, e2⟩ := r.sh i d hm h2
      exact ⟨v, e1, e2.mono s1⟩
    | true =>
      obtain ⟨p, o, e1, e2, e3, e4, e5⟩ := r.ow i d hm h2
      exact ⟨_, e1, (e5.mono s1).rp (by rw [gT p ⟨i, d, hm, h1, h2, e1⟩]; exact e2)⟩
  · obtain ⟨p, o, e1, e2, e3, e4, e5⟩ := r.ow i d (wk_at h h1) h2
    have ng : ¬ G p := fun ⟨j, d', k1, k2, k3, k4⟩ => by
      by_cases hij : i = j
      · rw [← hij, h1] at k2
        cases k2
      · exact r.dis i j _ _ p hij (wk_at h h1) k1 h2 k3 e1 k4
    exact ⟨p, o, e1, e2, by rw [gF p ng]; exact e3, e4, e5.mono s1⟩
end VS

/-! VS2 -/
namespace VS
open PySem L2

def R.bind {s t : Type} (x : R s) (k : s → En → R t) : R t := match x with
  | .ok v en => k v en
  | .exc x en => .exc x en
  | .stuck => .stuck
def R.ofO {t : Type} (o : Option t) (en : En) : R t := match o with
  | some v => .ok v en
  | none => .stuck

def XOk (mg : Str → Option Value) (x : XV) (cls : Value) (dd : Option Addr) (H : Hp) : Prop :=
  mg x.cls = some cls ∧ match x.arg with
    | none => dd = none
    | some n => ∃ p, dd = some p ∧ H p = some (.xd [(("many" : Str), .int n)])
section
variable (K : PySem.W.Frag) (mg : Str → Option Value) (b : Bool) (m : List Bool)
/-- behind an expression that tells d -/
def Cont (f : Fr) (Hs : Hp) (en : En) (σ : L2.St) (d : PyData) (Q : VK) : Prop := ∀ v H' Hs', Rl K mg b m f Hs' en σ H' → Same Hs Hs' → Rp K mg Hs' v d → Q v H'
def ContB (f : Fr) (Hs : Hp) (en : En) (σ : L2.St) (Q : Hp → Prop) : Prop := ∀ H' Hs', Rl K mg b m f Hs' en σ H' → Same Hs Hs' → Q H'
def ContA (f : Fr) (Hs : Hp) (en : En) (σ : L2.St) (ds : List PyData) (Q : List V → Hp → Prop) : Prop := ∀ vs H' Hs', Rl K mg b m f Hs' en σ H' → Same Hs Hs' → RpAll K mg Hs' vs ds → Q vs H'
/-- behind one that tells a new object -/
def ContF (f : Fr) (Hs : Hp) (en : En) (σ : L2.St) (d : PyData) (Q : VK) : Prop := ∀ p o H' Hs', Rl K mg b m f Hs' en σ H' → Same Hs Hs' → H' p = some o → Hs' p = none → (∀ u, f.H0 p ≠ some u) →
  (∀ i e, ownAt m i = true → en[i]? = some (some e) → σ[i]? ≠ some (some (.ref p))) → Ob K mg Hs' o d → Q (.ref p) H'
def ContX (f : Fr) (Hs : Hp) (en : En) (σ : L2.St) (x : XV) (W : WX) : Prop := ∀ cls dd H' Hs', Rl K mg b m f Hs' en σ H' → Same Hs Hs' → XOk mg x cls dd H' → W cls dd σ H'
variable (W : WX)
def tv (ev : En → R PyData) : TE := fun σ H Q => ∃ f Hs en, Rl K mg b m f Hs en σ H ∧ match ev en with
  | .ok d en' => Cont K mg b m f Hs en' σ d Q
  | .exc x en' => ContX K mg b m f Hs en' σ x W
  | .stuck => False
def tfv (ev : En → R PyData) : TE := fun σ H Q => ∃ f Hs en, Rl K mg b m f Hs en σ H ∧ match ev en with
  | .ok d en' => ContF K mg b m f Hs en' σ d Q
  | .exc x en' => ContX K mg b m f Hs en' σ x W
  | .stuck => False
def ttv (ev : En → R Bool) : TT := fun σ H Q => ∃ f Hs en, Rl K mg b m f Hs en σ H ∧ match ev en with
  | .ok k en' => ContB K mg b m f Hs en' σ (Q k)
  | .exc x en' => ContX K mg b m f Hs en' σ x W
  | .stuck => False
def tav (ev : En → R (List PyData)) : TA := fun σ H Q => ∃ f Hs en, Rl K mg b m f Hs en σ H ∧ match ev en with
  | .ok ds en' => ContA K mg b m f Hs en' σ ds Q
  | .exc x en' => ContX K mg b m f Hs en' σ x W
  | .stuck => False
end
abbrev CE (X : Cx) (b : Bool) (m : List Bool) (W : WX) (e : Expr) (ev : En → R PyData) : Prop := PE X e (tv X.K X.mg b m W ev)
abbrev CF (X : Cx) (b : Bool) (m : List Bool) (W : WX) (e : Expr) (ev : En → R PyData) : Prop := PE X e (tfv X.K X.mg b m W ev)
abbrev CT (X : Cx) (b : Bool) (m : List Bool) (W : WX) (e : Expr) (ev : En → R Bool) : Prop := PT X e (ttv X.K X.mg b m W ev)
abbrev CA (X : Cx) (b : Bool) (m : List Bool) (W : WX) (es : List Expr) (ev : En → R (List PyData)) : Prop := PA X es (tav X.K X.mg b m W ev)

section
variable {X : Cx}
theorem _root_.L2.PE.imp {e : Expr} {t t' : TE} (h : PE X e t) (i : ∀ σ H Q, t' σ H Q → t σ H Q) : PE X e t' := ⟨fun pins s σ H Q I q => h.run pins s σ H Q I (i σ H Q q)⟩
theorem _root_.L2.PT.imp {e : Expr} {t t' : TT} (h : PT X e t) (i : ∀ σ H Q, t' σ H Q → t σ H Q) : PT X e t' := ⟨fun pins s σ H Q I q => h.run pins s σ H Q I (i σ H Q q)⟩
theorem _root_.L2.PW.imp {e : Expr} {t t' : TT} (h : PW X e t) (i : ∀ σ H Q, t' σ H Q → t σ H Q) : PW X e t' := ⟨fun wh pins s σ H Q I q => h.run wh pins s σ H Q I (i σ H Q q)⟩
theorem _root_.L2.PA.imp {e : List Expr} {t t' : TA} (h : PA X e t) (i : ∀ σ H Q, t' σ H Q → t σ H Q) : PA X e t' := ⟨fun pos pins s σ H Q I q => h.run pos pins s σ H Q I (i σ H Q q)⟩
end
section
variable {K : PySem.W.Frag} {mg : Str → Option Value} {b : Bool} {m : List Bool} {W : WX} {f : Fr} {Hs Hs' H : Hp} {en en' : En} {σ : L2.St}
theorem Cont.back {d : PyData} {Q : VK} (h : Cont K mg b m f Hs en σ d Q) (s : Same Hs Hs') : Cont K mg b m f Hs' en σ d Q := fun v H' Hs'' r q => h v H' Hs'' r (s.trans q)
theorem ContX.back {x : XV} (h : ContX K mg b m f Hs en σ x W) (s : Same Hs Hs') : ContX K mg b m f Hs' en σ x W := fun c d H' Hs'' r q => h c d H' Hs'' r (s.trans q)
/-- a fresh object handed over -/
theorem Rl.share (r : Rl K mg b m f Hs en σ H) {p : Addr} {o : HO} (e1 : H p = some o) (e2 : Hs p = none) (e3 : ∀ u, f.H0 p ≠ some u) (e4 : ∀ i e, ownAt m i = true → en[i]? = some (some e) → σ[i]? ≠ some (some (.ref p))) :
    Rl K mg b m f (upd Hs p o) en σ H ∧ Same Hs (upd Hs p o) := by
  have s1 : Same Hs (upd Hs p o) := same_updN e2
  refine ⟨⟨fun c x e => ?_, r.base.trans s1, fun c x e => ?_, r.keep, r.bag, r.nobag, r.len, fun i d h1 h2 => ?_, fun i d h1 h2 => ?_, r.dis⟩, s1⟩
  · by_cases hc : c = p
    · rw [hc, upd_same] at e
      rw [hc, e1]
      exact e
    · rw [upd_ne hc] at e
      exact r.sub c x e
  · have hc : c ≠ p := fun z => e3 x (by rw [← z]; exact e)
    rw [upd_ne hc]
    exact r.ext c x e
  · obtain ⟨v, k1, k2⟩ := r.sh i d h1 h2
    exact ⟨v, k1, k2.mono s1⟩
  · obtain ⟨q, u, k1, k2, k3, k4, k5⟩ := r.ow i d h1 h2
    have nq : q ≠ p := fun z => e4 i d h1 h2 (by rw [← z]; exact k1)
    exact ⟨q, u, k1, k2, by rw [upd_ne nq]; exact k3, k4, k5.mono s1⟩
theorem tfv_of {ev : En → R PyData} {σ : L2.St} {H : Hp} {Q : VK} (h : tv K mg b m W ev σ H Q) : tfv K mg b m W ev σ H Q := by
  obtain ⟨f, Hs, en, r, h⟩ := h
  refine ⟨f, Hs, en, r, ?_⟩
  cases e : ev en with
  | stuck => rw [e] at h; exact h
  | exc x en' => rw [e] at h; exact h
  | ok d en' =>
    rw [e] at h
    intro p o H' Hs' r' s' e1 e2 e3 e4 ob
    obtain ⟨r2, s2⟩ := r'.share e1 e2 e3 e4
    exact h _ _ _ r2 (s'.trans s2) ((ob.mono s2).rp upd_same)
end

/-! ### names, constants -/
def eV (i : Nat) : En → R PyData := fun en => match en[i]? with
  | some (some d) => .ok d en
  | _ => .stuck
def eC (d : PyData) : En → R PyData := fun en => .ok d en
section
variable {X : Cx} {b : Bool} {m : List Bool} {W : WX} {pos : Pos}
theorem ce_of_cf {e : Expr} {ev : En → R PyData} (h : CF X b m W e ev) : CE X b m W e ev := h.imp fun _ _ _ => tfv_of
theorem ce_v (i : Nat) {x : Str} (hm : ownAt m i = false := by rfl) (hN : X.N[i]? = some x := by rfl) (hv : Vis X.env.scope x := by first | exact Or.inl rfl | exact Or.inr (Or.inl rfl) | exact Or.inr (Or.inr rfl)) (hd : (x == ("__debug__" : Str)) = false := by decide)
    (hcd : (x == ("__classdict__" : Str)) = false := by decide) : CE X b m W (.Name x pos) (eV i) := by
  refine (pv i hN hv hd hcd).imp fun σ H Q h => ?_
  obtain ⟨f, Hs, en, r, h⟩ := h
  unfold eV at h
  cases e : en[i]? with
  | none => rw [e] at h; exact h.elim
  | some o =>
    cases o with
    | none => rw [e] at h; exact h.elim
    | some d =>
      rw [e] at h
      obtain ⟨v, e1, e2⟩ := r.sh i d hm e
      exact ⟨v, e1, h v H Hs r (Same.refl _) e2⟩
theorem c_of {v : V} {d : PyData} (hr : ∀ K mg H, Rp K mg H v d) {σ : L2.St} {H : Hp} {Q : VK} (h : tv X.K X.mg b m W (eC d) σ H Q) : tC v σ H Q := by
  obtain ⟨f, Hs, en, r, h⟩ := h
  exact h v H Hs r (Same.refl _) (hr _ _ _)
theorem ce_int {i : Int} {j} : CE X b m W (.Constant (.int i) j pos) (eC (.int i)) := pe_int.imp fun _ _ _ => c_of fun _ _ _ => .int i
theorem ce_bl {k : Bool} {j} : CE X b m W (.Constant (.bool k) j pos) (eC (.bool k)) := pe_bl.imp fun _ _ _ => c_of fun _ _ _ => .bl k
theorem ce_non {j} : CE X b m W (.Constant .none j pos) (eC .none) := pe_non.imp fun _ _ _ => c_of fun _ _ _ => .non
theorem ce_str {x : Str} {j} : CE X b m W (.Constant (.str x) j pos) (eC (.str x)) := pe_str.imp fun _ _ _ => c_of fun _ _ _ => .str x
/-- an int constant of the module -/
theorem ce_glob {i : Int} {t : Tok} {x : Str} (hm : X.mg x = some (.int i t)) (hg : Gl X x := by rfl) (hd : (x == ("__debug__" : Str)) = false := by decide) : CE X b m W (.Name x pos) (eC (.int i)) :=
  (pe_glob hg hm (v := .int i) ⟨t, rfl⟩ hd).imp fun _ _ _ => c_of fun _ _ _ => .int i
/-- a def as a value -/
theorem ce_fn {p : Addr} {x : Str} (hm : X.mg x = some (.ref p)) (hg : Gl X x := by rfl) (hd : (x == ("__debug__" : Str)) = false := by decide) : CE X b m W (.Name x pos) (eC (fnD x)) :=
  (pe_glob hg hm (v := .ref p) rfl hd).imp fun σ H Q h => by
    obtain ⟨f, Hs, en, r, h⟩ := h
    exact h (.ref p) H Hs r (Same.refl _) (.fn hm)
end

/-! ### two operands -/
def e2 (g : PyData → PyData → Option PyData) (ea eb : En → R PyData) : En → R PyData := fun en => (ea en).bind fun d1 en1 => (eb en1).bind fun d2 en2 => R.ofO (g d1 d2) en2
def e1 (g : PyData → Option PyData) (ea : En → R PyData) : En → R PyData := fun en => (ea en).bind fun d1 en1 => R.ofO (g d1) en1
/-- an operator's rule told by data -/
def Op2 (K : PySem.W.Frag) (mg : Str → Option Value) (r : R2) (g : PyData → PyData → Option PyData) : Prop :=
  ∀ (b : Bool) (m : List Bool) (f : Fr) (Hs : Hp) (en : En) (σ : L2.St) (H : Hp) (x y : V) (d1 d2 d : PyData) (Q : VK), Rl K mg b m f Hs en σ H → Rp K mg Hs x d1 → Rp K mg Hs y d2 → g d1 d2 = some d → Cont K mg b m f Hs en σ d Q → r x y H Q
def Op1 (K : PySem.W.Frag) (mg : Str → Option Value) (r : V → Hp → VK → Prop) (g : PyData → Option PyData) : Prop :=
  ∀ (b : Bool) (m : List Bool) (f : Fr) (Hs : Hp) (en : En) (σ : L2.St) (H : Hp) (x : V) (d1 d : PyData) (Q : VK), Rl K mg b m f Hs en σ H → Rp K mg Hs x d1 → g d1 = some d → Cont K mg b m f Hs en σ d Q → r x H Q
def Op2F (K : PySem.W.Frag) (mg : Str → Option Value) (r : R2) (g : PyData → PyData → Option PyData) : Prop :=
  ∀ (b : Bool) (m : List Bool) (f : Fr) (Hs : Hp) (en : En) (σ : L2.St) (H : Hp) (x y : V) (d1 d2 d : PyData) (Q : VK), Rl K mg b m f Hs en σ H → Rp K mg Hs x d1 → Rp K mg Hs y d2 → g d1 d2 = some d → ContF K mg b m f Hs en σ d Q → r x y H Q
section
variable {K : PySem.W.Frag} {mg : Str → Option Value} {b : Bool} {m : List Bool} {W : WX}
theorem tv_op2 {r : R2} {g : PyData → PyData → Option PyData} {ea eb : En → R PyData} (hg : Op2 K mg r g) {σ : L2.St} {H : Hp} {Q : VK} (h : tv K mg b m W (e2 g ea eb) σ H Q) : tOp r (tv K mg b m W ea) (tv K mg b m W eb) σ H Q := by
  obtain ⟨f, Hs, en, rl, h⟩ := h
  unfold e2 at h
  refine ⟨f, Hs, en, rl, ?_⟩
  cases ha : ea en with
  | stuck => rw [ha] at h; exact h
  | exc x en' => rw [ha] at h; exact h
  | ok d1 en1 =>
    rw [ha] at h
    intro v1 H1 Hs1 r1 s1 p1
    refine ⟨f, Hs1, en1, r1, ?_⟩
    have h' : match (eb en1).bind fun d2 en2 => R.ofO (g d1 d2) en2 with
      | .ok d en' => Cont K mg b m f Hs en' σ d Q
      | .exc x en' => ContX K mg b m f Hs en' σ x W
      | .stuck => False := h
    cases hb : eb en1 with
    | stuck => rw [hb] at h'; exact h'
    | exc x en' => rw [hb] at h'; exact ContX.back h' s1
    | ok d2 en2 =>
      rw [hb] at h'
      intro v2 H2 Hs2 r2 s2 p2
      have h2 : match R.ofO (g d1 d2) en2 with
        | .ok d en' => Cont K mg b m f Hs en' σ d Q
        | .exc x en' => ContX K mg b m f Hs en' σ x W
        | .stuck => False := h'
      cases hd : g d1 d2 with
      | none => rw [hd] at h2; exact h2.elim
      | some d =>
        rw [hd] at h2
        exact hg b m f Hs2 en2 σ H2 v1 v2 d1 d2 d Q r2 (p1.mono s2) p2 hd (Cont.back h2 (s1.trans s2))
theorem tfv_op2 {r : R2} {g : PyData → PyData → Option PyData} {ea eb : En → R PyData} (hg : Op2F K mg r g) {σ : L2.St} {H : Hp} {Q : VK} (h : tfv K mg b m W (e2 g ea eb) σ H Q) : tOp r (tv K mg b m W ea) (tv K mg b m W eb) σ H Q := by
  obtain ⟨f, Hs, en, rl, h⟩ := h
  unfold e2 at h
  refine ⟨f, Hs, en, rl, ?_⟩
  cases ha : ea en with
  | stuck => rw [ha] at h; exact h
  | exc x en' => rw [ha] at h; exact h
  | ok d1 en1 =>
    rw [ha] at h
    intro v1 H1 Hs1 r1 s1 p1
    refine ⟨f, Hs1, en1, r1, ?_⟩
    have h' : match (eb en1).bind fun d2 en2 => R.ofO (g d1 d2) en2 with
      | .ok d en' => ContF K mg b m f Hs en' σ d Q
      | .exc x en' => ContX K mg b m f Hs en' σ x W
      | .stuck => False := h
    cases hb : eb en1 with
    | stuck => rw [hb] at h'; exact h'
    | exc x en' => rw [hb] at h'; exact ContX.back h' s1
    | ok d2 en2 =>
      rw [hb] at h'
      intro v2 H2 Hs2 r2 s2 p2
      have h2 : match R.ofO (g d1 d2) en2 with
        | .ok d en' => ContF K mg b m f Hs en' σ d Q
        | .exc x en' => ContX K mg b m f Hs en' σ x W
        | .stuck => False := h'
      cases hd : g d1 d2 with
      | none => rw [hd] at h2; exact h2.elim
      | some d =>
        rw [hd] at h2
        exact hg b m f Hs2 en2 σ H2 v1 v2 d1 d2 d Q r2 (p1.mono s2) p2 hd (fun p o H' Hs' r' s' => h2 p o H' Hs' r' ((s1.trans s2).trans s'))
theorem tv_op1 {r : V → Hp → VK → Prop} {g : PyData → Option PyData} {ea : En → R PyData} (hg : Op1 K mg r g) {σ : L2.St} {H : Hp} {Q : VK} (h : tv K mg b m W (e1 g ea) σ H Q) : tUn r (tv K mg b m W ea) σ H Q := by
  obtain ⟨f, Hs, en, rl, h⟩ := h
  unfold e1 at h
  refine ⟨f, Hs, en, rl, ?_⟩
  cases ha : ea en with
  | stuck => rw [ha] at h; exact h
  | exc x en' => rw [ha] at h; exact h
  | ok d1 en1 =>
    rw [ha] at h
    intro v1 H1 Hs1 r1 s1 p1
    have h2 : match R.ofO (g d1) en1 with
      | .ok d en' => Cont K mg b m f Hs en' σ d Q
      | .exc x en' => ContX K mg b m f Hs en' σ x W
      | .stuck => False := h
    cases hd : g d1 with
    | none => rw [hd] at h2; exact h2.elim
    | some d =>
      rw [hd] at h2
      exact hg b m f Hs1 en1 σ H1 v1 d1 d Q r1 p1 hd (Cont.back h2 s1)
end
section
variable {X : Cx} {b : Bool} {m : List Bool} {W : WX} {pos : Pos} {a c : Expr} {ea eb : En → R PyData}
theorem ce_op {op : Operator} {r : R2} {g : PyData → PyData → Option PyData} (ho : OpR X (binaryOp op) r) (hg : Op2 X.K X.mg r g) (ha : CE X b m W a ea) (hb : CE X b m W c eb) : CE X b m W (.BinOp a op c pos) (e2 g ea eb) :=
  (pe_op ho ha hb).imp fun _ _ _ => tv_op2 hg
theorem cf_op {op : Operator} {r : R2} {g : PyData → PyData → Option PyData} (ho : OpR X (binaryOp op) r) (hg : Op2F X.K X.mg r g) (ha : CE X b m W a ea) (hb : CE X b m W c eb) : CF X b m W (.BinOp a op c pos) (e2 g ea eb) :=
  (pe_op ho ha hb).imp fun _ _ _ => tfv_op2 hg
theorem ce_cmp {op : CmpOp} {r : R2} {g : PyData → PyData → Option PyData} (ho : OpR X (compareOp op) r) (hg : Op2 X.K X.mg r g) (ha : CE X b m W a ea) (hb : CE X b m W c eb) (hm : behindInMarks op c = false) : CE X b m W (.Compare a [op] [c] pos) (e2 g ea eb) :=
  (pe_cmpR ho ha hb hm).imp fun _ _ _ => tv_op2 hg
theorem ce_un {op : UnaryOp} {r : V → Hp → VK → Prop} {g : PyData → Option PyData} (ho : UnR X (unaryOp op) r) (hg : Op1 X.K X.mg r g) (ha : CE X b m W a ea) : CE X b m W (.UnaryOp op a pos) (e1 g ea) :=
  (pe_un ho ha).imp fun _ _ _ => tv_op1 hg
end
/-! the truth of a bool -/
def asB (ea : En → R PyData) : En → R Bool := fun en => match ea en with
  | .ok (.bool k) en' => .ok k en'
  | .exc x en' => .exc x en'
  | _ => .stuck
theorem tv_asB {K : PySem.W.Frag} {mg : Str → Option Value} {b : Bool} {m : List Bool} {W : WX} {ea : En → R PyData} {σ : L2.St} {H : Hp} {Q : Bool → Hp → Prop} (h : ttv K mg b m W (asB ea) σ H Q) :
    tv K mg b m W ea σ H (fun x H' => ∃ k, x = .bl k ∧ Q k H') := by
  obtain ⟨f, Hs, en, rl, h⟩ := h
  unfold asB at h
  refine ⟨f, Hs, en, rl, ?_⟩
  cases ha : ea en with
  | stuck => rw [ha] at h; exact h
  | exc x en' => rw [ha] at h; exact h
  | ok d1 en1 =>
    rw [ha] at h
    cases d1 with
    | bool k =>
      intro v H' Hs' r' s' p'
      exact ⟨k, p'.bl_inv, h H' Hs' r' s'⟩
    | none => exact h.elim
    | int _ => exact h.elim
    | str _ => exact h.elim
    | list _ => exact h.elim
    | tuple _ => exact h.elim
    | dict _ => exact h.elim
section
variable {X : Cx} {b : Bool} {m : List Bool} {W : WX} {pos : Pos} {a c : Expr} {ea eb : En → R PyData}
theorem ct_cmp {op : CmpOp} {r : R2} {g : PyData → PyData → Option PyData} (ho : OpR X (compareOp op) r) (hg : Op2 X.K X.mg r g) (ha : CE X b m W a ea) (hb : CE X b m W c eb) (hm : behindInMarks op c = false) : CT X b m W (.Compare a [op] [c] pos) (asB (e2 g ea eb)) :=
  (pt_cmpR ho ha hb hm).imp fun σ H Q h => tv_op2 hg (tv_asB h)
theorem ct_val (h : CE X b m W a ea) (he : ∀ whole, isTrue a X.env whole = (do let v ← whole; standAt a.pos; holding [v] (truthy v)) := by intro _; rfl) : CT X b m W a (asB ea) :=
  (pt_val h he).imp fun σ H Q q => tv_asB q
end
/-! ### and, or, not -/
def eAndB (ta tb : En → R Bool) : En → R Bool := fun en => (ta en).bind fun k en1 => if k = true then tb en1 else .ok false en1
def eOrB (ta tb : En → R Bool) : En → R Bool := fun en => (ta en).bind fun k en1 => if k = true then .ok true en1 else tb en1
def eNotB (ta : En → R Bool) : En → R Bool := fun en => (ta en).bind fun k en1 => .ok (!k) en1
def eIf (tt : En → R Bool) (ea eb : En → R PyData) : En → R PyData := fun en => (tt en).bind fun k en1 => if k = true then ea en1 else eb en1
def ofB (ta : En → R Bool) : En → R PyData := fun en => (ta en).bind fun k en1 => .ok (.bool k) en1
section
variable {K : PySem.W.Frag} {mg : Str → Option Value} {b : Bool} {m : List Bool} {W : WX}
theorem ttv_and {ta tb : En → R Bool} {σ : L2.St} {H : Hp} {Q : Bool → Hp → Prop} (h : ttv K mg b m W (eAndB ta tb) σ H Q) : tAnd (ttv K mg b m W ta) (ttv K mg b m W tb) σ H Q := by
  obtain ⟨f, Hs, en, rl, h⟩ := h
  unfold eAndB at h
  refine ⟨f, Hs, en, rl, ?_⟩
  cases ha : ta en with
  | stuck => rw [ha] at h; exact h
  | exc x en' => rw [ha] at h; exact h
  | ok k en1 =>
    rw [ha] at h
    intro H' Hs' r' s'
    cases k with
    | false => exact h H' Hs' r' s'
    | true =>
      refine ⟨f, Hs', en1, r', ?_⟩
      have h' : match tb en1 with
        | .ok k en' => ContB K mg b m f Hs en' σ (Q k)
        | .exc x en' => ContX K mg b m f Hs en' σ x W
        | .stuck => False := h
      cases hb : tb en1 with
      | stuck => rw [hb] at h'; exact h'
      | exc x en' => rw [hb] at h'; exact ContX.back h' s'
      | ok k en2 => rw [hb] at h'; exact fun H2 Hs2 r2 s2 => h' H2 Hs2 r2 (s'.trans s2)
theorem ttv_or {ta tb : En → R Bool} {σ : L2.St} {H : Hp} {Q : Bool → Hp → Prop} (h : ttv K mg b m W (eOrB ta tb) σ H Q) : tOr (ttv K mg b m W ta) (ttv K mg b m W tb) σ H Q := by
  obtain ⟨f, Hs, en, rl, h⟩ := h
  unfold eOrB at h
  refine ⟨f, Hs, en, rl, ?_⟩
  cases ha : ta en with
  | stuck => rw [ha] at h; exact h
  | exc x en' => rw [ha] at h; exact h
  | ok k en1 =>
    rw [ha] at h
    intro H' Hs' r' s'
    cases k with
    | true => exact h H' Hs' r' s'
    | false =>
      refine ⟨f, Hs', en1, r', ?_⟩
      have h' : match tb en1 with
        | .ok k en' => ContB K mg b m f Hs en' σ (Q k)
        | .exc x en' => ContX K mg b m f Hs en' σ x W
        | .stuck => False := h
      cases hb : tb en1 with
      | stuck => rw [hb] at h'; exact h'
      | exc x en' => rw [hb] at h'; exact ContX.back h' s'
      | ok k en2 => rw [hb] at h'; exact fun H2 Hs2 r2 s2 => h' H2 Hs2 r2 (s'.trans s2)
theorem ttv_not {ta : En → R Bool} {σ : L2.St} {H : Hp} {Q : Bool → Hp → Prop} (h : ttv K mg b m W (eNotB ta) σ H Q) : tNot (ttv K mg b m W ta) σ H Q := by
  obtain ⟨f, Hs, en, rl, h⟩ := h
  unfold eNotB at h
  refine ⟨f, Hs, en, rl, ?_⟩
  cases ha : ta en with
  | stuck => rw [ha] at h; exact h
  | exc x en' => rw [ha] at h; exact h
  | ok k en1 => rw [ha] at h; exact h
theorem tv_if {tt : En → R Bool} {ea eb : En → R PyData} {σ : L2.St} {H : Hp} {Q : VK} (h : tv K mg b m W (eIf tt ea eb) σ H Q) : tIf (ttv K mg b m W tt) (tv K mg b m W ea) (tv K mg b m W eb) σ H Q := by
  obtain ⟨f, Hs, en, rl, h⟩ := h
  unfold eIf at h
  refine ⟨f, Hs, en, rl, ?_⟩
  cases ha : tt en with
  | stuck => rw [ha] at h; exact h
  | exc x en' => rw [ha] at h; exact h
  | ok k en1 =>
    rw [ha] at h
    intro H' Hs' r' s'
    have go : ∀ ec : En → R PyData, (match ec en1 with
        | .ok d en' => Cont K mg b m f Hs en' σ d Q
        | .exc x en' => ContX K mg b m f Hs en' σ x W
        | .stuck => False) → tv K mg b m W ec σ H' Q := by
      intro ec h'
      refine ⟨f, Hs', en1, r', ?_⟩
      cases hb : ec en1 with
      | stuck => rw [hb] at h'; exact h'
      | exc x en' => rw [hb] at h'; exact ContX.back h' s'
      | ok d en2 => rw [hb] at h'; exact Cont.back h' s'
    cases k with
    | true => exact go ea h
    | false => exact go eb h
/-- as values -/
theorem tv_andV {ta tb : En → R Bool} {σ : L2.St} {H : Hp} {Q : VK} (h : tv K mg b m W (ofB (eAndB ta tb)) σ H Q) : tAndV (tv K mg b m W (ofB ta)) (tv K mg b m W (ofB tb)) σ H Q := by
  obtain ⟨f, Hs, en, rl, h⟩ := h
  unfold ofB eAndB at h
  refine ⟨f, Hs, en, rl, ?_⟩
  unfold ofB
  cases ha : ta en with
  | stuck => rw [ha] at h; exact h
  | exc x en' => rw [ha] at h; exact h
  | ok k en1 =>
    rw [ha] at h
    intro v H' Hs' r' s' p'
    refine ⟨k, p'.bl_inv, ?_⟩
    cases k with
    | false => exact h (.bl false) H' Hs' r' s' (.bl false)
    | true =>
      refine ⟨f, Hs', en1, r', ?_⟩
      have h' : match (tb en1).bind fun k en1 => R.ok (PyData.bool k) en1 with
        | .ok d en' => Cont K mg b m f Hs en' σ d Q
        | .exc x en' => ContX K mg b m f Hs en' σ x W
        | .stuck => False := h
      dsimp only
      cases hb : tb en1 with
      | stuck => rw [hb] at h'; exact h'
      | exc x en' => rw [hb] at h'; exact ContX.back h' s'
      | ok k en2 => rw [hb] at h'; exact Cont.back h' s'
theorem tv_orV {ta tb : En → R Bool} {σ : L2.St} {H : Hp} {Q : VK} (h : tv K mg b m W (ofB (eOrB ta tb)) σ H Q) : tOrV (tv K mg b m W (ofB ta)) (tv K mg b m W (ofB tb)) σ H Q := by
  obtain ⟨f, Hs, en, rl, h⟩ := h
  unfold ofB eOrB at h
  refine ⟨f, Hs, en, rl, ?_⟩
  unfold ofB
  cases ha : ta en with
  | stuck => rw [ha] at h; exact h
  | exc x en' => rw [ha] at h; exact h
  | ok k en1 =>
    rw [ha] at h
    intro v H' Hs' r' s' p'
    refine ⟨k, p'.bl_inv, ?_⟩
    cases k with
    | true => exact h (.bl true) H' Hs' r' s' (.bl true)
    | false =>
      refine ⟨f, Hs', en1, r', ?_⟩
      have h' : match (tb en1).bind fun k en1 => R.ok (PyData.bool k) en1 with
        | .ok d en' => Cont K mg b m f Hs en' σ d Q
        | .exc x en' => ContX K mg b m f Hs en' σ x W
        | .stuck => False := h
      dsimp only
      cases hb : tb en1 with
      | stuck => rw [hb] at h'; exact h'
      | exc x en' => rw [hb] at h'; exact ContX.back h' s'
      | ok k en2 => rw [hb] at h'; exact Cont.back h' s'
/-- a bool's expression, as its truth and back -/
theorem tv_ofB_asB {ea : En → R PyData} {σ : L2.St} {H : Hp} {Q : VK} (h : tv K mg b m W (ofB (asB ea)) σ H Q) : tv K mg b m W ea σ H Q := by
  obtain ⟨f, Hs, en, rl, h⟩ := h
  unfold ofB asB at h
  refine ⟨f, Hs, en, rl, ?_⟩
  cases ha : ea en with
  | stuck => rw [ha] at h; exact h
  | exc x en' => rw [ha] at h; exact h
  | ok d1 en1 =>
    rw [ha] at h
    cases d1 with
    | bool k => exact h
    | none => exact h.elim
    | int _ => exact h.elim
    | str _ => exact h.elim
    | list _ => exact h.elim
    | tuple _ => exact h.elim
    | dict _ => exact h.elim
end
section
variable {X : Cx} {b : Bool} {m : List Bool} {W : WX} {pos : Pos} {a c : Expr} {rest : List Expr} {ea eb : En → R PyData} {ta tb : En → R Bool}
abbrev CW (X : Cx) (b : Bool) (m : List Bool) (W : WX) (e : Expr) (ev : En → R Bool) : Prop := PW X e (ttv X.K X.mg b m W ev)
theorem cw_and1 (h : CT X b m W a ta) : CW X b m W (.BoolOp .And [a] pos) ta := pw_and1 h
theorem cw_or1 (h : CT X b m W a ta) : CW X b m W (.BoolOp .Or [a] pos) ta := pw_or1 h
theorem cw_and (h : CT X b m W a ta) (h2 : CW X b m W (.BoolOp .And (c :: rest) pos) tb) : CW X b m W (.BoolOp .And (a :: c :: rest) pos) (eAndB ta tb) := (pw_and h h2).imp fun _ _ _ => ttv_and
theorem cw_or (h : CT X b m W a ta) (h2 : CW X b m W (.BoolOp .Or (c :: rest) pos) tb) : CW X b m W (.BoolOp .Or (a :: c :: rest) pos) (eOrB ta tb) := (pw_or h h2).imp fun _ _ _ => ttv_or
theorem ct_w (h : CW X b m W a ta) : CT X b m W a ta := h.pt
theorem ct_not (h : CT X b m W a ta) : CT X b m W (.UnaryOp .Not a pos) (eNotB ta) := (pt_not h).imp fun _ _ _ => ttv_not
theorem ce_if {t : Expr} (h : CT X b m W t ta) (ha : CE X b m W a ea) (hb : CE X b m W c eb) : CE X b m W (.IfExp t a c pos) (eIf ta ea eb) := (pe_ifExp h ha hb).imp fun _ _ _ => tv_if
/-- bool values: every part a bool -/
theorem cb_of (h : CE X b m W a ea) : CE X b m W a (ofB (asB ea)) := h.imp fun _ _ _ => tv_ofB_asB
theorem cb_one {op} (h : CE X b m W a (ofB ta)) : CE X b m W (.BoolOp op [a] pos) (ofB ta) := pe_one h
theorem cb_and (h : CE X b m W a (ofB ta)) (h2 : CE X b m W (.BoolOp .And (c :: rest) pos) (ofB tb)) : CE X b m W (.BoolOp .And (a :: c :: rest) pos) (ofB (eAndB ta tb)) := (pe_and h h2).imp fun _ _ _ => tv_andV
theorem cb_or (h : CE X b m W a (ofB ta)) (h2 : CE X b m W (.BoolOp .Or (c :: rest) pos) (ofB tb)) : CE X b m W (.BoolOp .Or (a :: c :: rest) pos) (ofB (eOrB ta tb)) := (pe_or h h2).imp fun _ _ _ => tv_orV
theorem cb_not (h : CE X b m W a (ofB ta)) : CE X b m W (.UnaryOp .Not a pos) (ofB (eNotB ta)) := (pe_not h).imp fun σ H Q h => by
  obtain ⟨f, Hs, en, rl, h⟩ := h
  unfold ofB eNotB at h
  refine ⟨f, Hs, en, rl, ?_⟩
  unfold ofB
  cases ha : ta en with
  | stuck => rw [ha] at h; exact h
  | exc x en' => rw [ha] at h; exact h
  | ok k en1 =>
    rw [ha] at h
    intro v H' Hs' r' s' p'
    exact ⟨k, p'.bl_inv, h (.bl (!k)) H' Hs' r' s' (.bl _)⟩
end
/-! ### chains: a < b < c -/
def eChain (g g' : PyData → PyData → Option PyData) (ea eb ec : En → R PyData) : En → R PyData := fun en => (ea en).bind fun d1 en1 => (eb en1).bind fun d2 en2 => match g d1 d2 with
  | some (.bool true) => (ec en2).bind fun d3 en3 => R.ofO (g' d2 d3) en3
  | some (.bool false) => .ok (.bool false) en2
  | _ => .stuck
theorem tv_chain {K : PySem.W.Frag} {mg : Str → Option Value} {b : Bool} {m : List Bool} {W : WX} {r r' : R2} {g g' : PyData → PyData → Option PyData} {ea eb ec : En → R PyData} (hg : Op2 K mg r g) (hg' : Op2 K mg r' g') {σ : L2.St} {H : Hp} {Q : VK}
    (h : tv K mg b m W (eChain g g' ea eb ec) σ H Q) : tChain r r' (tv K mg b m W ea) (tv K mg b m W eb) (tv K mg b m W ec) σ H Q := by
  obtain ⟨f, Hs, en, rl, h⟩ := h
  unfold eChain at h
  refine ⟨f, Hs, en, rl, ?_⟩
  cases ha : ea en with
  | stuck => rw [ha] at h; exact h
  | exc x en' => rw [ha] at h; exact h
  | ok d1 en1 =>
    rw [ha] at h
    intro v1 H1 Hs1 r1 s1 p1
    refine ⟨f, Hs1, en1, r1, ?_⟩
    simp only [R.bind] at h
    cases hb : eb en1 with
    | stuck => rw [hb] at h; exact h
    | exc x en' => rw [hb] at h; exact ContX.back h s1
    | ok d2 en2 =>
      rw [hb] at h
      intro v2 H2 Hs2 r2 s2 p2
      simp only at h
      cases hd : g d1 d2 with
      | none => rw [hd] at h; exact h.elim
      | some d =>
        rw [hd] at h
        refine hg b m f Hs2 en2 σ H2 v1 v2 d1 d2 d _ r2 (p1.mono s2) p2 hd fun v3 H3 Hs3 r3 s3 p3 => ?_
        cases d with
        | bool k =>
          refine ⟨k, p3.bl_inv, ?_⟩
          have s13 := (s1.trans s2).trans s3
          cases k with
          | false => exact h (.bl false) H3 Hs3 r3 s13 (.bl false)
          | true =>
            refine ⟨f, Hs3, en2, r3, ?_⟩
            simp only at h
            cases hc : ec en2 with
            | stuck => rw [hc] at h; exact h
            | exc x en' => rw [hc] at h; exact ContX.back h s13
            | ok d3 en3 =>
              rw [hc] at h
              intro v4 H4 Hs4 r4 s4 p4
              cases he : g' d2 d3 with
              | none => simp only [he, R.ofO] at h
              | some d' =>
                simp only [he, R.ofO] at h
                exact hg' b m f Hs4 en3 σ H4 v2 v4 d2 d3 d' Q r4 ((p2.mono s3).mono s4) p4 he (Cont.back h (s13.trans s4))
        | none => exact h.elim
        | int _ => exact h.elim
        | str _ => exact h.elim
        | list _ => exact h.elim
        | tuple _ => exact h.elim
        | dict _ => exact h.elim
section
variable {X : Cx} {b : Bool} {m : List Bool} {W : WX} {pos : Pos} {a c d : Expr} {ea eb ec : En → R PyData} {op op' : CmpOp} {r r' : R2} {g g' : PyData → PyData → Option PyData}
theorem ce_chain (ho : OpR X (compareOp op) r) (hg : Op2 X.K X.mg r g) (ho' : OpR X (compareOp op') r') (hg' : Op2 X.K X.mg r' g') (ha : CE X b m W a ea) (hb : CE X b m W c eb) (hc : CE X b m W d ec) (hm : lastMarks [op, op'] [c, d] = false := by rfl) :
    CE X b m W (.Compare a [op, op'] [c, d] pos) (eChain g g' ea eb ec) := (pe_chain ho ho' ha hb hc hm).imp fun _ _ _ => tv_chain hg hg'
theorem ct_chain (ho : OpR X (compareOp op) r) (hg : Op2 X.K X.mg r g) (ho' : OpR X (compareOp op') r') (hg' : Op2 X.K X.mg r' g') (ha : CE X b m W a ea) (hb : CE X b m W c eb) (hc : CE X b m W d ec) (hm : lastMarks [op, op'] [c, d] = false := by rfl) :
    CT X b m W (.Compare a [op, op'] [c, d] pos) (asB (eChain g g' ea eb ec)) := (pt_chain ho ho' ha hb hc hm).imp fun σ H Q h => tv_chain hg hg' (tv_asB h)
end
end VS

/-! VS3 -/
namespace VS
open PySem L2

theorem cap_line {n : Nat} (h : n ≤ 1000000) : n ≤ sizeLine := Nat.le_trans h (by decide)
theorem cap_lt {n : Nat} (h : n < 1000000) : n < sizeLine := Nat.lt_of_lt_of_le h (by decide)
section
variable {K : PySem.W.Frag} {mg : Str → Option Value} {H : Hp}
theorem Rp.scr_inv {v : V} {ds : List PyData} (h : Rp K mg H v (scrD ds)) : ∃ p us, v = .ref p ∧ SqL K H p us ∧ RpAll K mg H us ds := by
  generalize hd : scrD ds = d at h
  cases h with
  | scr a c =>
    unfold scrD at hd
    injection hd with hd
    injection hd with h1 h2
    injection h1 with h3 h4
    injection h4 with h5
    subst h5
    exact ⟨_, _, rfl, a, c⟩
  | dK a l c =>
    rename_i p ks us ds'
    unfold scrD at hd
    injection hd with hd
    cases ks with
    | nil => simp at hd
    | cons k ks =>
      cases ds' with
      | nil => simp at hd
      | cons d ds' =>
        simp only [List.map_cons, List.zip_cons_cons, List.cons.injEq, Prod.mk.injEq] at hd
        cases k with
        | inl i => exact nomatch hd.1.1
        | inr i => exact nomatch hd.1.1
  | dT a l c =>
    rename_i p ks us ds'
    unfold scrD at hd
    injection hd with hd
    cases ks with
    | nil => simp at hd
    | cons k ks =>
      cases ds' with
      | nil => simp at hd
      | cons d ds' =>
        simp only [List.map_cons, List.zip_cons_cons, List.cons.injEq, Prod.mk.injEq] at hd
        exact nomatch hd.1.1
  | fn a =>
    unfold scrD fnD at hd
    injection hd with hd
    injection hd with h1 h2
    injection h1 with h3 h4
    injection h3 with h5
    cases h5
  | non => exact nomatch hd
  | bl _ => exact nomatch hd
  | int _ => exact nomatch hd
  | str _ => exact nomatch hd
  | lst _ _ => exact nomatch hd
  | tup _ _ => exact nomatch hd
mutual
theorem Rp.dp : ∀ {v : V} {d : PyData}, Rp K mg H v d → d.canLay0 = true → Dp K H v d
  | _, _, .non, _ => .non
  | _, _, .bl k, _ => .bl k
  | _, _, .int i, _ => .int i
  | _, _, .str x, _ => .str x
  | _, _, .lst h a, c => .lst (.of h) (RpAll.dp a (by simpa [PyData.canLay0] using c))
  | _, _, .tup h a, c => .tup h (RpAll.dp a (by simpa [PyData.canLay0] using c))
  | _, _, .scr _ _, c => absurd c (by simp [scrD, PyData.canLay0])
  | _, _, .dK _ _ _, c => absurd c (by simp [PyData.canLay0])
  | _, _, .dT _ _ _, c => absurd c (by simp [PyData.canLay0])
  | _, _, .fn _, c => absurd c (by simp [fnD, PyData.canLay0])
theorem RpAll.dp : ∀ {us : List V} {ds : List PyData}, RpAll K mg H us ds → PyData.canLayAll0 ds = true → DpAll K H us ds
  | _, _, .nil, _ => .nil
  | _, _, .cons (d := d) (ds := ds) h t, c => by
    have c' : d.canLay0 = true ∧ PyData.canLayAll0 ds = true := by simpa [PyData.canLayAll0] using c
    exact .cons (Rp.dp h c'.1) (RpAll.dp t c'.2)
end
theorem Rp.dps {v : V} {d : PyData} (h : Rp K mg H v d) (c : SeqAt.shaped d = true) : Dp K H v d := h.dp (SeqAt.canLay_of_shaped c)
end

/-! ### arithmetic -/
def dAdd : PyData → PyData → Option PyData
  | .int i, .int j => some (.int (i + j))
  | .str x, .str y => if x.length + y.length ≤ 1000000 then some (.str (x ++ y)) else none
  | .tuple xs, .tuple ys => if xs.length + ys.length ≤ 1000000 then some (.tuple (xs ++ ys)) else none
  | .list xs, .list ys => if xs.length + ys.length ≤ 1000000 then some (.list (xs ++ ys)) else none
  | _, _ => none
def dSub : PyData → PyData → Option PyData
  | .int i, .int j => some (.int (i - j))
  | _, _ => none
def dMul : PyData → PyData → Option PyData
  | .int i, .int j => if (-(2 ^ 64) < i ∧ i < 2 ^ 64) ∨ (-(2 ^ 64) < j ∧ j < 2 ^ 64) then some (.int (i * j)) else none
  | .list xs, .int k => if -1000000 ≤ k ∧ k ≤ 1000000 ∧ xs.length * k.toNat ≤ 1000000 then some (.list (List.replicate k.toNat xs).flatten) else none
  | _, _ => none
def dDiv : PyData → PyData → Option PyData
  | .int i, .int j => if 0 < j ∧ j < 2 ^ 200 then some (.int (i / j)) else none
  | _, _ => none
def dMod : PyData → PyData → Option PyData
  | .int i, .int j => if 0 < j then some (.int (i % j)) else none
  | _, _ => none
def dPow : PyData → PyData → Option PyData
  | .int i, .int j => if 0 ≤ j ∧ j ≤ 100 ∧ i.natAbs < 2 ^ 1000 then some (.int (i ^ j.toNat)) else none
  | _, _ => none
def dNeg : PyData → Option PyData
  | .int i => some (.int (-i))
  | _ => none
section
variable {K : PySem.W.Frag} {mg : Str → Option Value} {X : Cx}
def rAdd4 (K : PySem.W.Frag) : R2 := fun x y H Q => rI0 (fun i j => .int (i + j)) x y H Q ∨ (∃ i j, x = .str i ∧ y = .str j ∧ i.length + j.length ≤ sizeLine ∧ Q (.str (i ++ j)) H) ∨ rCatA K x y H Q ∨ rCat x y H Q
theorem op_add4 : OpR X (binaryOp .Add) (rAdd4 X.K) := OpR.or op_add (OpR.or op_add_str (OpR.or op_catA op_cat))
theorem s_add : Op2 K mg (rAdd4 K) dAdd := by
  intro b m f Hs en σ H x y d1 d2 d Q r p1 p2 hg h
  unfold dAdd at hg
  split at hg
  · injection hg with hg
    subst hg
    exact .inl ⟨_, _, p1.int_inv, p2.int_inv, h _ H Hs r (Same.refl _) (.int _)⟩
  · split at hg
    · rename_i c
      injection hg with hg
      subst hg
      exact .inr (.inl ⟨_, _, p1.str_inv, p2.str_inv, cap_line c, h _ H Hs r (Same.refl _) (.str _)⟩)
    · cases hg
  · split at hg
    · rename_i xs ys c
      injection hg with hg
      subst hg
      obtain ⟨a, us, rfl, h1, l1⟩ := p1.tup_inv
      obtain ⟨a', ws, rfl, h2, l2⟩ := p2.tup_inv
      have e1 := l1.length
      have e2 := l2.length
      refine .inr (.inr (.inl ⟨a, a', us, ws, rfl, rfl, seqT_mono r.sub h1, seqT_mono r.sub h2, cap_line (by omega), fun z => ?_, fun _ z => ?_, fun _ _ p hp => ?_⟩))
      · subst z
        cases xs with
        | nil => exact h _ H Hs r (Same.refl _) (.tup h2 l2)
        | cons _ _ => simp at e1
      · subst z
        cases ys with
        | nil => exact h _ H Hs r (Same.refl _) (.tup h1 (by rw [List.append_nil]; exact l1))
        | cons _ _ => simp at e2
      · obtain ⟨r', s'⟩ := r.alloc (o := .tup (us ++ ws)) hp
        exact h _ _ _ r' s' (.tup (.of upd_same) ((l1.append l2).mono s'))
    · cases hg
  · split at hg
    · rename_i xs ys c
      injection hg with hg
      subst hg
      obtain ⟨a, us, rfl, h1, l1⟩ := p1.lst_inv
      obtain ⟨a', ws, rfl, h2, l2⟩ := p2.lst_inv
      have e1 := l1.length
      have e2 := l2.length
      refine .inr (.inr (.inr ⟨a, a', us, ws, rfl, rfl, r.sub _ _ h1, r.sub _ _ h2, cap_line (by omega), fun p hp => ?_⟩))
      obtain ⟨r', s'⟩ := r.alloc (o := .lst (us ++ ws)) hp
      exact h _ _ _ r' s' (.lst upd_same ((l1.append l2).mono s'))
    · cases hg
  · cases hg
theorem s_int2 {C : Int → Int → Prop} {g : Int → Int → Int} {G : PyData → PyData → Option PyData} (hG : ∀ d1 d2 d, G d1 d2 = some d → ∃ i j, d1 = .int i ∧ d2 = .int j ∧ C i j ∧ d = .int (g i j)) : Op2 K mg (rI C fun i j => .int (g i j)) G := by
  intro b m f Hs en σ H x y d1 d2 d Q r p1 p2 hg h
  obtain ⟨i, j, rfl, rfl, c, rfl⟩ := hG _ _ _ hg
  exact ⟨i, j, p1.int_inv, p2.int_inv, c, h _ H Hs r (Same.refl _) (.int _)⟩
theorem s_sub : Op2 K mg (rI0 fun i j => .int (i - j)) dSub := by
  intro b m f Hs en σ H x y d1 d2 d Q r p1 p2 hg h
  unfold dSub at hg
  split at hg
  · injection hg with hg
    subst hg
    exact ⟨_, _, p1.int_inv, p2.int_inv, h _ H Hs r (Same.refl _) (.int _)⟩
  · cases hg
def rMul2 : R2 := fun x y H Q => rI CMul (fun i j => .int (i * j)) x y H Q ∨ rRep x y H Q
theorem op_mul2 : OpR X (binaryOp .Mult) rMul2 := OpR.or op_mul op_rep
theorem s_mul : Op2 K mg rMul2 dMul := by
  intro b m f Hs en σ H x y d1 d2 d Q r p1 p2 hg h
  unfold dMul at hg
  split at hg
  · split at hg
    · rename_i c
      injection hg with hg
      subst hg
      exact .inl ⟨_, _, p1.int_inv, p2.int_inv, c, h _ H Hs r (Same.refl _) (.int _)⟩
    · cases hg
  · split at hg
    · rename_i xs k c
      injection hg with hg
      subst hg
      obtain ⟨a, us, rfl, h1, l1⟩ := p1.lst_inv
      have e1 := l1.length
      refine .inr ⟨a, k, us, rfl, p2.int_inv, r.sub _ _ h1, by omega, by omega, cap_line (by rw [e1]; exact c.2.2), fun p hp => ?_⟩
      obtain ⟨r', s'⟩ := r.alloc (o := .lst (List.replicate k.toNat us).flatten) hp
      have rep : ∀ n : Nat, RpAll K mg Hs (List.replicate n us).flatten (List.replicate n xs).flatten := fun n => by
        induction n with
        | zero => exact .nil
        | succ n ih =>
          rw [List.replicate_succ, List.replicate_succ, List.flatten_cons, List.flatten_cons]
          exact l1.append ih
      exact h _ _ _ r' s' (.lst upd_same ((rep _).mono s'))
    · cases hg
  · cases hg
theorem s_div : Op2 K mg (rI CDivW fun i j => .int (i / j)) dDiv := s_int2 fun d1 d2 d hg => by
  unfold dDiv at hg
  split at hg
  · split at hg
    · rename_i i j c
      injection hg with hg
      exact ⟨i, j, rfl, rfl, wide_div c.1 (b := 200) (by omega) (by decide) (by decide), hg.symm⟩
    · cases hg
  · cases hg
theorem s_mod : Op2 K mg (rI (fun _ j => 0 < j) fun i j => .int (i % j)) dMod := s_int2 fun d1 d2 d hg => by
  unfold dMod at hg
  split at hg
  · split at hg
    · rename_i i j c
      injection hg with hg
      exact ⟨i, j, rfl, rfl, c, hg.symm⟩
    · cases hg
  · cases hg
def CPowW (i j : Int) : Prop := 0 ≤ j ∧ (Builtin.Int.intBits i : Int) * j ≤ 2 ^ 27
theorem op_powW : OpR X (binaryOp .Pow) (rI CPowW fun i j => .int (i ^ j.toNat)) := opI fun _ _ _ _ _ _ _ hc q => PyProof.Rows.pow_int hc.1 hc.2 q
theorem s_pow : Op2 K mg (rI CPowW fun i j => .int (i ^ j.toNat)) dPow := s_int2 fun d1 d2 d hg => by
  unfold dPow at hg
  split at hg
  · split at hg
    · rename_i i j c
      injection hg with hg
      have hb := PyProof.Rows.intBits_le c.2.2
      refine ⟨i, j, rfl, rfl, ⟨c.1, ?_⟩, hg.symm⟩
      have h1 : (Builtin.Int.intBits i : Int) ≤ 1000 := by omega
      have h2 : (Builtin.Int.intBits i : Int) * j ≤ 1000 * 100 := Int.mul_le_mul h1 c.2.1 c.1 (by decide)
      omega
    · cases hg
  · cases hg
theorem s_neg : Op1 K mg (rU fun i => .int (-i)) dNeg := by
  intro b m f Hs en σ H x d1 d Q r p1 hg h
  unfold dNeg at hg
  split at hg
  · injection hg with hg
    subst hg
    exact ⟨_, p1.int_inv, h _ H Hs r (Same.refl _) (.int _)⟩
  · cases hg
end

/-! ### comparisons -/
def dCmp (p : Int → Int → Bool) : PyData → PyData → Option PyData
  | .int i, .int j => some (.bool (p i j))
  | _, _ => none
abbrev dLt := dCmp fun i j => decide (i < j)
abbrev dLe := dCmp fun i j => decide (i ≤ j)
abbrev dGt := dCmp fun i j => decide (j < i)
abbrev dGe := dCmp fun i j => decide (j ≤ i)
/-- what == tells, where it is served -/
def strPair : PyData → PyData → Bool
  | .str _, .str _ => true
  | .str _, .int _ => true
  | .str _, .none => true
  | .str _, .bool _ => true
  | .int _, .str _ => true
  | .none, .str _ => true
  | .bool _, .str _ => true
  | _, _ => false
def eqOk (d e : PyData) : Bool := strPair d e || (SeqAt.shaped d && SeqAt.shaped e)
def dEq (d e : PyData) : Option PyData := if eqOk d e = true then some (.bool (PyData.eqv d e)) else none
def dNe (d e : PyData) : Option PyData := if eqOk d e = true then some (.bool (!PyData.eqv d e)) else none
def isN : PyData → Bool
  | .none => true
  | _ => false
def dIs : PyData → PyData → Option PyData
  | d, .none => some (.bool (isN d))
  | .bool i, .bool j => some (.bool (i == j))
  | _, _ => none
def dIsNot : PyData → PyData → Option PyData
  | d, .none => some (.bool (!isN d))
  | .bool i, .bool j => some (.bool (!(i == j)))
  | _, _ => none
section
variable {K : PySem.W.Frag} {mg : Str → Option Value} {X : Cx}
theorem s_cmp {p : Int → Int → Bool} : Op2 K mg (rI0 fun i j => .bl (p i j)) (dCmp p) := by
  intro b m f Hs en σ H x y d1 d2 d Q r p1 p2 hg h
  unfold dCmp at hg
  split at hg
  · injection hg with hg
    subst hg
    exact ⟨_, _, p1.int_inv, p2.int_inv, h _ H Hs r (Same.refl _) (.bl _)⟩
  · cases hg
def rEq2 (K : PySem.W.Frag) : R2 := fun x y H Q => rEq x y H Q ∨ rEqD K x y H Q
def rNe2 (K : PySem.W.Frag) : R2 := fun x y H Q => rNe x y H Q ∨ rNeD K x y H Q
theorem op_eq2 (hu : X.A.units + 64 < cLine) : OpR X (compareOp .Eq) (rEq2 X.K) := OpR.or op_eq (op_eqD hu)
theorem op_ne2 (hu : X.A.units + 64 < cLine) : OpR X (compareOp .NotEq) (rNe2 X.K) := OpR.or op_ne (op_neD hu)
theorem str_pair {H : Hp} {x y : V} {d e : PyData} (c : strPair d e = true) (p1 : Rp K mg H x d) (p2 : Rp K mg H y e) : scal x y = true ∧ PyData.eqv d e = decide (x = y) := by
  unfold strPair at c
  split at c
  · rw [p1.str_inv, p2.str_inv]
    refine ⟨rfl, ?_⟩
    rw [dec_str]
    simp only [PyData.eqv]
  · rw [p1.str_inv, p2.int_inv]
    exact ⟨rfl, by simp only [PyData.eqv]; rfl⟩
  · rw [p1.str_inv, p2.non_inv]
    exact ⟨rfl, by simp only [PyData.eqv]; rfl⟩
  · rw [p1.str_inv, p2.bl_inv]
    exact ⟨rfl, by simp only [PyData.eqv]; rfl⟩
  · rw [p1.int_inv, p2.str_inv]
    exact ⟨rfl, by simp only [PyData.eqv]; rfl⟩
  · rw [p1.non_inv, p2.str_inv]
    exact ⟨rfl, by simp only [PyData.eqv]; rfl⟩
  · rw [p1.bl_inv, p2.str_inv]
    exact ⟨rfl, by simp only [PyData.eqv]; rfl⟩
  · cases c
theorem s_eq : Op2 K mg (rEq2 K) dEq := by
  intro b m f Hs en σ H x y d1 d2 d Q r p1 p2 hg h
  unfold dEq at hg
  split at hg
  · rename_i c
    injection hg with hg
    subst hg
    unfold eqOk at c
    rw [Bool.or_eq_true, Bool.and_eq_true] at c
    rcases c with c | ⟨c1, c2⟩
    · obtain ⟨s1, s2⟩ := str_pair c p1 p2
      exact .inl ⟨s1, by rw [← s2]; exact h _ H Hs r (Same.refl _) (.bl _)⟩
    · exact .inr ⟨d1, d2, (p1.mono r.sub).dps c1, (p2.mono r.sub).dps c2, c1, c2, h _ H Hs r (Same.refl _) (.bl _)⟩
  · cases hg
theorem s_ne : Op2 K mg (rNe2 K) dNe := by
  intro b m f Hs en σ H x y d1 d2 d Q r p1 p2 hg h
  unfold dNe at hg
  split at hg
  · rename_i c
    injection hg with hg
    subst hg
    unfold eqOk at c
    rw [Bool.or_eq_true, Bool.and_eq_true] at c
    rcases c with c | ⟨c1, c2⟩
    · obtain ⟨s1, s2⟩ := str_pair c p1 p2
      exact .inl ⟨s1, by rw [← s2]; exact h _ H Hs r (Same.refl _) (.bl _)⟩
    · exact .inr ⟨d1, d2, (p1.mono r.sub).dps c1, (p2.mono r.sub).dps c2, c1, c2, h _ H Hs r (Same.refl _) (.bl _)⟩
  · cases hg
theorem isN_iff {H : Hp} {x : V} {d : PyData} (p : Rp K mg H x d) : isN d = decide (x = .non) := by
  cases p <;> rfl
def rIs2 : R2 := fun x y H Q => (y = .non ∧ Q (.bl (decide (x = .non))) H) ∨ rIsB x y H Q
def rIsNot2 : R2 := fun x y H Q => (y = .non ∧ Q (.bl (!decide (x = .non))) H) ∨ rNotB x y H Q
theorem op_is2 : OpR X (compareOp .Is) rIs2 := OpR.or op_isN op_isBl
theorem op_isnot2 : OpR X (compareOp .IsNot) rIsNot2 := OpR.or op_notN op_notBl
theorem s_is : Op2 K mg rIs2 dIs := by
  intro b m f Hs en σ H x y d1 d2 d Q r p1 p2 hg h
  unfold dIs at hg
  split at hg
  · injection hg with hg
    subst hg
    exact .inl ⟨p2.non_inv, by rw [← isN_iff p1]; exact h _ H Hs r (Same.refl _) (.bl _)⟩
  · injection hg with hg
    subst hg
    refine .inr ⟨_, _, p1.bl_inv, p2.bl_inv, ?_⟩
    rw [← Bool.beq_eq_decide_eq]
    exact h _ H Hs r (Same.refl _) (.bl _)
  · cases hg
theorem s_isnot : Op2 K mg rIsNot2 dIsNot := by
  intro b m f Hs en σ H x y d1 d2 d Q r p1 p2 hg h
  unfold dIsNot at hg
  split at hg
  · injection hg with hg
    subst hg
    exact .inl ⟨p2.non_inv, by rw [← isN_iff p1]; exact h _ H Hs r (Same.refl _) (.bl _)⟩
  · injection hg with hg
    subst hg
    refine .inr ⟨_, _, p1.bl_inv, p2.bl_inv, ?_⟩
    rw [← Bool.beq_eq_decide_eq]
    exact h _ H Hs r (Same.refl _) (.bl _)
  · cases hg
end

/-! ### items -/
def dIx : PyData → PyData → Option PyData
  | .list xs, .int i => atI xs i
  | .tuple xs, .int i => atI xs i
  | .str z, .int i => if z.length ≤ 1000000 then (atI z.cps.toList i).map fun c => .str ⟨#[c]⟩ else none
  | .dict [(.bool false, .list xs)], .int i => atI xs i
  | _, _ => none
section
variable {K : PySem.W.Frag} {mg : Str → Option Value} {X : Cx} {b : Bool} {m : List Bool} {W : WX} {pos : Pos} {a c : Expr} {ea eb : En → R PyData}
theorem at_rp {H : Hp} {us : List V} {ds : List PyData} {i : Int} {d : PyData} (l : RpAll K mg H us ds) (e : atI ds i = some d) : ∃ v, atI us i = some v ∧ Rp K mg H v d := by
  unfold atI at e ⊢
  rw [l.length]
  cases h : ixN ds.length i with
  | none => rw [h] at e; cases e
  | some j =>
    rw [h] at e
    exact l.get e
theorem s_ix : Op2 K mg (rIx K) dIx := by
  intro b m f Hs en σ H x y d1 d2 d Q r p1 p2 hg h
  unfold dIx at hg
  split at hg
  · obtain ⟨p, us, rfl, h1, l1⟩ := p1.lst_inv
    obtain ⟨v, q1, q2⟩ := at_rp l1 hg
    exact .inl ⟨p, us, _, v, rfl, p2.int_inv, .of (r.sub _ _ h1), q1, h v H Hs r (Same.refl _) q2⟩
  · obtain ⟨p, us, rfl, h1, l1⟩ := p1.tup_inv
    obtain ⟨v, q1, q2⟩ := at_rp l1 hg
    exact .inr (.inl ⟨p, us, _, v, rfl, p2.int_inv, seqT_mono r.sub h1, q1, h v H Hs r (Same.refl _) q2⟩)
  · split at hg
    · rename_i z i hz
      cases e : atI z.cps.toList i with
      | none => rw [e] at hg; cases hg
      | some k =>
        rw [e] at hg
        injection hg with hg
        subst hg
        exact .inr (.inr ⟨z, i, k, p1.str_inv, p2.int_inv, cap_line hz, e, h _ H Hs r (Same.refl _) (.str _)⟩)
    · cases hg
  · obtain ⟨p, us, rfl, h1, l1⟩ := Rp.scr_inv p1
    obtain ⟨v, q1, q2⟩ := at_rp l1 hg
    exact .inl ⟨p, us, _, v, rfl, p2.int_inv, seqL_mono r.sub h1, q1, h v H Hs r (Same.refl _) q2⟩
  · cases hg
theorem ce_ix (ha : CE X b m W a ea) (hb : CE X b m W c eb) (hs : PlainIx c := by exact fun _ _ => rfl) : CE X b m W (.Subscript a c pos) (e2 dIx ea eb) := (pe_ix ix_seq ha hb hs).imp fun _ _ _ => tv_op2 s_ix
end

/-! ### in -/
def dIn : PyData → PyData → Option PyData
  | d, .list ds => if SeqAt.shaped d && SeqAt.shaped (.list ds) then some (.bool (ds.any fun z => PyData.eqv z d)) else none
  | _, _ => none
def dNotIn : PyData → PyData → Option PyData
  | d, .list ds => if SeqAt.shaped d && SeqAt.shaped (.list ds) then some (.bool (!ds.any fun z => PyData.eqv z d)) else none
  | _, _ => none
section
variable {K : PySem.W.Frag} {mg : Str → Option Value} {X : Cx}
theorem s_in : Op2 K mg (rInD K) dIn := by
  intro b m f Hs en σ H x y d1 d2 d Q r p1 p2 hg h
  unfold dIn at hg
  split at hg
  · split at hg
    · rename_i c
      injection hg with hg
      subst hg
      rw [Bool.and_eq_true] at c
      exact ⟨_, _, (p1.mono r.sub).dps c.1, (p2.mono r.sub).dps c.2, c.1, c.2, h _ H Hs r (Same.refl _) (.bl _)⟩
    · cases hg
  · cases hg
theorem s_notin : Op2 K mg (rNotInD K) dNotIn := by
  intro b m f Hs en σ H x y d1 d2 d Q r p1 p2 hg h
  unfold dNotIn at hg
  split at hg
  · split at hg
    · rename_i c
      injection hg with hg
      subst hg
      rw [Bool.and_eq_true] at c
      exact ⟨_, _, (p1.mono r.sub).dps c.1, (p2.mono r.sub).dps c.2, c.1, c.2, h _ H Hs r (Same.refl _) (.bl _)⟩
    · cases hg
  · cases hg
end
end VS

/-! VS4 -/
namespace VS
open PySem L2

/-! ### argument lists, displays -/
def eNil : En → R (List PyData) := fun en => .ok [] en
def eCons (ea : En → R PyData) (er : En → R (List PyData)) : En → R (List PyData) := fun en => (ea en).bind fun d en1 => (er en1).bind fun ds en2 => .ok (d :: ds) en2
def eTup (er : En → R (List PyData)) : En → R PyData := fun en => (er en).bind fun ds en1 => if ds.length ≤ 1000000 then .ok (.tuple ds) en1 else .stuck
def eLst (er : En → R (List PyData)) : En → R PyData := fun en => (er en).bind fun ds en1 => if ds.length ≤ 1000000 then .ok (.list ds) en1 else .stuck
section
variable {K : PySem.W.Frag} {mg : Str → Option Value} {b : Bool} {m : List Bool} {W : WX}
theorem tav_cons {ea : En → R PyData} {er : En → R (List PyData)} {σ : L2.St} {H : Hp} {Q : List V → Hp → Prop} (h : tav K mg b m W (eCons ea er) σ H Q) : tCons (tv K mg b m W ea) (tav K mg b m W er) σ H Q := by
  obtain ⟨f, Hs, en, rl, h⟩ := h
  unfold eCons at h
  refine ⟨f, Hs, en, rl, ?_⟩
  simp only [R.bind] at h
  cases ha : ea en with
  | stuck => rw [ha] at h; exact h
  | exc x en' => rw [ha] at h; exact h
  | ok d1 en1 =>
    rw [ha] at h
    intro v1 H1 Hs1 r1 s1 p1
    refine ⟨f, Hs1, en1, r1, ?_⟩
    simp only at h
    cases hb : er en1 with
    | stuck => rw [hb] at h; exact h
    | exc x en' => rw [hb] at h; exact ContX.back h s1
    | ok ds en2 =>
      rw [hb] at h
      intro vs H2 Hs2 r2 s2 p2
      exact h (v1 :: vs) H2 Hs2 r2 (s1.trans s2) (.cons (p1.mono s2) p2)
theorem tv_tup {er : En → R (List PyData)} {σ : L2.St} {H : Hp} {Q : VK} (h : tv K mg b m W (eTup er) σ H Q) : tTup (tav K mg b m W er) σ H Q := by
  obtain ⟨f, Hs, en, rl, h⟩ := h
  unfold eTup at h
  refine ⟨f, Hs, en, rl, ?_⟩
  simp only [R.bind] at h
  cases ha : er en with
  | stuck => rw [ha] at h; exact h
  | exc x en' => rw [ha] at h; exact h
  | ok ds en1 =>
    rw [ha] at h
    intro vs H1 Hs1 r1 s1 p1
    simp only at h
    have e := p1.length
    by_cases c : ds.length ≤ 1000000
    · rw [if_pos c] at h
      refine ⟨cap_line (by omega), fun p hp => ?_⟩
      obtain ⟨r2, s2⟩ := r1.alloc (o := .tup vs) hp
      exact h _ _ _ r2 (s1.trans s2) (.tup (.of upd_same) (p1.mono s2))
    · rw [if_neg c] at h
      exact h.elim
/-- what a new cell gives -/
theorem contF_new {f : Fr} {Hs H : Hp} {en : En} {σ : L2.St} {d : PyData} {Q : VK} {o : HO} (r : Rl K mg b m f Hs en σ H) (ob : Ob K mg Hs o d) (h : ContF K mg b m f Hs en σ d Q) : ∀ p, H p = none → Q (.ref p) (upd H p o) := fun p hp => by
  refine h p o _ Hs (r.fresh hp) (Same.refl _) upd_same (r.sub.free hp) (fun u e => ?_) (fun i e h1 h2 h3 => ?_) ob
  · obtain ⟨o', e'⟩ := r.there e
    rw [hp] at e'
    cases e'
  · obtain ⟨q, u, k1, k2, _⟩ := r.ow i e h1 h2
    rw [h3] at k1
    cases k1
    rw [hp] at k2
    cases k2
theorem tfv_lst {er : En → R (List PyData)} {σ : L2.St} {H : Hp} {Q : VK} (h : tfv K mg b m W (eLst er) σ H Q) : tLst (tav K mg b m W er) σ H Q := by
  obtain ⟨f, Hs, en, rl, h⟩ := h
  unfold eLst at h
  refine ⟨f, Hs, en, rl, ?_⟩
  simp only [R.bind] at h
  cases ha : er en with
  | stuck => rw [ha] at h; exact h
  | exc x en' => rw [ha] at h; exact h
  | ok ds en1 =>
    rw [ha] at h
    intro vs H1 Hs1 r1 s1 p1
    simp only at h
    have e := p1.length
    by_cases c : ds.length ≤ 1000000
    · rw [if_pos c] at h
      exact ⟨cap_line (by omega), contF_new r1 (.lst p1) fun p o H' Hs' r' s' => h p o H' Hs' r' (s1.trans s')⟩
    · rw [if_neg c] at h
      exact h.elim
end
section
variable {X : Cx} {b : Bool} {m : List Bool} {W : WX} {pos : Pos} {e : Expr} {es : List Expr} {ea : En → R PyData} {er : En → R (List PyData)}
theorem ca_nil : CA X b m W [] eNil := pa_nil.imp fun σ H Q h => by
  obtain ⟨f, Hs, en, rl, h⟩ := h
  exact h [] H Hs rl (Same.refl _) .nil
theorem ca_cons (ha : CE X b m W e ea) (hr : CA X b m W es er) (hs : starEach (e :: es) X.env = (false, eval e X.env) :: starEach es X.env := by rfl) : CA X b m W (e :: es) (eCons ea er) := (pa_cons ha hr hs).imp fun _ _ _ => tav_cons
theorem ce_tup {k} (h : CA X b m W es er) : CE X b m W (.Tuple es k pos) (eTup er) := (pe_tup h).imp fun _ _ _ => tv_tup
theorem cf_lst (h : CA X b m W es er) : CF X b m W (.List es pos) (eLst er) := (pe_lst h).imp fun _ _ _ => tfv_lst
end

/-! ### built-in functions by data -/
def eCb (g : List PyData → Option PyData) (er : En → R (List PyData)) : En → R PyData := fun en => (er en).bind fun ds en1 => R.ofO (g ds) en1
def CbS (K : PySem.W.Frag) (mg : Str → Option Value) (r : List V → Hp → VK → Prop) (g : List PyData → Option PyData) : Prop :=
  ∀ (b : Bool) (m : List Bool) (f : Fr) (Hs : Hp) (en : En) (σ : L2.St) (H : Hp) (vs : List V) (ds : List PyData) (d : PyData) (Q : VK), Rl K mg b m f Hs en σ H → RpAll K mg Hs vs ds → g ds = some d → Cont K mg b m f Hs en σ d Q → r vs H Q
def CbF (K : PySem.W.Frag) (mg : Str → Option Value) (r : List V → Hp → VK → Prop) (g : List PyData → Option PyData) : Prop :=
  ∀ (b : Bool) (m : List Bool) (f : Fr) (Hs : Hp) (en : En) (σ : L2.St) (H : Hp) (vs : List V) (ds : List PyData) (d : PyData) (Q : VK), Rl K mg b m f Hs en σ H → RpAll K mg Hs vs ds → g ds = some d → ContF K mg b m f Hs en σ d Q → r vs H Q
section
variable {K : PySem.W.Frag} {mg : Str → Option Value} {b : Bool} {m : List Bool} {W : WX}
theorem tv_cb {r : List V → Hp → VK → Prop} {g : List PyData → Option PyData} (hg : CbS K mg r g) {er : En → R (List PyData)} {σ : L2.St} {H : Hp} {Q : VK} (h : tv K mg b m W (eCb g er) σ H Q) : tCB r (tav K mg b m W er) σ H Q := by
  obtain ⟨f, Hs, en, rl, h⟩ := h
  unfold eCb at h
  refine ⟨f, Hs, en, rl, ?_⟩
  simp only [R.bind] at h
  cases ha : er en with
  | stuck => rw [ha] at h; exact h
  | exc x en' => rw [ha] at h; exact h
  | ok ds en1 =>
    rw [ha] at h
    intro vs H1 Hs1 r1 s1 p1
    simp only at h
    cases hd : g ds with
    | none => simp only [hd, R.ofO] at h
    | some d =>
      simp only [hd, R.ofO] at h
      exact hg b m f Hs1 en1 σ H1 vs ds d Q r1 p1 hd (Cont.back h s1)
theorem tfv_cb {r : List V → Hp → VK → Prop} {g : List PyData → Option PyData} (hg : CbF K mg r g) {er : En → R (List PyData)} {σ : L2.St} {H : Hp} {Q : VK} (h : tfv K mg b m W (eCb g er) σ H Q) : tCB r (tav K mg b m W er) σ H Q := by
  obtain ⟨f, Hs, en, rl, h⟩ := h
  unfold eCb at h
  refine ⟨f, Hs, en, rl, ?_⟩
  simp only [R.bind] at h
  cases ha : er en with
  | stuck => rw [ha] at h; exact h
  | exc x en' => rw [ha] at h; exact h
  | ok ds en1 =>
    rw [ha] at h
    intro vs H1 Hs1 r1 s1 p1
    simp only at h
    cases hd : g ds with
    | none => simp only [hd, R.ofO] at h
    | some d =>
      simp only [hd, R.ofO] at h
      exact hg b m f Hs1 en1 σ H1 vs ds d Q r1 p1 hd (fun p o H' Hs' r' s' => h p o H' Hs' r' (s1.trans s'))
end
section
variable {X : Cx} {b : Bool} {m : List Bool} {W : WX} {p pos : Pos} {x : Str} {id T : String} {e : Expr} {es : List Expr} {er : En → R (List PyData)} {r : List V → Hp → VK → Prop} {g : List PyData → Option PyData}
theorem ce_cb (hc : CallR X (.builtin id) r) (hg : CbS X.K X.mg r g) (hm : X.mg x = none) (hv : bootBuiltins x = some (.builtin id)) (ha : CA X b m W (e :: es) er) (gl : Gl X x := by rfl) (hn : x ≠ "__name__" := by decide) (hdb : (x == ("__debug__" : Str)) = false := by decide)
    (he : starEach (e :: es) X.env = (false, eval e X.env) :: starEach es X.env := by rfl) (hpl : (backTo pos (starEach es X.env)).any (·.1) = false := by rfl) : CE X b m W (.Call (.Name x p) (e :: es) [] pos) (eCb g er) :=
  (pe_callB hc gl hm hv ha hn hdb he hpl).imp fun _ _ _ => tv_cb hg
theorem cf_cb (hc : CallR X (.builtin id) r) (hg : CbF X.K X.mg r g) (hm : X.mg x = none) (hv : bootBuiltins x = some (.builtin id)) (ha : CA X b m W (e :: es) er) (gl : Gl X x := by rfl) (hn : x ≠ "__name__" := by decide) (hdb : (x == ("__debug__" : Str)) = false := by decide)
    (he : starEach (e :: es) X.env = (false, eval e X.env) :: starEach es X.env := by rfl) (hpl : (backTo pos (starEach es X.env)).any (·.1) = false := by rfl) : CF X b m W (.Call (.Name x p) (e :: es) [] pos) (eCb g er) :=
  (pe_callB hc gl hm hv ha hn hdb he hpl).imp fun _ _ _ => tfv_cb hg
theorem ce_ty (hc : CallR X (.type T) r) (hg : CbS X.K X.mg r g) (hm : X.mg x = none) (hv : bootBuiltins x = some (.type T)) (ha : CA X b m W (e :: es) er) (gl : Gl X x := by rfl) (hn : x ≠ "__name__" := by decide) (hdb : (x == ("__debug__" : Str)) = false := by decide)
    (he : starEach (e :: es) X.env = (false, eval e X.env) :: starEach es X.env := by rfl) (hpl : (backTo pos (starEach es X.env)).any (·.1) = false := by rfl) : CE X b m W (.Call (.Name x p) (e :: es) [] pos) (eCb g er) :=
  (pe_callTy hc gl hm hv ha hn hdb he hpl).imp fun _ _ _ => tv_cb hg
theorem cf_ty (hc : CallR X (.type T) r) (hg : CbF X.K X.mg r g) (hm : X.mg x = none) (hv : bootBuiltins x = some (.type T)) (ha : CA X b m W (e :: es) er) (gl : Gl X x := by rfl) (hn : x ≠ "__name__" := by decide) (hdb : (x == ("__debug__" : Str)) = false := by decide)
    (he : starEach (e :: es) X.env = (false, eval e X.env) :: starEach es X.env := by rfl) (hpl : (backTo pos (starEach es X.env)).any (·.1) = false := by rfl) : CF X b m W (.Call (.Name x p) (e :: es) [] pos) (eCb g er) :=
  (pe_callTy hc gl hm hv ha hn hdb he hpl).imp fun _ _ _ => tfv_cb hg
end
/-! the functions -/
def gLen : List PyData → Option PyData
  | [.list xs] => some (.int xs.length)
  | [.tuple xs] => some (.int xs.length)
  | [.str z] => if z.length ≤ 1000000 then some (.int z.length) else none
  | [.dict [(.bool false, .list xs)]] => some (.int xs.length)
  | _ => none
def gAbs : List PyData → Option PyData
  | [.int i] => some (.int (if i < 0 then -i else i))
  | _ => none
def gMax2 : List PyData → Option PyData
  | [.int i, .int j] => some (.int (if j > i then j else i))
  | _ => none
def gMin2 : List PyData → Option PyData
  | [.int i, .int j] => some (.int (if j < i then j else i))
  | _ => none
/-- the ints of a list, where there are no others -/
def ints? : List PyData → Option (List Int)
  | [] => some []
  | .int i :: r => (ints? r).map (i :: ·)
  | _ :: _ => none
theorem ints_eq : ∀ {ds : List PyData} {ns : List Int}, ints? ds = some ns → ds = ns.map PyData.int
  | [], ns, h => by
    unfold ints? at h
    cases h
    rfl
  | d :: r, ns, h => by
    cases d with
    | int i =>
      unfold ints? at h
      cases e : ints? r with
      | none => rw [e] at h; cases h
      | some l =>
        rw [e] at h
        injection h with h
        subst h
        rw [ints_eq e]
        rfl
    | none => cases h
    | bool _ => cases h
    | str _ => cases h
    | list _ => cases h
    | tuple _ => cases h
    | dict _ => cases h
theorem ints_map : ∀ ns : List Int, ints? (ns.map PyData.int) = some ns
  | [] => rfl
  | n :: ns => by
    rw [List.map_cons]
    unfold ints?
    rw [ints_map ns]
    rfl
def bools? : List PyData → Option (List Bool)
  | [] => some []
  | .bool i :: r => (bools? r).map (i :: ·)
  | _ :: _ => none
theorem bools_eq : ∀ {ds : List PyData} {ns : List Bool}, bools? ds = some ns → ds = ns.map PyData.bool
  | [], ns, h => by
    unfold bools? at h
    cases h
    rfl
  | d :: r, ns, h => by
    cases d with
    | bool i =>
      unfold bools? at h
      cases e : bools? r with
      | none => rw [e] at h; cases h
      | some l =>
        rw [e] at h
        injection h with h
        subst h
        rw [bools_eq e]
        rfl
    | none => cases h
    | int _ => cases h
    | str _ => cases h
    | list _ => cases h
    | tuple _ => cases h
    | dict _ => cases h
theorem bools_map : ∀ ns : List Bool, bools? (ns.map PyData.bool) = some ns
  | [] => rfl
  | n :: ns => by
    rw [List.map_cons]
    unfold bools?
    rw [bools_map ns]
    rfl
def gSumL : List PyData → Option PyData
  | [.list xs] => (ints? xs).map fun ns => .int ns.sum
  | _ => none
def gAll : List PyData → Option PyData
  | [.list xs] => (bools? xs).map fun bs => .bool (bs.all id)
  | _ => none
/-- the greatest -/
def maxOf : List Int → Int
  | [] => 0
  | [i] => i
  | i :: r => max i (maxOf r)
def minOf : List Int → Int
  | [] => 0
  | [i] => i
  | i :: r => min i (minOf r)
theorem maxOf_mem : ∀ {l : List Int}, l ≠ [] → maxOf l ∈ l
  | [], h => absurd rfl h
  | [i], _ => List.mem_cons_self
  | i :: j :: r, _ => by
    have ih := maxOf_mem (l := j :: r) (by simp)
    show max i (maxOf (j :: r)) ∈ _
    rcases Int.le_total i (maxOf (j :: r)) with h | h
    · rw [Int.max_eq_right h]
      exact List.mem_cons_of_mem _ ih
    · rw [Int.max_eq_left h]
      exact List.mem_cons_self
theorem le_maxOf : ∀ {l : List Int} {x : Int}, x ∈ l → x ≤ maxOf l
  | [], _, h => nomatch h
  | [i], x, h => by
    simp at h
    rw [h]
    exact Int.le_refl _
  | i :: j :: r, x, h => by
    show x ≤ max i (maxOf (j :: r))
    rcases List.mem_cons.mp h with e | h
    · rw [e]
      exact Int.le_max_left _ _
    · exact Int.le_trans (le_maxOf h) (Int.le_max_right _ _)
theorem minOf_mem : ∀ {l : List Int}, l ≠ [] → minOf l ∈ l
  | [], h => absurd rfl h
  | [i], _ => List.mem_cons_self
  | i :: j :: r, _ => by
    have ih := minOf_mem (l := j :: r) (by simp)
    show min i (minOf (j :: r)) ∈ _
    rcases Int.le_total i (minOf (j :: r)) with h | h
    · rw [Int.min_eq_left h]
      exact List.mem_cons_self
    · rw [Int.min_eq_right h]
      exact List.mem_cons_of_mem _ ih
theorem minOf_le : ∀ {l : List Int} {x : Int}, x ∈ l → minOf l ≤ x
  | [], _, h => nomatch h
  | [i], x, h => by
    simp at h
    rw [h]
    exact Int.le_refl _
  | i :: j :: r, x, h => by
    show min i (minOf (j :: r)) ≤ x
    rcases List.mem_cons.mp h with e | h
    · rw [e]
      exact Int.min_le_left _ _
    · exact Int.le_trans (Int.min_le_right _ _) (minOf_le h)
def gMaxL : List PyData → Option PyData
  | [.list xs] => (ints? xs).bind fun ns => if ns = [] then none else some (.int (maxOf ns))
  | _ => none
def gMinL : List PyData → Option PyData
  | [.list xs] => (ints? xs).bind fun ns => if ns = [] then none else some (.int (minOf ns))
  | _ => none
def gTuple : List PyData → Option PyData
  | [.list xs] => some (.tuple xs)
  | [.tuple xs] => some (.tuple xs)
  | _ => none
def gList : List PyData → Option PyData
  | [.list xs] => some (.list xs)
  | [.tuple xs] => some (.list xs)
  | _ => none
def gInt : List PyData → Option PyData
  | [.int i] => some (.int i)
  | [.bool k] => some (.int (if k then 1 else 0))
  | _ => none
/-- sorting ints -/
def insI (x : Int) : List Int → List Int
  | [] => [x]
  | y :: r => if x ≤ y then x :: y :: r else y :: insI x r
def sortI : List Int → List Int
  | [] => []
  | x :: r => insI x (sortI r)
theorem insI_perm (x : Int) : ∀ l : List Int, (insI x l).Perm (x :: l)
  | [] => List.Perm.refl _
  | y :: r => by
    unfold insI
    split
    · exact List.Perm.refl _
    · exact (List.Perm.cons y (insI_perm x r)).trans (List.Perm.swap x y r)
theorem sortI_perm : ∀ l : List Int, (sortI l).Perm l
  | [] => List.Perm.refl _
  | x :: r => (insI_perm x (sortI r)).trans (List.Perm.cons x (sortI_perm r))
theorem insI_sorted (x : Int) : ∀ l : List Int, l.Pairwise (· ≤ ·) → (insI x l).Pairwise (· ≤ ·)
  | [], _ => List.pairwise_singleton _ _
  | y :: r, h => by
    unfold insI
    have h' := List.pairwise_cons.mp h
    split
    · rename_i c
      refine List.pairwise_cons.mpr ⟨fun z hz => ?_, h⟩
      rcases List.mem_cons.mp hz with e | hz
      · rw [e]
        exact c
      · exact Int.le_trans c (h'.1 z hz)
    · rename_i c
      refine List.pairwise_cons.mpr ⟨fun z hz => ?_, insI_sorted x r h'.2⟩
      rcases List.mem_cons.mp ((insI_perm x r).mem_iff.mp hz) with e | hz
      · rw [e]
        omega
      · exact h'.1 z hz
theorem sortI_sorted : ∀ l : List Int, (sortI l).Pairwise (· ≤ ·)
  | [] => List.Pairwise.nil
  | x :: r => insI_sorted x _ (sortI_sorted r)
theorem sorted_one : ∀ {l k : List Int}, l.Perm k → l.Pairwise (· ≤ ·) → k.Pairwise (· ≤ ·) → l = k := by
  intro l k p h1 h2
  exact List.Perm.eq_of_pairwise (fun a c _ _ x y => Int.le_antisymm x y) h1 h2 p
def gSortedI : List PyData → Option PyData
  | [.list xs] => (ints? xs).bind fun ns => if ns.length < 64 then some (.list ((sortI ns).map PyData.int)) else none
  | _ => none
section
variable {K : PySem.W.Frag} {mg : Str → Option Value} {X : Cx}
theorem rpAll_1 {H : Hp} {vs : List V} {d : PyData} (h : RpAll K mg H vs [d]) : ∃ v, vs = [v] ∧ Rp K mg H v d := by
  cases h with
  | cons a c =>
    cases c
    exact ⟨_, rfl, a⟩
theorem rpAll_2 {H : Hp} {vs : List V} {d e : PyData} (h : RpAll K mg H vs [d, e]) : ∃ v u, vs = [v, u] ∧ Rp K mg H v d ∧ Rp K mg H u e := by
  cases h with
  | cons a c =>
    obtain ⟨u, rfl, q⟩ := rpAll_1 c
    exact ⟨_, _, rfl, a, q⟩
theorem s_len : CbS K mg (fun xs H Q => ∃ x n, xs = [x] ∧ LenV K x H n ∧ Q (.int n) H) gLen := by
  intro b m f Hs en σ H vs ds d Q r p hg h
  unfold gLen at hg
  split at hg
  · obtain ⟨v, rfl, q⟩ := rpAll_1 p
    injection hg with hg
    subst hg
    obtain ⟨a, us, rfl, h1, l1⟩ := q.lst_inv
    exact ⟨_, _, rfl, .inl ⟨us, .of (r.sub _ _ h1), l1.length.symm⟩, h _ H Hs r (Same.refl _) (.int _)⟩
  · obtain ⟨v, rfl, q⟩ := rpAll_1 p
    injection hg with hg
    subst hg
    obtain ⟨a, us, rfl, h1, l1⟩ := q.tup_inv
    exact ⟨_, _, rfl, .inr ⟨us, seqT_mono r.sub h1, l1.length.symm⟩, h _ H Hs r (Same.refl _) (.int _)⟩
  · split at hg
    · rename_i c
      obtain ⟨v, rfl, q⟩ := rpAll_1 p
      injection hg with hg
      subst hg
      rw [q.str_inv]
      exact ⟨_, _, rfl, ⟨cap_line c, rfl⟩, h _ H Hs r (Same.refl _) (.int _)⟩
    · cases hg
  · obtain ⟨v, rfl, q⟩ := rpAll_1 p
    injection hg with hg
    subst hg
    obtain ⟨a, us, rfl, h1, l1⟩ := Rp.scr_inv q
    exact ⟨_, _, rfl, .inl ⟨us, seqL_mono r.sub h1, l1.length.symm⟩, h _ H Hs r (Same.refl _) (.int _)⟩
  · cases hg
theorem s_abs : CbS K mg (fun xs H Q => ∃ i, xs = [.int i] ∧ Q (.int (if i < 0 then -i else i)) H) gAbs := by
  intro b m f Hs en σ H vs ds d Q r p hg h
  unfold gAbs at hg
  split at hg
  · obtain ⟨v, rfl, q⟩ := rpAll_1 p
    injection hg with hg
    subst hg
    exact ⟨_, by rw [q.int_inv], h _ H Hs r (Same.refl _) (.int _)⟩
  · cases hg
theorem s_max2 : CbS K mg (fun xs H Q => ∃ i j, xs = [.int i, .int j] ∧ Q (.int (if j > i then j else i)) H) gMax2 := by
  intro b m f Hs en σ H vs ds d Q r p hg h
  unfold gMax2 at hg
  split at hg
  · obtain ⟨v, u, rfl, q, q'⟩ := rpAll_2 p
    injection hg with hg
    subst hg
    exact ⟨_, _, by rw [q.int_inv, q'.int_inv], h _ H Hs r (Same.refl _) (.int _)⟩
  · cases hg
theorem s_min2 : CbS K mg (fun xs H Q => ∃ i j, xs = [.int i, .int j] ∧ Q (.int (if j < i then j else i)) H) gMin2 := by
  intro b m f Hs en σ H vs ds d Q r p hg h
  unfold gMin2 at hg
  split at hg
  · obtain ⟨v, u, rfl, q, q'⟩ := rpAll_2 p
    injection hg with hg
    subst hg
    exact ⟨_, _, by rw [q.int_inv, q'.int_inv], h _ H Hs r (Same.refl _) (.int _)⟩
  · cases hg
theorem s_sumL : CbS K mg (rSum K) gSumL := by
  intro b m f Hs en σ H vs ds d Q r p hg h
  unfold gSumL at hg
  split at hg
  · obtain ⟨v, rfl, q⟩ := rpAll_1 p
    rename_i xs
    cases e : ints? xs with
    | none => rw [e] at hg; cases hg
    | some ns =>
      rw [e] at hg
      injection hg with hg
      subst hg
      obtain ⟨a, us, rfl, h1, l1⟩ := q.lst_inv
      rw [ints_eq e] at l1
      have e2 := rpAll_ints l1
      subst e2
      exact ⟨a, ns, rfl, .of (r.sub _ _ h1), h _ H Hs r (Same.refl _) (.int _)⟩
  · cases hg
theorem s_all : CbS K mg (rAll K) gAll := by
  intro b m f Hs en σ H vs ds d Q r p hg h
  unfold gAll at hg
  split at hg
  · obtain ⟨v, rfl, q⟩ := rpAll_1 p
    rename_i xs
    cases e : bools? xs with
    | none => rw [e] at hg; cases hg
    | some ns =>
      rw [e] at hg
      injection hg with hg
      subst hg
      obtain ⟨a, us, rfl, h1, l1⟩ := q.lst_inv
      rw [bools_eq e] at l1
      have e2 := rpAll_bools l1
      subst e2
      exact ⟨a, ns, rfl, .of (r.sub _ _ h1), h _ H Hs r (Same.refl _) (.bl _)⟩
  · cases hg
theorem s_maxL : CbS K mg (rMax K) gMaxL := by
  intro b m f Hs en σ H vs ds d Q r p hg h
  unfold gMaxL at hg
  split at hg
  · obtain ⟨v, rfl, q⟩ := rpAll_1 p
    rename_i xs
    cases e : ints? xs with
    | none => rw [e] at hg; cases hg
    | some ns =>
      rw [e] at hg
      simp only [Option.bind_some] at hg
      split at hg
      · cases hg
      · rename_i c
        injection hg with hg
        subst hg
        obtain ⟨a, us, rfl, h1, l1⟩ := q.lst_inv
        rw [ints_eq e] at l1
        have e2 := rpAll_ints l1
        subst e2
        refine ⟨a, ns, rfl, .of (r.sub _ _ h1), List.length_pos_iff.mpr c, fun M hM hle => ?_⟩
        have eM : M = maxOf ns := Int.le_antisymm (le_maxOf hM) (hle _ (maxOf_mem c))
        rw [eM]
        exact h _ H Hs r (Same.refl _) (.int _)
  · cases hg
theorem s_minL : CbS K mg (rMin K) gMinL := by
  intro b m f Hs en σ H vs ds d Q r p hg h
  unfold gMinL at hg
  split at hg
  · obtain ⟨v, rfl, q⟩ := rpAll_1 p
    rename_i xs
    cases e : ints? xs with
    | none => rw [e] at hg; cases hg
    | some ns =>
      rw [e] at hg
      simp only [Option.bind_some] at hg
      split at hg
      · cases hg
      · rename_i c
        injection hg with hg
        subst hg
        obtain ⟨a, us, rfl, h1, l1⟩ := q.lst_inv
        rw [ints_eq e] at l1
        have e2 := rpAll_ints l1
        subst e2
        refine ⟨a, ns, rfl, .of (r.sub _ _ h1), List.length_pos_iff.mpr c, fun M hM hle => ?_⟩
        have eM : M = minOf ns := Int.le_antisymm (hle _ (minOf_mem c)) (minOf_le hM)
        rw [eM]
        exact h _ H Hs r (Same.refl _) (.int _)
  · cases hg
theorem s_tuple : CbS K mg (fun xs H Q => ∃ p ys, xs = [.ref p] ∧ ((SqL K H p ys ∧ ∀ l, H l = none → Q (.ref l) (upd H l (.tup ys))) ∨ (SqT K H p ys ∧ Q (.ref p) H))) gTuple := by
  intro b m f Hs en σ H vs ds d Q r p hg h
  unfold gTuple at hg
  split at hg
  · obtain ⟨v, rfl, q⟩ := rpAll_1 p
    injection hg with hg
    subst hg
    obtain ⟨a, us, rfl, h1, l1⟩ := q.lst_inv
    refine ⟨a, us, rfl, .inl ⟨.of (r.sub _ _ h1), fun l hl => ?_⟩⟩
    obtain ⟨r2, s2⟩ := r.alloc (o := .tup us) hl
    exact h _ _ _ r2 s2 (.tup (.of upd_same) (l1.mono s2))
  · obtain ⟨v, rfl, q⟩ := rpAll_1 p
    injection hg with hg
    subst hg
    obtain ⟨a, us, rfl, h1, l1⟩ := q.tup_inv
    exact ⟨a, us, rfl, .inr ⟨seqT_mono r.sub h1, h _ H Hs r (Same.refl _) (.tup h1 l1)⟩⟩
  · cases hg
theorem s_list : CbF K mg (fun xs H Q => ∃ p ys, xs = [.ref p] ∧ (SqL K H p ys ∨ SqT K H p ys) ∧ ∀ l, H l = none → Q (.ref l) (upd H l (.lst ys))) gList := by
  intro b m f Hs en σ H vs ds d Q r p hg h
  unfold gList at hg
  split at hg
  · obtain ⟨v, rfl, q⟩ := rpAll_1 p
    injection hg with hg
    subst hg
    obtain ⟨a, us, rfl, h1, l1⟩ := q.lst_inv
    exact ⟨a, us, rfl, .inl (.of (r.sub _ _ h1)), contF_new r (.lst l1) h⟩
  · obtain ⟨v, rfl, q⟩ := rpAll_1 p
    injection hg with hg
    subst hg
    obtain ⟨a, us, rfl, h1, l1⟩ := q.tup_inv
    exact ⟨a, us, rfl, .inr (seqT_mono r.sub h1), contF_new r (.lst l1) h⟩
  · cases hg
theorem s_int : CbS K mg (fun xs H Q => (∃ i, xs = [.int i] ∧ Q (.int i) H) ∨ ∃ k, xs = [.bl k] ∧ Q (.int (if k then 1 else 0)) H) gInt := by
  intro b m f Hs en σ H vs ds d Q r p hg h
  unfold gInt at hg
  split at hg
  · obtain ⟨v, rfl, q⟩ := rpAll_1 p
    injection hg with hg
    subst hg
    exact .inl ⟨_, by rw [q.int_inv], h _ H Hs r (Same.refl _) (.int _)⟩
  · obtain ⟨v, rfl, q⟩ := rpAll_1 p
    injection hg with hg
    subst hg
    exact .inr ⟨_, by rw [q.bl_inv], h _ H Hs r (Same.refl _) (.int _)⟩
  · cases hg
theorem s_sortedI : CbF K mg (rSorted K) gSortedI := by
  intro b m f Hs en σ H vs ds d Q r p hg h
  unfold gSortedI at hg
  split at hg
  · obtain ⟨v, rfl, q⟩ := rpAll_1 p
    rename_i xs
    cases e : ints? xs with
    | none => rw [e] at hg; cases hg
    | some ns =>
      rw [e] at hg
      simp only [Option.bind_some] at hg
      split at hg
      · rename_i c
        injection hg with hg
        subst hg
        obtain ⟨a, us, rfl, h1, l1⟩ := q.lst_inv
        rw [ints_eq e] at l1
        have e2 := rpAll_ints l1
        subst e2
        refine ⟨a, ns, rfl, .of (r.sub _ _ h1), c, fun ns' p hp hs hn => ?_⟩
        have e3 : ns' = sortI ns := sorted_one (hp.trans (sortI_perm ns).symm) hs (sortI_sorted ns)
        subst e3
        exact contF_new r (.lst (rpAll_of_ints _)) h p hn
      · cases hg
  · cases hg
end

/-! ### isinstance of built-in classes -/
def tyName : PyData → Option String
  | .none => some "NoneType"
  | .bool _ => some "bool"
  | .int _ => some "int"
  | .str _ => some "str"
  | .list _ => some "list"
  | .tuple _ => some "tuple"
  | .dict [] => some "dict"
  | .dict _ => none
def isTy (T : String) (d : PyData) : Option Bool := (tyName d).bind fun t => kitB t T
/-- isinstance(x, T), T the name of a built-in class -/
def eIsTy (T : String) (ea : En → R PyData) : En → R PyData := fun en => (ea en).bind fun d en1 => match isTy T d with
  | some k => .ok (.bool k) en1
  | none => .stuck
theorem Rp.tyX {K : PySem.W.Frag} {mg : Str → Option Value} {H : Hp} {x : V} {d : PyData} {t : String} (p : Rp K mg H x d) (e : tyName d = some t) : TyX K H x (.type t) := by
  cases p with
  | non => cases e; exact .base .non
  | bl k => cases e; exact .base (.bl k)
  | int i => cases e; exact .base (.int i)
  | str z => cases e; exact .base (.str z)
  | lst h a => cases e; exact .base (.lst h)
  | scr h a => cases e
  | tup h a =>
    cases e
    rcases h with (h | ⟨o, h⟩) | ⟨o, its, n, h, c, _⟩
    · exact .base (.tup h)
    · exact .fTuple h
    · exact .kTuple h c
  | dK h l a =>
    rename_i q ks us ds
    cases ks with
    | nil => cases e; exact .base (.dK h)
    | cons k ks =>
      cases us with
      | nil => cases l
      | cons u us => cases a; cases e
  | dT h l a =>
    rename_i q ks us ds
    cases ks with
    | nil => cases e; exact .base (.dT h)
    | cons k ks =>
      cases us with
      | nil => cases l
      | cons u us => cases a; cases e
  | fn h => cases e
section
variable {X : Cx} {b : Bool} {m : List Bool} {W : WX} {p p2 pos : Pos} {T : String} {x : Str} {e : Expr} {ea : En → R PyData}
theorem ce_isTy (hm : X.mg "isinstance" = none) (hm2 : X.mg x = none) (hv2 : bootBuiltins x = some (.type T)) (ha : CE X b m W e ea) (gl : Gl X "isinstance" := by rfl) (gl2 : Gl X x := by rfl) (hn2 : x ≠ "__name__" := by decide) (hd2 : (x == ("__debug__" : Str)) = false := by decide)
    (he : starEach [e, .Name x p2] X.env = (false, eval e X.env) :: starEach [.Name x p2] X.env := by rfl) (hpl : (backTo pos (starEach [.Name x p2] X.env)).any (·.1) = false := by rfl) :
    CE X b m W (.Call (.Name "isinstance" p) [e, .Name x p2] [] pos) (eIsTy T ea) := by
  have hT : PE X (.Name x p2) (tC (.ty T)) := pe_bltn gl2 hm2 hv2 rfl hn2 hd2
  refine (pe_callB call_isi gl hm PyProof.Rows.boot_isinstance (pa_cons ha (pa_cons hT pa_nil) he) (by decide) (by decide) he hpl).imp fun σ H Q h => ?_
  obtain ⟨f, Hs, en, rl, h⟩ := h
  unfold eIsTy at h
  refine ⟨f, Hs, en, rl, ?_⟩
  simp only [R.bind] at h
  cases e1 : ea en with
  | stuck => rw [e1] at h; exact h
  | exc x en' => rw [e1] at h; exact h
  | ok d en1 =>
    rw [e1] at h
    intro v H1 Hs1 r1 s1 p1
    simp only at h
    unfold isTy at h
    cases e2 : tyName d with
    | none => simp only [e2, Option.bind_none] at h
    | some t =>
      simp only [e2, Option.bind_some] at h
      cases e3 : kitB t T with
      | none => simp only [e3] at h
      | some k =>
        simp only [e3] at h
        exact ⟨v, .ty T, .type t, .type T, k, rfl, .ty T, (p1.mono r1.sub).tyX e2, kit_ty e3, h _ H1 Hs1 r1 s1 (.bl k)⟩
end
end VS

/-! VS5 -/
namespace VS
open PySem L2

/-! ### what a def is worth: by data -/
inductive Fv where
  | ok (d : PyData) (bg : PyData)
  | exc (x : XV) (bg : PyData)
  | stuck
/-- behind a call: Hc, H ahead; Hs', H' behind; io: the list that it may change -/
structure Aft (K : PySem.W.Frag) (mg : Str → Option Value) (io : Option Addr) (Hc H Hs' : Hp) (bg : PyData) (H' : Hp) : Prop where
  sub : Same Hs' H'
  base : Same Hc Hs'
  ext : ∀ a o, H a = some o → Hs' a = Hc a
  keep : ∀ a o, H a = some o → io ≠ some a → H' a = some o
  bag : ∀ a, io = some a → ∃ us l, bg = .list l ∧ H' a = some (.lst us) ∧ Hs' a = none ∧ RpAll K mg Hs' us l
def Ret (K : PySem.W.Frag) (mg : Str → Option Value) (fr : Bool) (H Hs' : Hp) (v : V) (d : PyData) (H' : Hp) : Prop :=
  if fr = true then ∃ p o, v = .ref p ∧ H' p = some o ∧ Hs' p = none ∧ H p = none ∧ Ob K mg Hs' o d else Rp K mg Hs' v d
def Post (K : PySem.W.Frag) (mg : Str → Option Value) (fr : Bool) (io : Option Addr) (Hc H : Hp) (r : Fv) (Q : VK) (E : XK) : Prop := match r with
  | .ok d bg => ∀ v H' Hs', Aft K mg io Hc H Hs' bg H' → Ret K mg fr H Hs' v d H' → Q v H'
  | .exc x bg => ∀ cls dd H' Hs', Aft K mg io Hc H Hs' bg H' → XOk mg x cls dd H' → E cls dd H'
  | .stuck => False
def spV (K : PySem.W.Frag) (mg : Str → Option Value) (b fr : Bool) (F : List PyData → Fv) (n : Nat) : Sp := fun vs H Q E => vs.length = n ∧
  if b = true then ∃ Hc a us l ws ds, vs = .ref a :: ws ∧ Same Hc H ∧ H a = some (.lst us) ∧ Hc a = none ∧ RpAll K mg Hc us l ∧ RpAll K mg Hc ws ds ∧ Post K mg fr (some a) Hc H (F (.list l :: ds)) Q E
  else ∃ Hc ds, Same Hc H ∧ RpAll K mg Hc vs ds ∧ Post K mg fr none Hc H (F ds) Q E

section
variable {K : PySem.W.Frag} {mg : Str → Option Value} {b : Bool} {m : List Bool} {f : Fr} {Hs Hs' H H' : Hp} {en : En} {σ : L2.St} {bg : PyData}
theorem Rl.aft (r : Rl K mg b m f Hs en σ H) (a : Aft K mg none Hs H Hs' bg H') : Rl K mg b m f Hs' en σ H' := by
  have hN : ∀ (p : Addr) o, H p = some o → H' p = some o := fun p o e => a.keep p o e (fun z => nomatch z)
  refine ⟨a.sub, r.base.trans a.base, fun c o e => ?_, fun c o e ni => hN c o (r.keep c o e ni), r.bag, r.nobag, r.len, fun i d h1 h2 => ?_, fun i d h1 h2 => ?_, r.dis⟩
  · obtain ⟨o', e'⟩ := r.there e
    rw [a.ext c o' e']
    exact r.ext c o e
  · obtain ⟨v, e1, e2⟩ := r.sh i d h1 h2
    exact ⟨v, e1, e2.mono a.base⟩
  · obtain ⟨p, o, e1, e2, e3, e4, e5⟩ := r.ow i d h1 h2
    exact ⟨p, o, e1, hN p o e2, by rw [a.ext p o e2]; exact e3, e4, e5.mono a.base⟩
theorem getElem?_set_eq' {t : Type} {l : List t} {j : Nat} {x y : t} (h : l[j]? = some y) : (l.set j x)[j]? = some x := by
  obtain ⟨h1, _⟩ := List.getElem?_eq_some_iff.mp h
  exact List.getElem?_set_self h1
/-- the cell in slot j has changed -/
theorem Rl.aftB (r : Rl K mg b m f Hs en σ H) {j : Nat} {p : Addr} {l : List PyData} (hj : ownAt m j = true) (ej : ∃ d, en[j]? = some (some d)) (sj : σ[j]? = some (some (.ref p))) {us : List V} {l' : List PyData}
    (a : Aft K mg (some p) Hs H Hs' (.list l') H') : Rl K mg b m f Hs' (en.set j (some (.list l'))) σ H' := by
  obtain ⟨dj, ej⟩ := ej
  obtain ⟨pj, oj, k1, k2, k3, k4, k5⟩ := r.ow j dj hj ej
  rw [sj] at k1
  cases k1
  have hN : ∀ (q : Addr) o, q ≠ p → H q = some o → H' q = some o := fun q o nq e => a.keep q o e (fun z => nq (Option.some.inj z).symm)
  obtain ⟨us', l2, bq1, bq2, bq3, bq4⟩ := a.bag p rfl
  cases bq1
  refine ⟨a.sub, r.base.trans a.base, fun c o e => ?_, fun c o e ni => ?_, fun hb => ?_, r.nobag, by rw [List.length_set]; exact r.len, fun i d h1 h2 => ?_, fun i d h1 h2 => ?_, fun i i' d e q hne h1 h2 h3 h4 h5 h6 => ?_⟩
  · obtain ⟨o', e'⟩ := r.there e
    rw [a.ext c o' e']
    exact r.ext c o e
  · refine hN c o (fun z => ?_) (r.keep c o e ni)
    rw [z] at e ni
    exact ni (k4 o e)
  · obtain ⟨ho, a0, ds, q1, q2, q3⟩ := r.bag hb
    by_cases h0 : j = 0
    · subst h0
      refine ⟨ho, a0, l', q1, q2, ?_⟩
      exact getElem?_set_eq' ej
    · exact ⟨ho, a0, ds, q1, q2, by rw [List.getElem?_set_ne h0]; exact q3⟩
  · have hij : j ≠ i := fun z => by rw [z] at hj; rw [hj] at h1; cases h1
    rw [List.getElem?_set_ne hij] at h2
    obtain ⟨v, e1, e2⟩ := r.sh i d h1 h2
    exact ⟨v, e1, e2.mono a.base⟩
  · by_cases hij : j = i
    · subst hij
      rw [getElem?_set_eq' ej] at h2
      cases h2
      exact ⟨p, _, sj, bq2, bq3, k4, .lst bq4⟩
    · rw [List.getElem?_set_ne hij] at h2
      obtain ⟨q, o, e1, e2, e3, e4, e5⟩ := r.ow i d h1 h2
      have nq : q ≠ p := fun z => by
        rw [z] at e1
        exact r.dis j i _ _ p hij hj h1 ej h2 sj e1
      exact ⟨q, o, e1, hN q o nq e2, by rw [a.ext q o e2]; exact e3, e4, e5.mono a.base⟩
  · have there : ∀ {k : Nat} {z : PyData}, (en.set j (some (.list l')))[k]? = some (some z) → ∃ z', en[k]? = some (some z') := fun {k z} hk => by
      by_cases hjk : j = k
      · exact ⟨dj, by rw [← hjk]; exact ej⟩
      · rw [List.getElem?_set_ne hjk] at hk
        exact ⟨z, hk⟩
    obtain ⟨z1, t1⟩ := there h3
    obtain ⟨z2, t2⟩ := there h4
    exact r.dis i i' z1 z2 q hne h1 h2 t1 t2 h5 h6
/-- what a call tells, as a new object or a shared one -/
theorem ret_new {v : V} {d : PyData} {Q : VK} (r : Rl K mg b m f Hs en σ H) (r' : Rl K mg b m f Hs' en σ H') (s' : Same Hs Hs') (q : Ret K mg true H Hs' v d H') (h : ContF K mg b m f Hs en σ d Q) : Q v H' := by
  unfold Ret at q
  rw [if_pos rfl] at q
  obtain ⟨p, o, rfl, e1, e2, e3, ob⟩ := q
  refine h p o H' Hs' r' s' e1 e2 (fun u e => ?_) (fun i e h1 h2 h3 => ?_) ob
  · obtain ⟨o', e'⟩ := r.there e
    rw [e3] at e'
    cases e'
  · obtain ⟨q, u, k1, k2, _⟩ := r.ow i e h1 h2
    rw [h3] at k1
    cases k1
    rw [e3] at k2
    cases k2
end

/-! ### calls of defs -/
def eCall (F : List PyData → Fv) (er : En → R (List PyData)) : En → R PyData := fun en => (er en).bind fun ds en1 => match F ds with
  | .ok d _ => .ok d en1
  | .exc x _ => .exc x en1
  | .stuck => .stuck
def eCallB (F : List PyData → Fv) (j : Nat) (er : En → R (List PyData)) : En → R PyData := fun en => match en[j]? with
  | some (some _) => (er en).bind fun ds en1 => match en1[j]? with
    | some (some (.list l)) => match F (.list l :: ds) with
      | .ok d (.list l') => .ok d (en1.set j (some (.list l')))
      | .exc x (.list l') => .exc x (en1.set j (some (.list l')))
      | _ => .stuck
    | _ => .stuck
  | _ => .stuck
section
variable {K : PySem.W.Frag} {mg : Str → Option Value} {b : Bool} {m : List Bool} {W : WX} {F : List PyData → Fv} {er : En → R (List PyData)} {n : Nat}
theorem tv_call (hn : ∀ ds, F ds ≠ .stuck → ds.length = n) {σ : L2.St} {H : Hp} {Q : VK} (h : tv K mg b m W (eCall F er) σ H Q) : tav K mg b m W er σ H (fun vs H1 => spV K mg false false F n vs H1 Q (WE W σ)) := by
  obtain ⟨f, Hs, en, rl, h⟩ := h
  unfold eCall at h
  refine ⟨f, Hs, en, rl, ?_⟩
  simp only [R.bind] at h
  cases ha : er en with
  | stuck => rw [ha] at h; exact h
  | exc x en' => rw [ha] at h; exact h
  | ok ds en1 =>
    rw [ha] at h
    intro vs H1 Hs1 r1 s1 p1
    simp only at h
    refine ⟨?_, Hs1, ds, r1.sub, p1, ?_⟩
    · rw [p1.length]
      exact hn ds fun z => by rw [z] at h; exact h
    · cases e : F ds with
      | stuck => rw [e] at h; exact h
      | exc x bg =>
        rw [e] at h
        intro cls dd H' Hs' a xo
        exact h cls dd H' Hs' (r1.aft a) (s1.trans a.base) xo
      | ok d bg =>
        rw [e] at h
        intro v H' Hs' a q
        exact h v H' Hs' (r1.aft a) (s1.trans a.base) q
theorem tfv_call (hn : ∀ ds, F ds ≠ .stuck → ds.length = n) {σ : L2.St} {H : Hp} {Q : VK} (h : tfv K mg b m W (eCall F er) σ H Q) : tav K mg b m W er σ H (fun vs H1 => spV K mg false true F n vs H1 Q (WE W σ)) := by
  obtain ⟨f, Hs, en, rl, h⟩ := h
  unfold eCall at h
  refine ⟨f, Hs, en, rl, ?_⟩
  simp only [R.bind] at h
  cases ha : er en with
  | stuck => rw [ha] at h; exact h
  | exc x en' => rw [ha] at h; exact h
  | ok ds en1 =>
    rw [ha] at h
    intro vs H1 Hs1 r1 s1 p1
    simp only at h
    refine ⟨?_, Hs1, ds, r1.sub, p1, ?_⟩
    · rw [p1.length]
      exact hn ds fun z => by rw [z] at h; exact h
    · cases e : F ds with
      | stuck => rw [e] at h; exact h
      | exc x bg =>
        rw [e] at h
        intro cls dd H' Hs' a xo
        exact h cls dd H' Hs' (r1.aft a) (s1.trans a.base) xo
      | ok d bg =>
        rw [e] at h
        intro v H' Hs' a q
        exact ret_new r1 (r1.aft a) a.base q fun p o H2 Hs2 r2 s2 => h p o H2 Hs2 r2 (s1.trans s2)
theorem tv_callB {j : Nat} (hj : ownAt m j = true) (hn : ∀ ds, F ds ≠ .stuck → ds.length = n) {fr : Bool} (hfr : fr = false) {σ : L2.St} {H : Hp} {Q : VK} (h : tv K mg b m W (eCallB F j er) σ H Q) :
    tCons (tVar j) (tav K mg b m W er) σ H (fun vs H1 => spV K mg true fr F n vs H1 Q (WE W σ)) := by
  subst hfr
  obtain ⟨f, Hs, en, rl, h⟩ := h
  unfold eCallB at h
  cases e0 : en[j]? with
  | none => rw [e0] at h; exact h.elim
  | some o0 =>
    cases o0 with
    | none => rw [e0] at h; exact h.elim
    | some d0 =>
      rw [e0] at h
      obtain ⟨p0, u0, k1, _⟩ := rl.ow j d0 hj e0
      refine ⟨.ref p0, k1, f, Hs, en, rl, ?_⟩
      simp only [R.bind] at h
      cases ha : er en with
      | stuck => rw [ha] at h; exact h
      | exc x en' => rw [ha] at h; exact h
      | ok ds en1 =>
        rw [ha] at h
        intro vs H1 Hs1 r1 s1 p1
        simp only at h
        cases e1 : en1[j]? with
        | none => rw [e1] at h; exact h.elim
        | some o1 =>
          cases o1 with
          | none => rw [e1] at h; exact h.elim
          | some d1 =>
            rw [e1] at h
            cases d1 with
            | list l =>
              simp only at h
              obtain ⟨p, o, q1, q2, q3, q4, q5⟩ := r1.ow j _ hj e1
              rw [k1] at q1
              cases q1
              obtain ⟨us, rfl, q6⟩ := q5.lst_inv
              refine ⟨?_, ?_⟩
              · have z := hn (.list l :: ds) fun z => by rw [z] at h; exact h
                rw [List.length_cons] at z
                rw [List.length_cons, p1.length]
                exact z
              · rw [if_pos rfl]
                refine ⟨Hs1, p0, us, l, vs, ds, rfl, r1.sub, q2, q3, q6, p1, ?_⟩
                cases e : F (.list l :: ds) with
                | stuck => rw [e] at h; exact h
                | exc x bg =>
                  rw [e] at h
                  intro cls dd H' Hs' a xo
                  obtain ⟨us', l', b1, _⟩ := a.bag p0 rfl
                  subst b1
                  exact h cls dd H' Hs' (r1.aftB (l := l) (us := us) hj ⟨_, e1⟩ k1 a) (s1.trans a.base) xo
                | ok d bg =>
                  rw [e] at h
                  intro v H' Hs' a q
                  obtain ⟨us', l', b1, _⟩ := a.bag p0 rfl
                  subst b1
                  exact h v H' Hs' (r1.aftB (l := l) (us := us) hj ⟨_, e1⟩ k1 a) (s1.trans a.base) q
            | none => exact h.elim
            | bool _ => exact h.elim
            | int _ => exact h.elim
            | str _ => exact h.elim
            | tuple _ => exact h.elim
            | dict _ => exact h.elim
end
section
variable {X : Cx} {b : Bool} {m : List Bool} {W : WX} {p pos np : Pos} {x y : Str} {k n : Nat} {fa : Addr} {fd : FuncData} {ps : List Str} {e : Expr} {es : List Expr} {er : En → R (List PyData)} {F : List PyData → Fv}
/-- a def, told by data -/
structure FnV (P : Program) (w : World) (K : PySem.W.Frag) (mg : Str → Option Value) (base : Heap) (k : Nat) (x : Str) (b fr : Bool) (n : Nat) (F : List PyData → Fv) : Prop where
  ex : ∃ fa fd ps, FnOk P w K mg base (L2.CX P w) k fa fd ps (spV K mg b fr F n) ∧ mg x = some (.ref fa) ∧ PySem.W.keepIn K (.ref fa) = true ∧ Binds K fd ps []
  len : ∀ ds, F ds ≠ .stuck → ds.length = n
theorem ce_call (G : FnV X.prog X.w X.K X.mg X.base k x false false n F) (hr : Room k X.A) (tk : Takes X W) (ha : CA X b m W (e :: es) er) (gl : Gl X x := by rfl) (hdb : (x == ("__debug__" : Str)) = false := by decide)
    (he : starEach (e :: es) X.env = (false, eval e X.env) :: starEach es X.env := by rfl) (hpl : (backTo pos (starEach es X.env)).any (·.1) = false := by rfl) : CE X b m W (.Call (.Name x p) (e :: es) [] pos) (eCall F er) := by
  obtain ⟨fa, fd, ps, g1, g2, g3, g4⟩ := G.ex
  exact (pe_callS g1 hr gl g2 g3 g4 (fun σ => passAt tk σ) ha hdb he hpl).imp fun _ _ _ => tv_call G.len
theorem cf_call (G : FnV X.prog X.w X.K X.mg X.base k x false true n F) (hr : Room k X.A) (tk : Takes X W) (ha : CA X b m W (e :: es) er) (gl : Gl X x := by rfl) (hdb : (x == ("__debug__" : Str)) = false := by decide)
    (he : starEach (e :: es) X.env = (false, eval e X.env) :: starEach es X.env := by rfl) (hpl : (backTo pos (starEach es X.env)).any (·.1) = false := by rfl) : CF X b m W (.Call (.Name x p) (e :: es) [] pos) (eCall F er) := by
  obtain ⟨fa, fd, ps, g1, g2, g3, g4⟩ := G.ex
  exact (pe_callS g1 hr gl g2 g3 g4 (fun σ => passAt tk σ) ha hdb he hpl).imp fun _ _ _ => tfv_call G.len
/-- f(bag, ..) -/
theorem ce_callB (j : Nat) (G : FnV X.prog X.w X.K X.mg X.base k x true false n F) (hr : Room k X.A) (tk : Takes X W) (ha : CA X b m W es er) (hj : ownAt m j = true := by rfl) (hN : X.N[j]? = some y := by rfl) (hv : Vis X.env.scope y := by first | exact Or.inl rfl | exact Or.inr (Or.inl rfl) | exact Or.inr (Or.inr rfl)) (gl : Gl X x := by rfl) (hdb : (x == ("__debug__" : Str)) = false := by decide) (hdy : (y == ("__debug__" : Str)) = false := by decide) (hcy : (y == ("__classdict__" : Str)) = false := by decide)
    (he : starEach (.Name y np :: es) X.env = (false, eval (.Name y np) X.env) :: starEach es X.env := by rfl) (hpl : (backTo pos (starEach es X.env)).any (·.1) = false := by rfl) : CE X b m W (.Call (.Name x p) (.Name y np :: es) [] pos) (eCallB F j er) := by
  obtain ⟨fa, fd, ps, g1, g2, g3, g4⟩ := G.ex
  exact (pe_callS g1 hr gl g2 g3 g4 (fun σ => passAt tk σ) (pa_cons (pv j hN hv hdy hcy) ha he) hdb he hpl).imp fun _ _ _ => tv_callB hj G.len rfl
end
end VS

/-! VS6 -/
namespace VS
open PySem L2

/-! ### statements -/
inductive Out where
  | nx (en : En)
  | rt (d : PyData) (en : En)
  | bk (en : En)
  | ct (en : En)
  | exc (x : XV) (en : En)
  | stuck
/-- the masks of a block: ahead, behind, at break, at continue, at a raise; whether what it returns is new -/
structure Mk where
  b : Bool
  fr : Bool
  mb : List Bool
  mc : List Bool
  mx : List Bool
section
variable (K : PySem.W.Frag) (mg : Str → Option Value) (M : Mk) (W : WX)
def NxC (b : Bool) (m : List Bool) (f : Fr) (Hs : Hp) (en : En) (Q : L2.St → Hp → Prop) : Prop := ∀ σ' H' Hs', Rl K mg b m f Hs' en σ' H' → Same Hs Hs' → Q σ' H'
def RtC (f : Fr) (Hs : Hp) (en : En) (d : PyData) (Q : VK) : Prop := ∀ v H' Hs', Fo K mg M.b f Hs' en H' → Same Hs Hs' → (if M.fr = true then ∃ p o, v = .ref p ∧ H' p = some o ∧ Hs' p = none ∧ f.H0 p = none ∧ Ob K mg Hs' o d else Rp K mg Hs' v d) → Q v H'
def XcC (f : Fr) (Hs : Hp) (en : En) (x : XV) : Prop := ∀ cls dd σ' H' Hs', Rl K mg M.b M.mx f Hs' en σ' H' → Same Hs Hs' → XOk mg x cls dd H' → W cls dd σ' H'
def OutC (m' : List Bool) (f : Fr) (Hs : Hp) (o : Out) (D : Ends) : Prop := match o with
  | .nx en => NxC K mg M.b m' f Hs en D.nx
  | .rt d en => RtC K mg M f Hs en d D.rt
  | .bk en => NxC K mg M.b M.mb f Hs en D.bk
  | .ct en => NxC K mg M.b M.mc f Hs en D.ct
  | .exc x en => XcC K mg M W f Hs en x
  | .stuck => False
def tsv (m m' : List Bool) (ev : En → Out) : TS := fun D σ H => ∃ f Hs en, Rl K mg M.b m f Hs en σ H ∧ OutC K mg M W m' f Hs (ev en) D
end
abbrev CS (X : Cx) (M : Mk) (m m' : List Bool) (W : WX) (st : Stmt) (ev : En → Out) : Prop := PS X st (tsv X.K X.mg M W m m' ev)
abbrev CSs (X : Cx) (M : Mk) (m m' : List Bool) (W : WX) (st : List Stmt) (ev : En → Out) : Prop := PSs X st (tsv X.K X.mg M W m m' ev)
section
variable {X : Cx}
theorem _root_.L2.PS.imp {e : Stmt} {t t' : TS} (h : PS X e t) (i : ∀ D σ H, t' D σ H → t D σ H) : PS X e t' := ⟨fun pins s σ H Q I q => h.run pins s σ H Q I (i Q σ H q)⟩
theorem _root_.L2.PSs.imp {e : List Stmt} {t t' : TS} (h : PSs X e t) (i : ∀ D σ H, t' D σ H → t D σ H) : PSs X e t' := ⟨fun pins s σ H Q I q => h.run pins s σ H Q I (i Q σ H q)⟩
theorem _root_.L2.PG.imp {e : Expr} {t t' : TG} (h : PG X e t) (i : ∀ v σ H Q, t' v σ H Q → t v σ H Q) : PG X e t' := ⟨fun pins s σ H v u Q I r q => h.run pins s σ H v u Q I r (i v σ H Q q)⟩
theorem _root_.L2.PI.imp {tg e : Expr} {t t' : TI} (h : PI X tg e t) (i : ∀ σ H R, t' σ H R → t σ H R) : PI X tg e t' := ⟨fun pins s σ H R I q => h.run pins s σ H R I (i σ H R q)⟩
end
section
variable {K : PySem.W.Frag} {mg : Str → Option Value} {M : Mk} {W : WX} {m m' m2 : List Bool} {f : Fr} {Hs Hs' : Hp} {D : Ends} {o : Out}
theorem OutC.back (h : OutC K mg M W m' f Hs o D) (s : Same Hs Hs') : OutC K mg M W m' f Hs' o D := by
  cases o with
  | nx en => exact fun σ' H' Hs2 r q => h σ' H' Hs2 r (s.trans q)
  | rt d en => exact fun v H' Hs2 r q z => h v H' Hs2 r (s.trans q) z
  | bk en => exact fun σ' H' Hs2 r q => h σ' H' Hs2 r (s.trans q)
  | ct en => exact fun σ' H' Hs2 r q => h σ' H' Hs2 r (s.trans q)
  | exc x en => exact fun c d σ' H' Hs2 r q z => h c d σ' H' Hs2 r (s.trans q) z
  | stuck => exact h
/-- an expression's raise, in a statement -/
theorem XcC.of {b : Bool} (hb : M.b = b) {x : XV} {en : En} {σ : L2.St} (hw : wk m M.mx b = true) (h : XcC K mg M W f Hs en x) : ContX K mg b m f Hs en σ x W := fun cls dd H' Hs' r s xo => by
  subst hb
  obtain ⟨Hs2, r2, s2⟩ := r.weaken hw
  exact h cls dd σ H' Hs2 r2 (s.trans s2) xo
theorem tsv_weak (hw : wk m m2 M.b = true) {ev : En → Out} {σ : L2.St} {H : Hp} (h : tsv K mg M W m m' ev D σ H) : tsv K mg M W m2 m' ev D σ H := by
  obtain ⟨f, Hs, en, r, h⟩ := h
  obtain ⟨Hs2, r2, s2⟩ := r.weaken hw
  exact ⟨f, Hs2, en, r2, h.back s2⟩
end
/-! blocks -/
def sNil : En → Out := fun en => .nx en
def sSeq (s t : En → Out) : En → Out := fun en => match s en with
  | .nx en' => t en'
  | o => o
section
variable {X : Cx} {M : Mk} {m m1 m2 m3 : List Bool} {W : WX} {st : Stmt} {rest : List Stmt} {es er : En → Out} {pos : Pos}
/-- owned cells handed over ahead of a statement -/
theorem cs_weak (hw : wk m m1 M.b = true) (h : CS X M m1 m2 W st es) : CS X M m m2 W st es := h.imp fun _ _ _ => tsv_weak hw
theorem css_weak (hw : wk m m1 M.b = true) (h : CSs X M m1 m2 W rest es) : CSs X M m m2 W rest es := h.imp fun _ _ _ => tsv_weak hw
/-- .. behind it -/
theorem cs_weakB (hw : wk m2 m3 M.b = true) (h : CS X M m m2 W st es) : CS X M m m3 W st es := h.imp fun D σ H h => by
  obtain ⟨f, Hs, en, r, h⟩ := h
  refine ⟨f, Hs, en, r, ?_⟩
  cases e : es en with
  | nx en' =>
    rw [e] at h
    intro σ' H' Hs' r' s'
    obtain ⟨Hs2, r2, s2⟩ := r'.weaken hw
    exact h σ' H' Hs2 r2 (s'.trans s2)
  | rt d en' => rw [e] at h; exact h
  | bk en' => rw [e] at h; exact h
  | ct en' => rw [e] at h; exact h
  | exc x en' => rw [e] at h; exact h
  | stuck => rw [e] at h; exact h
theorem css_weakB (hw : wk m2 m3 M.b = true) (h : CSs X M m m2 W rest es) : CSs X M m m3 W rest es := h.imp fun D σ H h => by
  obtain ⟨f, Hs, en, r, h⟩ := h
  refine ⟨f, Hs, en, r, ?_⟩
  cases e : es en with
  | nx en' =>
    rw [e] at h
    intro σ' H' Hs' r' s'
    obtain ⟨Hs2, r2, s2⟩ := r'.weaken hw
    exact h σ' H' Hs2 r2 (s'.trans s2)
  | rt d en' => rw [e] at h; exact h
  | bk en' => rw [e] at h; exact h
  | ct en' => rw [e] at h; exact h
  | exc x en' => rw [e] at h; exact h
  | stuck => rw [e] at h; exact h
theorem css_nil : CSs X M m m W [] sNil := pss_nil.imp fun D σ H h => by
  obtain ⟨f, Hs, en, r, h⟩ := h
  exact h σ H Hs r (Same.refl _)
theorem css_cons (h1 : CS X M m m1 W st es) (h2 : CSs X M m1 m2 W rest er) : CSs X M m m2 W (st :: rest) (sSeq es er) := (pss_cons h1 h2).imp fun D σ H h => by
  obtain ⟨f, Hs, en, r, h⟩ := h
  unfold sSeq at h
  refine ⟨f, Hs, en, r, ?_⟩
  cases e : es en with
  | nx en' =>
    rw [e] at h
    intro σ' H' Hs' r' s'
    exact ⟨f, Hs', en', r', OutC.back h s'⟩
  | rt d en' => rw [e] at h; exact h
  | bk en' => rw [e] at h; exact h
  | ct en' => rw [e] at h; exact h
  | exc x en' => rw [e] at h; exact h
  | stuck => rw [e] at h; exact h
theorem css_one (h1 : CS X M m m1 W st es) : CSs X M m m1 W [st] es := pss_one h1
/-- what is never reached -/
def sNever : En → Out := fun _ => .stuck
theorem css_never {sts : List Stmt} : CSs X M m m2 W sts sNever := pss_never.imp fun D σ H h => by
  obtain ⟨f, Hs, en, r, h⟩ := h
  exact h.elim
theorem cs_never : CS X M m m2 W st sNever := ps_never.imp fun D σ H h => by
  obtain ⟨f, Hs, en, r, h⟩ := h
  exact h.elim
def sBreak : En → Out := fun en => .bk en
def sCont : En → Out := fun en => .ct en
theorem cs_pass : CS X M m m W (.Pass pos) sNil := ps_pass.imp fun D σ H h => by
  obtain ⟨f, Hs, en, r, h⟩ := h
  exact h σ H Hs r (Same.refl _)
theorem cs_break (hw : wk m M.mb M.b = true) : CS X M m m2 W (.Break pos) sBreak := ps_break.imp fun D σ H h => by
  obtain ⟨f, Hs, en, r, h⟩ := h
  obtain ⟨Hs2, r2, s2⟩ := r.weaken hw
  exact h σ H Hs2 r2 s2
theorem cs_cont (hw : wk m M.mc M.b = true) : CS X M m m2 W (.Continue pos) sCont := ps_continue.imp fun D σ H h => by
  obtain ⟨f, Hs, en, r, h⟩ := h
  obtain ⟨Hs2, r2, s2⟩ := r.weaken hw
  exact h σ H Hs2 r2 s2
end
/-! expressions as statements, returns, tests -/
def sExpr (ea : En → R PyData) : En → Out := fun en => match ea en with
  | .ok _ en' => .nx en'
  | .exc x en' => .exc x en'
  | .stuck => .stuck
def sRet (ea : En → R PyData) : En → Out := fun en => match ea en with
  | .ok d en' => .rt d en'
  | .exc x en' => .exc x en'
  | .stuck => .stuck
/-- return x, x an owned cell -/
def sRetV (i : Nat) : En → Out := fun en => match en[i]? with
  | some (some d) => .rt d en
  | _ => .stuck
def sIf (tt : En → R Bool) (s t : En → Out) : En → Out := fun en => match tt en with
  | .ok k en' => if k = true then s en' else t en'
  | .exc x en' => .exc x en'
  | .stuck => .stuck
section
variable {X : Cx} {M : Mk} {m m1 m2 : List Bool} {W : WX} {e : Expr} {ea : En → R PyData} {tt : En → R Bool} {pos : Pos} {x : Str} {sa sb : List Stmt} {s t : En → Out}
theorem cs_expr (h : CE X M.b m W e ea) (hx : wk m M.mx M.b = true := by rfl) (hs : swapsWith e none pos.line X.env = pure false := by rfl) : CS X M m m W (.Expr e pos) (sExpr ea) := (ps_expr h hs).imp fun D σ H h => by
  obtain ⟨f, Hs, en, r, h⟩ := h
  unfold sExpr at h
  refine ⟨f, Hs, en, r, ?_⟩
  cases e : ea en with
  | ok d en' => rw [e] at h; exact fun v H' Hs' r' s' _ => h σ H' Hs' r' s'
  | exc x en' => rw [e] at h; exact XcC.of rfl hx h
  | stuck => rw [e] at h; exact h
theorem cs_doc {z j p q} : CS X M m m W (.Expr (.Constant (.str z) j p) q) sNil := ps_doc.imp fun D σ H h => by
  obtain ⟨f, Hs, en, r, h⟩ := h
  exact h σ H Hs r (Same.refl _)
theorem cs_ret (hf : M.fr = false) (h : CE X M.b m W e ea) (hx : wk m M.mx M.b = true := by rfl) : CS X M m m2 W (.Return (some e) pos) (sRet ea) := (ps_ret h).imp fun D σ H h => by
  obtain ⟨f, Hs, en, r, h⟩ := h
  unfold sRet at h
  refine ⟨f, Hs, en, r, ?_⟩
  cases e : ea en with
  | ok d en' => rw [e] at h; exact fun v H' Hs' r' s' p' => h v H' Hs' r'.fo s' (by rw [if_neg (by rw [hf]; exact Bool.false_ne_true)]; exact p')
  | exc x en' => rw [e] at h; exact XcC.of rfl hx h
  | stuck => rw [e] at h; exact h
theorem cs_retF (hf : M.fr = true) (h : CF X M.b m W e ea) (hx : wk m M.mx M.b = true := by rfl) : CS X M m m2 W (.Return (some e) pos) (sRet ea) := by
  have h' : PE X e (tfv X.K X.mg M.b m W ea) := h
  refine (ps_ret h').imp fun D σ H h => ?_
  obtain ⟨f, Hs, en, r, h⟩ := h
  unfold sRet at h
  refine ⟨f, Hs, en, r, ?_⟩
  cases e : ea en with
  | ok d en' =>
    rw [e] at h
    intro p o H' Hs' r' s' e1 e2 e3 e4 ob
    refine h (.ref p) H' Hs' r'.fo s' ?_
    rw [if_pos hf]
    refine ⟨p, o, rfl, e1, e2, ?_, ob⟩
    cases z : f.H0 p with
    | none => rfl
    | some u => exact absurd z (e3 u)
  | exc x en' => rw [e] at h; exact XcC.of rfl hx h
  | stuck => rw [e] at h; exact h
/-- return x, x an owned cell that is no bag -/
theorem cs_retV (i : Nat) {p : Pos} (hm : ownAt m i = true := by rfl) (hi : (!M.b || i != 0) = true := by rfl) (hN : X.N[i]? = some x := by rfl) (hv : Vis X.env.scope x := by first | exact Or.inl rfl | exact Or.inr (Or.inl rfl) | exact Or.inr (Or.inr rfl)) (hd : (x == ("__debug__" : Str)) = false := by decide) (hcd : (x == ("__classdict__" : Str)) = false := by decide) :
    CS X M m m2 W (.Return (some (.Name x p)) pos) (sRetV i) := (ps_ret (pv i hN hv hd hcd)).imp fun D σ H h => by
  obtain ⟨f, Hs, en, r, h⟩ := h
  unfold sRetV at h
  cases e : en[i]? with
  | none => rw [e] at h; exact h.elim
  | some o =>
    cases o with
    | none => rw [e] at h; exact h.elim
    | some d =>
      rw [e] at h
      obtain ⟨q, u, k1, k2, k3, k4, k5⟩ := r.ow i d hm e
      have k6 : f.H0 q = none := by
        cases z : f.H0 q with
        | none => rfl
        | some w' =>
          have io := k4 w' z
          cases hb : M.b with
          | false => rw [r.nobag hb] at io; cases io
          | true =>
            obtain ⟨ho, a, ds, q1, q2, q3⟩ := r.bag hb
            rw [q1] at io
            cases io
            have i0 : i ≠ 0 := by
              rw [hb] at hi
              simpa using hi
            exact absurd (r.dis i 0 _ _ q i0 hm ho e q3 k1 q2) (fun z => z)
      refine ⟨.ref q, k1, ?_⟩
      cases hf : M.fr with
      | true => exact h (.ref q) H Hs r.fo (Same.refl _) (by rw [if_pos hf]; exact ⟨q, u, rfl, k2, k3, k6, k5⟩)
      | false =>
        have e4 : ∀ i' e', ownAt m i' = true → en[i']? = some (some e') → i' ≠ i → σ[i']? ≠ some (some (.ref q)) := fun i' e' h1 h2 h3 h4 => r.dis i' i _ _ q h3 h1 hm h2 e h4 k1
        -- the frame alone, with the cell shared
        have s1 : Same Hs (upd Hs q u) := same_updN k3
        have fo := r.fo
        refine h (.ref q) H (upd Hs q u) ⟨fun c z hz => ?_, fo.base.trans s1, fun c z hz => ?_, fo.keep, fun hb => ?_, fo.nobag⟩ s1 (by rw [if_neg (by rw [hf]; exact Bool.false_ne_true)]; exact (k5.mono s1).rp upd_same)
        · by_cases hc : c = q
          · rw [hc, upd_same] at hz
            rw [hc, k2]
            exact hz
          · rw [upd_ne hc] at hz
            exact fo.sub c z hz
        · have hc : c ≠ q := fun w' => by rw [w', k6] at hz; cases hz
          rw [upd_ne hc]
          exact fo.ext c z hz
        · obtain ⟨a, us, ds, q1, q2, q3, q4, q5⟩ := fo.bagc hb
          have na : a ≠ q := fun w' => by
            obtain ⟨ho, a', ds', p1, p2, p3⟩ := r.bag hb
            rw [q1] at p1
            cases p1
            have i0 : i ≠ 0 := by
              rw [hb] at hi
              simpa using hi
            exact r.dis i 0 _ _ q i0 hm ho e p3 k1 (by rw [← w']; exact p2)
          exact ⟨a, us, ds, q1, q2, q3, by rw [upd_ne na]; exact q4, q5.mono s1⟩
theorem cs_if (h : CT X M.b m W e tt) (ha : CSs X M m m1 W sa s) (hb : CSs X M m m1 W sb t) (hx : wk m M.mx M.b = true := by rfl) : CS X M m m1 W (.If e sa sb pos) (sIf tt s t) := (ps_if h ha hb).imp fun D σ H h => by
  obtain ⟨f, Hs, en, r, h⟩ := h
  unfold sIf at h
  refine ⟨f, Hs, en, r, ?_⟩
  cases e : tt en with
  | ok k en' =>
    rw [e] at h
    intro H' Hs' r' s'
    cases k with
    | true => exact ⟨f, Hs', en', r', OutC.back h s'⟩
    | false => exact ⟨f, Hs', en', r', OutC.back h s'⟩
  | exc x en' => rw [e] at h; exact XcC.of rfl hx h
  | stuck => rw [e] at h; exact h
end
/-! ### names stored -/
def sSet (i : Nat) (ea : En → R PyData) : En → Out := fun en => match ea en with
  | .ok d en' => if i < en'.length then .nx (en'.set i (some d)) else .stuck
  | .exc x en' => .exc x en'
  | .stuck => .stuck
theorem ownAt_set (m : List Bool) (i j : Nat) (k : Bool) (hi : i < m.length) : ownAt (m.set i k) j = if i = j then k else ownAt m j := by
  unfold ownAt
  rw [List.getD_eq_getElem?_getD, List.getD_eq_getElem?_getD]
  by_cases h : i = j
  · subst h
    rw [if_pos rfl, List.getElem?_set_self hi]
    rfl
  · rw [if_neg h, List.getElem?_set_ne h]
section
variable {K : PySem.W.Frag} {mg : Str → Option Value} {b : Bool} {m : List Bool} {f : Fr} {Hs Hs' H H' : Hp} {en : En} {σ : L2.St}
/-- slot i holds what is shared -/
theorem Rl.set (r : Rl K mg b m f Hs en σ H) {i : Nat} {v : V} {d : PyData} (hm : i < m.length) (hi : (!b || i != 0) = true) (p : Rp K mg Hs v d) : Rl K mg b (m.set i false) f Hs (en.set i (some d)) (σ.set i (some v)) H := by
  have own : ∀ j, ownAt (m.set i false) j = true → ownAt m j = true ∧ i ≠ j := fun j h => by
    rw [ownAt_set m i j false hm] at h
    by_cases e : i = j
    · rw [if_pos e] at h; cases h
    · rw [if_neg e] at h; exact ⟨h, e⟩
  refine ⟨r.sub, r.base, r.ext, r.keep, fun hb => ?_, r.nobag, by rw [List.length_set, List.length_set]; exact r.len, fun j e h1 h2 => ?_, fun j e h1 h2 => ?_, fun j k d1 d2 q hjk h1 h2 h3 h4 h5 h6 => ?_⟩
  · have i0 : i ≠ 0 := by
      rw [hb] at hi
      simpa using hi
    obtain ⟨ho, a, ds, q1, q2, q3⟩ := r.bag hb
    refine ⟨?_, a, ds, q1, by rw [List.getElem?_set_ne i0]; exact q2, by rw [List.getElem?_set_ne i0]; exact q3⟩
    rw [ownAt_set m i 0 false hm, if_neg i0]
    exact ho
  · by_cases e1 : i = j
    · subst e1
      have hl : i < en.length := by
        obtain ⟨h', _⟩ := List.getElem?_eq_some_iff.mp h2
        simpa using h'
      rw [List.getElem?_set_self hl] at h2
      cases h2
      exact ⟨v, List.getElem?_set_self (by rw [← r.len]; exact hl), p⟩
    · rw [List.getElem?_set_ne e1] at h2 ⊢
      rw [ownAt_set m i j false hm, if_neg e1] at h1
      exact r.sh j e h1 h2
  · obtain ⟨h1, e1⟩ := own j h1
    rw [List.getElem?_set_ne e1] at h2 ⊢
    exact r.ow j e h1 h2
  · obtain ⟨h1, e1⟩ := own j h1
    obtain ⟨h2, e2⟩ := own k h2
    rw [List.getElem?_set_ne e1] at h3 h5
    rw [List.getElem?_set_ne e2] at h4 h6
    exact r.dis j k d1 d2 q hjk h1 h2 h3 h4 h5 h6
/-- slot i holds a new cell of its own -/
theorem Rl.setF (r : Rl K mg b m f Hs en σ H) {i : Nat} {p : Addr} {o : HO} {d : PyData} (hm : i < m.length) (hi : (!b || i != 0) = true) (e1 : H p = some o) (e2 : Hs p = none) (e3 : ∀ u, f.H0 p ≠ some u)
    (e4 : ∀ i e, ownAt m i = true → en[i]? = some (some e) → σ[i]? ≠ some (some (.ref p))) (ob : Ob K mg Hs o d) : Rl K mg b (m.set i true) f Hs (en.set i (some d)) (σ.set i (some (.ref p))) H := by
  have oth : ∀ j, i ≠ j → ownAt (m.set i true) j = ownAt m j := fun j h => by rw [ownAt_set m i j true hm, if_neg h]
  have here : ∀ {e : PyData}, (en.set i (some d))[i]? = some (some e) → i < en.length ∧ e = d := fun {e} h => by
    have hl : i < en.length := by
      obtain ⟨h', _⟩ := List.getElem?_eq_some_iff.mp h
      simpa using h'
    rw [List.getElem?_set_self hl] at h
    cases h
    exact ⟨hl, rfl⟩
  refine ⟨r.sub, r.base, r.ext, r.keep, fun hb => ?_, r.nobag, by rw [List.length_set, List.length_set]; exact r.len, fun j e h1 h2 => ?_, fun j e h1 h2 => ?_, fun j k d1 d2 q hjk h1 h2 h3 h4 h5 h6 => ?_⟩
  · have i0 : i ≠ 0 := by
      rw [hb] at hi
      simpa using hi
    obtain ⟨ho, a, ds, q1, q2, q3⟩ := r.bag hb
    exact ⟨by rw [oth 0 i0]; exact ho, a, ds, q1, by rw [List.getElem?_set_ne i0]; exact q2, by rw [List.getElem?_set_ne i0]; exact q3⟩
  · by_cases z : i = j
    · subst z
      rw [ownAt_set m i i true hm, if_pos rfl] at h1
      cases h1
    · rw [List.getElem?_set_ne z] at h2 ⊢
      rw [oth j z] at h1
      exact r.sh j e h1 h2
  · by_cases z : i = j
    · subst z
      obtain ⟨hl, rfl⟩ := here h2
      exact ⟨p, o, List.getElem?_set_self (by rw [← r.len]; exact hl), e1, e2, fun u hu => absurd hu (e3 u), ob⟩
    · rw [List.getElem?_set_ne z] at h2 ⊢
      rw [oth j z] at h1
      exact r.ow j e h1 h2
  · by_cases z1 : i = j
    · subst z1
      obtain ⟨hl, rfl⟩ := here h3
      rw [List.getElem?_set_self (by rw [← r.len]; exact hl)] at h5
      cases h5
      rw [List.getElem?_set_ne hjk] at h4 h6
      rw [oth k hjk] at h2
      exact e4 k d2 h2 h4 h6
    · by_cases z2 : i = k
      · subst z2
        obtain ⟨hl, rfl⟩ := here h4
        rw [List.getElem?_set_self (by rw [← r.len]; exact hl)] at h6
        cases h6
        rw [List.getElem?_set_ne z1] at h3 h5
        rw [oth j z1] at h1
        exact e4 j d1 h1 h3 h5
      · rw [List.getElem?_set_ne z1] at h3 h5
        rw [List.getElem?_set_ne z2] at h4 h6
        rw [oth j z1] at h1
        rw [oth k z2] at h2
        exact r.dis j k d1 d2 q hjk h1 h2 h3 h4 h5 h6
end
section
variable {X : Cx} {M : Mk} {m : List Bool} {W : WX} {e : Expr} {ea : En → R PyData} {pos p : Pos} {x : Str}
theorem cs_set (i : Nat) (h : CE X M.b m W e ea) (nd : X.N.Nodup) (hm : i < m.length := by decide) (hi : (!M.b || i != 0) = true := by rfl) (hx : wk m M.mx M.b = true := by rfl) (hN : X.N[i]? = some x := by rfl) (hv : Loc X.env.scope x := by first | exact Or.inl rfl | exact Or.inr rfl) (hs : swapsWith e (some (.Name x p)) pos.line X.env = pure false := by rfl) (hf : X.fn x = true ∨ X.env.scope.names.lookup x = some .local := by first | exact .inl rfl | exact .inr rfl | assumption) :
    CS X M m (m.set i false) W (.Assign [.Name x p] e pos) (sSet i ea) := (ps_set (i := i) nd hN hv h hs hf).imp fun D σ H h => by
  obtain ⟨f, Hs, en, r, h⟩ := h
  unfold sSet at h
  refine ⟨f, Hs, en, r, ?_⟩
  cases e : ea en with
  | ok d en' =>
    rw [e] at h
    intro v H' Hs' r' s' p'
    simp only at h
    split at h
    · exact h _ H' Hs' (r'.set hm hi p') s'
    · exact h.elim
  | exc x en' => rw [e] at h; exact XcC.of rfl hx h
  | stuck => rw [e] at h; exact h
theorem cs_setF (i : Nat) (h : CF X M.b m W e ea) (nd : X.N.Nodup) (hm : i < m.length := by decide) (hi : (!M.b || i != 0) = true := by rfl) (hx : wk m M.mx M.b = true := by rfl) (hN : X.N[i]? = some x := by rfl) (hv : Loc X.env.scope x := by first | exact Or.inl rfl | exact Or.inr rfl) (hs : swapsWith e (some (.Name x p)) pos.line X.env = pure false := by rfl) (hf : X.fn x = true ∨ X.env.scope.names.lookup x = some .local := by first | exact .inl rfl | exact .inr rfl | assumption) :
    CS X M m (m.set i true) W (.Assign [.Name x p] e pos) (sSet i ea) := by
  have h' : PE X e (tfv X.K X.mg M.b m W ea) := h
  refine (ps_set (i := i) nd hN hv h' hs hf).imp fun D σ H h => ?_
  obtain ⟨f, Hs, en, r, h⟩ := h
  unfold sSet at h
  refine ⟨f, Hs, en, r, ?_⟩
  cases e : ea en with
  | ok d en' =>
    rw [e] at h
    intro q o H' Hs' r' s' e1 e2 e3 e4 ob
    simp only at h
    split at h
    · exact h _ H' Hs' (r'.setF hm hi e1 e2 e3 e4 ob) s'
    · exact h.elim
  | exc x en' => rw [e] at h; exact XcC.of rfl hx h
  | stuck => rw [e] at h; exact h
end
end VS

/-! VS7 -/
namespace VS
open PySem L2

/-! ### targets -/
def tgt (K : PySem.W.Frag) (mg : Str → Option Value) (b : Bool) (m m' : List Bool) (ts : List Nat) (g : PyData → En → Option En) : TG := fun v σ H Q => ∃ f Hs en d, Rl K mg b m f Hs en σ H ∧ Rp K mg Hs v d ∧ match g d en with
  | some en' => ∀ σ' H' Hs', Rl K mg b m' f Hs' en' σ' H' → Same Hs Hs' → (∀ k, k ∉ ts → σ'[k]? = σ[k]?) → Q σ' H'
  | none => False
def tgts (K : PySem.W.Frag) (mg : Str → Option Value) (b : Bool) (m m' : List Bool) (ts : List Nat) (g : List PyData → En → Option En) : TGs := fun vs σ H Q => ∃ f Hs en ds, Rl K mg b m f Hs en σ H ∧ RpAll K mg Hs vs ds ∧ match g ds en with
  | some en' => ∀ σ' H' Hs', Rl K mg b m' f Hs' en' σ' H' → Same Hs Hs' → (∀ k, k ∉ ts → σ'[k]? = σ[k]?) → Q σ' H'
  | none => False
abbrev CG (X : Cx) (b : Bool) (m m' : List Bool) (ts : List Nat) (e : Expr) (g : PyData → En → Option En) : Prop := PG X e (tgt X.K X.mg b m m' ts g)
abbrev CGs (X : Cx) (b : Bool) (m m' : List Bool) (ts : List Nat) (e : List Expr) (g : List PyData → En → Option En) : Prop := PGs X e (tgts X.K X.mg b m m' ts g)
def gN (i : Nat) : PyData → En → Option En := fun d en => if i < en.length then some (en.set i (some d)) else none
def gsN : List PyData → En → Option En := fun ds en => match ds with
  | [] => some en
  | _ => none
def gsC (g : PyData → En → Option En) (r : List PyData → En → Option En) : List PyData → En → Option En := fun ds en => match ds with
  | d :: ds => (g d en).bind fun en1 => r ds en1
  | [] => none
def gT (r : List PyData → En → Option En) : PyData → En → Option En := fun d en => match d with
  | .tuple ds => r ds en
  | _ => none
section
variable {X : Cx} {b : Bool} {m m1 m2 : List Bool} {x : Str} {pos : Pos} {ts ts1 ts2 : List Nat} {e : Expr} {es : List Expr} {g : PyData → En → Option En} {r : List PyData → En → Option En}
theorem _root_.L2.PGs.imp {e : List Expr} {t t' : TGs} (h : PGs X e t) (i : ∀ v σ H Q, t' v σ H Q → t v σ H Q) : PGs X e t' := ⟨fun pins s σ H v u Q I r q => h.run pins s σ H v u Q I r (i v σ H Q q)⟩
theorem cg_n (i : Nat) (nd : X.N.Nodup) (hm : i < m.length := by decide) (hi : (!b || i != 0) = true := by rfl) (hN : X.N[i]? = some x := by rfl) (hv : Loc X.env.scope x := by first | exact Or.inl rfl | exact Or.inr rfl) (hf : X.fn x = true ∨ X.env.scope.names.lookup x = some .local := by first | exact .inl rfl | exact .inr rfl | assumption) :
    CG X b m (m.set i false) [i] (.Name x pos) (gN i) := (pg_name (i := i) nd hN hv hf).imp fun v σ H Q h => by
  obtain ⟨f, Hs, en, d, r, p, h⟩ := h
  unfold gN at h
  split at h
  · rename_i c
    split at c
    · rename_i hl
      cases c
      refine h _ H Hs (r.set hm hi p) (Same.refl _) fun k hk => ?_
      have nk : i ≠ k := fun z => hk (by rw [z]; exact List.mem_cons_self)
      exact List.getElem?_set_ne nk
    · cases c
  · exact h.elim
theorem cgs_nil : CGs X b m m [] [] gsN := pgs_nil.imp fun vs σ H Q h => by
  obtain ⟨f, Hs, en, ds, r, p, h⟩ := h
  unfold gsN at h
  cases p with
  | nil => exact ⟨rfl, h σ H Hs r (Same.refl _) fun _ _ => rfl⟩
  | cons _ _ => exact h.elim
theorem cgs_cons (h1 : CG X b m m1 ts1 e g) (h2 : CGs X b m1 m2 ts2 es r) (hs : (assignEach (e :: es) X.env).map (·.2) = assign e X.env :: (assignEach es X.env).map (·.2) := by rfl) : CGs X b m m2 (ts1 ++ ts2) (e :: es) (gsC g r) := (pgs_cons h1 h2 hs).imp fun vs σ H Q h => by
  obtain ⟨f, Hs, en, ds, rl, p, h⟩ := h
  unfold gsC at h
  cases p with
  | nil => exact h.elim
  | cons a c =>
    rename_i v us d ds
    refine ⟨v, us, rfl, f, Hs, en, d, rl, a, ?_⟩
    simp only at h
    cases e1 : g d en with
    | none => rw [e1] at h; exact h.elim
    | some en1 =>
      rw [e1] at h
      intro σ1 H1 Hs1 r1 s1 k1
      refine ⟨f, Hs1, en1, ds, r1, c.mono s1, ?_⟩
      simp only [Option.bind_some] at h
      cases e2 : r ds en1 with
      | none => rw [e2] at h; exact h.elim
      | some en2 =>
        rw [e2] at h
        intro σ2 H2 Hs2 r2 s2 k2
        exact h σ2 H2 Hs2 r2 (s1.trans s2) fun k hk => (k2 k fun z => hk (List.mem_append_right _ z)).trans (k1 k fun z => hk (List.mem_append_left _ z))
theorem cg_t {k n : Nat} (hc : X.calm = true) (h : CGs X b m m1 ts es r) (hr : ∀ ds en en', r ds en = some en' → ds.length = n) (hn : (assignEach es X.env).length = n := by rfl) (hst : (assignEach es X.env).findIdx? (·.1) = none := by rfl) :
    CG X b m m1 ts (.Tuple es k pos) (gT r) := (pg_tup hc h hn hst).imp fun v σ H Q h => by
  obtain ⟨f, Hs, en, d, rl, p, h⟩ := h
  unfold gT at h
  cases d with
  | tuple ds =>
    obtain ⟨q, us, rfl, h1, l1⟩ := p.tup_inv
    simp only at h
    refine ⟨q, us, rfl, seqT_mono rl.sub h1, ?_, f, Hs, en, ds, rl, l1, h⟩
    rw [l1.length]
    cases e : r ds en with
    | none => rw [e] at h; exact h.elim
    | some en' => exact hr ds en en' e
  | none => exact h.elim
  | bool _ => exact h.elim
  | int _ => exact h.elim
  | str _ => exact h.elim
  | list _ => exact h.elim
  | dict _ => exact h.elim
theorem gsN_len : ∀ ds en en', gsN ds en = some en' → ds.length = 0 := fun ds en en' h => by
  cases ds with
  | nil => rfl
  | cons _ _ => cases h
theorem gsC_len {n : Nat} (h : ∀ ds en en', r ds en = some en' → ds.length = n) : ∀ ds en en', gsC g r ds en = some en' → ds.length = n + 1 := fun ds en en' e => by
  cases ds with
  | nil => cases e
  | cons d ds =>
    unfold gsC at e
    simp only at e
    cases e1 : g d en with
    | none => rw [e1] at e; cases e
    | some en1 =>
      rw [e1] at e
      rw [List.length_cons, h ds en1 en' e]
end
/-- target = value, any target -/
def sAsg (ea : En → R PyData) (g : PyData → En → Option En) : En → Out := fun en => match ea en with
  | .ok d en' => match g d en' with
    | some en2 => .nx en2
    | none => .stuck
  | .exc x en' => .exc x en'
  | .stuck => .stuck
section
variable {X : Cx} {M : Mk} {m m' : List Bool} {W : WX} {e tg : Expr} {ea : En → R PyData} {g : PyData → En → Option En} {ts : List Nat} {pos p : Pos} {x y : Str}
theorem cs_asg (h : CE X M.b m W e ea) (hg : CG X M.b m m' ts tg g) (hx : wk m M.mx M.b = true := by rfl) (hs : swapsWithSole [tg] e pos.line X.env = pure false := by rfl) (hw : swappedStores [tg] e X.env = pure none := by rfl)
    (h1 : (assignEach [tg] X.env).map (·.2) = [assign tg X.env] := by rfl) : CS X M m m' W (.Assign [tg] e pos) (sAsg ea g) := (ps_asg h hg hs hw h1).imp fun D σ H h => by
  obtain ⟨f, Hs, en, r, h⟩ := h
  unfold sAsg at h
  refine ⟨f, Hs, en, r, ?_⟩
  cases e : ea en with
  | ok d en' =>
    rw [e] at h
    intro v H' Hs' r' s' p'
    refine ⟨f, Hs', en', d, r', p', ?_⟩
    simp only at h
    cases e2 : g d en' with
    | none => rw [e2] at h; exact h.elim
    | some en2 =>
      rw [e2] at h
      intro σ2 H2 Hs2 r2 s2 _
      exact h σ2 H2 Hs2 r2 (s'.trans s2)
  | exc x en' => rw [e] at h; exact XcC.of rfl hx h
  | stuck => rw [e] at h; exact h
/-- a, b = e1, e2: both names local -/
def sPar (i j : Nat) (ea eb : En → R PyData) : En → Out := fun en => match ea en with
  | .ok d en1 => match eb en1 with
    | .ok d2 en2 => if i < en2.length ∧ j < en2.length then .nx ((en2.set i (some d)).set j (some d2)) else .stuck
    | .exc x en' => .exc x en'
    | .stuck => .stuck
  | .exc x en' => .exc x en'
  | .stuck => .stuck
theorem cs_par (i j : Nat) {a c : Expr} {eb : En → R PyData} {px py pt : Pos} {kt k2 pt2} (hc : X.calm = true) (nd : X.N.Nodup) (ha : CE X M.b m W a ea) (hb : CE X M.b m W c eb)
    (hm : i < m.length := by decide) (hm2 : j < (m.set i false).length := by decide) (hi : (!M.b || i != 0) = true := by rfl) (hj : (!M.b || j != 0) = true := by rfl) (hx : wk m M.mx M.b = true := by rfl) (hN : X.N[i]? = some x := by rfl) (hN2 : X.N[j]? = some y := by rfl) (hij : i ≠ j := by decide)
    (hv : X.env.scope.names.lookup x = some .local := by rfl) (hv2 : X.env.scope.names.lookup y = some .local := by rfl)
    (hw : swappedStores [.Tuple [.Name x px, .Name y py] kt pt] (.Tuple [a, c] k2 pt2) X.env = pure (some [x, y]) := by rfl)
    (hs : swapsWithSole [.Tuple [.Name x px, .Name y py] kt pt] (.Tuple [a, c] k2 pt2) pos.line X.env = pure false := by rfl) (he : starEach [a, c] X.env = (false, eval a X.env) :: starEach [c] X.env := by rfl) (he2 : starEach [c] X.env = (false, eval c X.env) :: starEach [] X.env := by rfl) :
    CS X M m ((m.set i false).set j false) W (.Assign [.Tuple [.Name x px, .Name y py] kt pt] (.Tuple [a, c] k2 pt2) pos) (sPar i j ea eb) := (ps_par hc nd hN hN2 hij hv hv2 (pa_cons ha (pa_cons hb pa_nil he2) he) hw hs).imp fun D σ H h => by
  obtain ⟨f, Hs, en, r, h⟩ := h
  unfold sPar at h
  refine ⟨f, Hs, en, r, ?_⟩
  cases e : ea en with
  | ok d en1 =>
    rw [e] at h
    intro v1 H1 Hs1 r1 s1 p1
    refine ⟨f, Hs1, en1, r1, ?_⟩
    simp only at h
    cases e2 : eb en1 with
    | ok d2 en2 =>
      rw [e2] at h
      intro v2 H2 Hs2 r2 s2 p2
      simp only at h
      split at h
      · exact ⟨v1, v2, rfl, h _ H2 Hs2 ((r2.set hm hi (p1.mono s2)).set hm2 hj p2) (s1.trans s2)⟩
      · exact h.elim
    | exc x en' => rw [e2] at h; exact ContX.back (XcC.of rfl hx h) s1
    | stuck => rw [e2] at h; exact h
  | exc x en' => rw [e] at h; exact XcC.of rfl hx h
  | stuck => rw [e] at h; exact h
/-- name op= e -/
def sAug (i : Nat) (g : PyData → PyData → Option PyData) (ea : En → R PyData) : En → Out := fun en => match en[i]? with
  | some (some d0) => match ea en with
    | .ok d en' => match g d0 d with
      | some z => .nx (en'.set i (some z))
      | none => .stuck
    | .exc x en' => .exc x en'
    | .stuck => .stuck
  | _ => .stuck
theorem cs_aug (i : Nat) {op : Operator} {r : R2} {ge : PyData → PyData → Option PyData} (ho : PIp X op r) (hg : Op2 X.K X.mg r ge) (h : CE X M.b m W e ea) (nd : X.N.Nodup) (hm0 : ownAt m i = false := by rfl) (hm : i < m.length := by decide) (hi : (!M.b || i != 0) = true := by rfl) (hx : wk m M.mx M.b = true := by rfl) (hN : X.N[i]? = some x := by rfl) (hv : Loc X.env.scope x := by first | exact Or.inl rfl | exact Or.inr rfl) (hf : X.fn x = true ∨ X.env.scope.names.lookup x = some .local := by first | exact .inl rfl | exact .inr rfl | assumption) :
    CS X M m (m.set i false) W (.AugAssign (.Name x p) op e pos) (sAug i ge ea) := (ps_aug nd hN hv h ho hf).imp fun D σ H h => by
  obtain ⟨f, Hs, en, r, h⟩ := h
  unfold sAug at h
  cases e0 : en[i]? with
  | none => rw [e0] at h; exact h.elim
  | some o0 =>
    cases o0 with
    | none => rw [e0] at h; exact h.elim
    | some d0 =>
      rw [e0] at h
      obtain ⟨v0, k1, k2⟩ := r.sh i d0 hm0 e0
      refine ⟨v0, k1, f, Hs, en, r, ?_⟩
      simp only at h
      cases e : ea en with
      | ok d en' =>
        rw [e] at h
        intro v H' Hs' r' s' p'
        simp only at h
        cases e3 : ge d0 d with
        | none => rw [e3] at h; exact h.elim
        | some z =>
          rw [e3] at h
          refine hg M.b m f Hs' en' σ H' v0 v d0 d z _ r' (k2.mono s') p' e3 fun v2 H2 Hs2 r2 s2 p2 => ?_
          exact h _ H2 Hs2 (r2.set hm hi p2) (s'.trans s2)
      | exc x en' => rw [e] at h; exact XcC.of rfl hx h
      | stuck => rw [e] at h; exact h
theorem ip_of {op : Operator} {r : R2} (h : OpR X (inplaceOp op) r) : PIp X op r := fun pins s σ H x y v u Q I r1 r2 q => h pins s σ H x y v u Q I r1 r2 q
end
/-! ### what a loop walks -/
/-- heaps that grow by new shared objects -/
inductive Al : Hp → Hp → Hp → Hp → Prop
  | refl (Hs H : Hp) : Al Hs H Hs H
  | step {Hs H Hs' H' : Hp} {p : Addr} {o : HO} : Al Hs H Hs' H' → H' p = none → Al Hs H (upd Hs' p o) (upd H' p o)
section
variable {K : PySem.W.Frag} {mg : Str → Option Value} {b : Bool} {m : List Bool} {f : Fr} {Hs Hs' H H' : Hp} {en : En} {σ : L2.St}
theorem Rl.al (a : Al Hs H Hs' H') (r : Rl K mg b m f Hs en σ H) : Rl K mg b m f Hs' en σ H' ∧ Same Hs Hs' := by
  induction a with
  | refl => exact ⟨r, Same.refl _⟩
  | step a hp ih =>
    obtain ⟨r1, s1⟩ := ih
    obtain ⟨r2, s2⟩ := r1.alloc hp
    exact ⟨r2, s1.trans s2⟩
/-- J walks the items ds, from a heap whose shared part is Hs on -/
structure Wk (K : PySem.W.Frag) (mg : Str → Option Value) (Hs : Hp) (ds : List PyData) (J : It) : Prop where
  go : ∀ i Hs2 H2, Same Hs Hs2 → Same Hs2 H2 → i < ds.length → J.go i H2
  stop : ∀ Hs2 H2, Same Hs Hs2 → Same Hs2 H2 → J.stop ds.length H2
  yld : ∀ i Hs2 H2 x H3, Same Hs Hs2 → Same Hs2 H2 → i < ds.length → J.yld i H2 x H3 → ∃ d Hs3, ds[i]? = some d ∧ Al Hs2 H2 Hs3 H3 ∧ Rp K mg Hs3 x d
def tiv (K : PySem.W.Frag) (mg : Str → Option Value) (b : Bool) (m : List Bool) (W : WX) (ev : En → R (List PyData)) : TI := fun σ H Rr => ∃ f Hs en, Rl K mg b m f Hs en σ H ∧ match ev en with
  | .ok ds en' => ∀ J H' Hs', Rl K mg b m f Hs' en' σ H' → Same Hs Hs' → Wk K mg Hs' ds J → Rr J H'
  | .exc x en' => ContX K mg b m f Hs en' σ x W
  | .stuck => False
end
abbrev CI (X : Cx) (b : Bool) (m : List Bool) (W : WX) (tg e : Expr) (ev : En → R (List PyData)) : Prop := PI X tg e (tiv X.K X.mg b m W ev)
def forL (g : PyData → En → Option En) (body : En → Out) : List PyData → En → Out
  | [], en => .nx en
  | d :: ds, en => match g d en with
    | none => .stuck
    | some en1 => match body en1 with
      | .nx en2 => forL g body ds en2
      | .ct en2 => forL g body ds en2
      | .bk en2 => .nx en2
      | o => o
def sFor (ev : En → R (List PyData)) (g : PyData → En → Option En) (body : En → Out) : En → Out := fun en => match ev en with
  | .ok ds en' => forL g body ds en'
  | .exc x en' => .exc x en'
  | .stuck => .stuck
/-- a loop's own masks -/
abbrev Mk.loop (M : Mk) (m : List Bool) : Mk := { M with mb := m, mc := m }
section
variable {X : Cx} {M : Mk} {m mT : List Bool} {W : WX} {tg e : Expr} {ev : En → R (List PyData)} {g : PyData → En → Option En} {ts : List Nat} {body : En → Out} {st : List Stmt} {pos : Pos}
theorem cs_for (hp : PassesOwn (model X.prog X.w) X.A X.env X.xe) (hc : X.calm = true) (hi : CI X M.b m W tg e ev) (hg : CG X M.b m mT ts tg g) (hb : CSs X (M.loop m) mT m W st body) (hx : wk m M.mx M.b = true := by rfl)
    (hs : ∀ x, foldedSetIterable e X.env x = pure x := by intro _; rfl) : CS X M m m W (.For tg e st [] pos) (sFor ev g body) := (ps_for hp hc hi hg hb hs).imp fun D σ H h => by
  obtain ⟨f, Hs, en, r, h⟩ := h
  unfold sFor at h
  refine ⟨f, Hs, en, r, ?_⟩
  cases e1 : ev en with
  | exc x en' => rw [e1] at h; exact XcC.of rfl hx h
  | stuck => rw [e1] at h; exact h
  | ok ds en' =>
    rw [e1] at h
    intro J H1 Hs1 r1 s1 wk1
    refine ⟨fun i n σ2 H2 => n = ds.length - i ∧ i ≤ ds.length ∧ ∃ Hs2 en2, Rl X.K X.mg M.b m f Hs2 en2 σ2 H2 ∧ Same Hs1 Hs2 ∧ OutC X.K X.mg M W m f Hs2 (forL g body (ds.drop i) en2) D,
      ⟨ds.length, by simp, Nat.zero_le _, Hs1, en', r1, Same.refl _, by rw [List.drop_zero]; exact OutC.back h s1⟩, ?_⟩
    rintro i n σ2 H2 ⟨rfl, hle, Hs2, en2, r2, s2, o2⟩
    by_cases hlt : i < ds.length
    · refine .inr ⟨wk1.go i Hs2 H2 s2 r2.sub hlt, fun σ3 H3 => ∃ Hs3 en3, Rl X.K X.mg M.b m f Hs3 en3 σ3 H3 ∧ Same Hs1 Hs3 ∧ OutC X.K X.mg M W m f Hs3 (forL g body (ds.drop (i + 1)) en3) D,
        fun σ' H' ⟨Hs3, en3, q1, q2, q3⟩ => ⟨ds.length - (i + 1), by omega, rfl, hlt, Hs3, en3, q1, q2, q3⟩, fun x H3 y => ?_⟩
      obtain ⟨d, Hs3, ed, al, p3⟩ := wk1.yld i Hs2 H2 x H3 s2 r2.sub hlt y
      obtain ⟨r3, s3⟩ := r2.al al
      have edr : ds.drop i = d :: ds.drop (i + 1) := by
        obtain ⟨hl, e'⟩ := List.getElem?_eq_some_iff.mp ed
        rw [List.drop_eq_getElem_cons hl, e']
      rw [edr] at o2
      have o3 := OutC.back o2 s3
      unfold forL at o3
      refine ⟨f, Hs3, en2, d, r3, p3, ?_⟩
      cases e2 : g d en2 with
      | none => rw [e2] at o3; exact o3.elim
      | some en3 =>
        rw [e2] at o3
        intro σ4 H4 Hs4 r4 s4 _
        refine ⟨f, Hs4, en3, r4, ?_⟩
        have o4 := OutC.back o3 s4
        simp only at o4
        have s14 := (s2.trans s3).trans s4
        cases e3 : body en3 with
        | nx en4 => rw [e3] at o4; exact fun σ' H' Hs' r' s' => ⟨Hs', en4, r', s14.trans s', OutC.back o4 s'⟩
        | ct en4 => rw [e3] at o4; exact fun σ' H' Hs' r' s' => ⟨Hs', en4, r', s14.trans s', OutC.back o4 s'⟩
        | bk en4 => rw [e3] at o4; exact o4
        | rt d en4 => rw [e3] at o4; exact o4
        | exc x en4 => rw [e3] at o4; exact o4
        | stuck => rw [e3] at o4; exact o4
    · have ei : i = ds.length := by omega
      subst ei
      refine .inl ⟨wk1.stop Hs2 H2 s2 r2.sub, ?_⟩
      rw [List.drop_length] at o2
      exact o2 σ2 H2 Hs2 r2 (Same.refl _)
end
/-! while -/
def whileL (tt : En → R Bool) (body : En → Out) : Nat → En → Out
  | 0, _ => .stuck
  | n + 1, en => match tt en with
    | .ok false en1 => .nx en1
    | .ok true en1 => match body en1 with
      | .nx en2 => whileL tt body n en2
      | .ct en2 => whileL tt body n en2
      | .bk en2 => .nx en2
      | o => o
    | .exc x en1 => .exc x en1
    | .stuck => .stuck
/-- the fuel of a while -/
def fuel : Nat := 10 ^ 30
def sWhile (tt : En → R Bool) (body : En → Out) : En → Out := fun en => whileL tt body fuel en
section
variable {X : Cx} {M : Mk} {m : List Bool} {W : WX} {e : Expr} {tt : En → R Bool} {body : En → Out} {st : List Stmt} {pos : Pos}
theorem cs_while (hp : PassesOwn (model X.prog X.w) X.A X.env X.xe) (h : CT X M.b m W e tt) (hb : CSs X (M.loop m) m m W st body) (hx : wk m M.mx M.b = true := by rfl) : CS X M m m W (.While e st [] pos) (sWhile tt body) := (ps_while hp h hb).imp fun D σ H h => by
  obtain ⟨f, Hs, en, r, h⟩ := h
  refine ⟨fun n σ2 H2 => ∃ Hs2 en2, Rl X.K X.mg M.b m f Hs2 en2 σ2 H2 ∧ OutC X.K X.mg M W m f Hs2 (whileL tt body n en2) D, ⟨fuel, Hs, en, r, h⟩, ?_⟩
  rintro n σ2 H2 ⟨Hs2, en2, r2, o2⟩
  refine ⟨f, Hs2, en2, r2, ?_⟩
  cases n with
  | zero => exact o2.elim
  | succ n =>
    unfold whileL at o2
    cases e1 : tt en2 with
    | stuck => rw [e1] at o2; exact o2
    | exc x en' => rw [e1] at o2; exact XcC.of rfl hx o2
    | ok k en3 =>
      rw [e1] at o2
      intro H3 Hs3 r3 s3
      have o3 := OutC.back o2 s3
      cases k with
      | false => exact o3 σ2 H3 Hs3 r3 (Same.refl _)
      | true =>
        refine ⟨fun σ4 H4 => ∃ Hs4 en4, Rl X.K X.mg M.b m f Hs4 en4 σ4 H4 ∧ OutC X.K X.mg M W m f Hs4 (whileL tt body n en4) D, fun σ' H' q => ⟨n, Nat.lt_succ_self _, q⟩, f, Hs3, en3, r3, ?_⟩
        simp only at o3
        cases e3 : body en3 with
        | nx en4 => rw [e3] at o3; exact fun σ' H' Hs' r' s' => ⟨Hs', en4, r', OutC.back o3 s'⟩
        | ct en4 => rw [e3] at o3; exact fun σ' H' Hs' r' s' => ⟨Hs', en4, r', OutC.back o3 s'⟩
        | bk en4 => rw [e3] at o3; exact o3
        | rt d en4 => rw [e3] at o3; exact o3
        | exc x en4 => rw [e3] at o3; exact o3
        | stuck => rw [e3] at o3; exact o3
end
end VS

/-! VS8 -/
namespace VS
open PySem L2

/-! ### owned cells: changed, read -/
section
variable {K : PySem.W.Frag} {mg : Str → Option Value} {b : Bool} {m : List Bool} {f : Fr} {Hs Hs' H H' : Hp} {en : En} {σ : L2.St}
theorem Rl.put (r : Rl K mg b m f Hs en σ H) {j : Nat} {p : Addr} (hj : ownAt m j = true) {d d' : PyData} {o' : HO} (ej : en[j]? = some (some d)) (sj : σ[j]? = some (some (.ref p))) (ob : Ob K mg Hs o' d') (hl : b = true → j = 0 → ∃ l, d' = .list l) :
    Rl K mg b m f Hs (en.set j (some d')) σ (upd H p o') := by
  obtain ⟨pj, oj, k1, k2, k3, k4, k5⟩ := r.ow j d hj ej
  rw [sj] at k1
  cases k1
  refine ⟨fun c x e => ?_, r.base, r.ext, fun c x e ni => ?_, fun hb => ?_, r.nobag, by rw [List.length_set]; exact r.len, fun i e h1 h2 => ?_, fun i e h1 h2 => ?_, fun i i' e1 e2 q hne h1 h2 h3 h4 h5 h6 => ?_⟩
  · rw [upd_ne (ne_of_none e k3)]
    exact r.sub c x e
  · have hc : c ≠ p := fun z => by
      rw [z] at e ni
      exact ni (k4 x e)
    rw [upd_ne hc]
    exact r.keep c x e ni
  · obtain ⟨ho, a0, ds, q1, q2, q3⟩ := r.bag hb
    by_cases h0 : j = 0
    · subst h0
      obtain ⟨l, rfl⟩ := hl hb rfl
      exact ⟨ho, a0, l, q1, q2, getElem?_set_eq' ej⟩
    · exact ⟨ho, a0, ds, q1, q2, by rw [List.getElem?_set_ne h0]; exact q3⟩
  · have hij : j ≠ i := fun z => by rw [z] at hj; rw [hj] at h1; cases h1
    rw [List.getElem?_set_ne hij] at h2
    exact r.sh i e h1 h2
  · by_cases hij : j = i
    · subst hij
      rw [getElem?_set_eq' ej] at h2
      cases h2
      exact ⟨p, _, sj, upd_same, k3, k4, ob⟩
    · rw [List.getElem?_set_ne hij] at h2
      obtain ⟨q, o, e1, e2, e3, e4, e5⟩ := r.ow i e h1 h2
      have nq : q ≠ p := fun z => by
        rw [z] at e1
        exact r.dis j i _ _ p hij hj h1 ej h2 sj e1
      exact ⟨q, o, e1, by rw [upd_ne nq]; exact e2, e3, e4, e5⟩
  · have there : ∀ {k : Nat} {z : PyData}, (en.set j (some d'))[k]? = some (some z) → ∃ z', en[k]? = some (some z') := fun {k z} hk => by
      by_cases hjk : j = k
      · exact ⟨d, by rw [← hjk]; exact ej⟩
      · rw [List.getElem?_set_ne hjk] at hk
        exact ⟨z, hk⟩
    obtain ⟨z1, t1⟩ := there h3
    obtain ⟨z2, t2⟩ := there h4
    exact r.dis i i' z1 z2 q hne h1 h2 t1 t2 h5 h6
theorem Rl.lst (r : Rl K mg b m f Hs en σ H) {i : Nat} {l : List PyData} (hm : ownAt m i = true) (e : en[i]? = some (some (.list l))) :
    ∃ p us, σ[i]? = some (some (.ref p)) ∧ H p = some (.lst us) ∧ RpAll K mg Hs us l := by
  obtain ⟨p, o, k1, k2, k3, k4, k5⟩ := r.ow i _ hm e
  obtain ⟨us, rfl, k6⟩ := k5.lst_inv
  exact ⟨p, us, k1, k2, k6⟩
theorem Rl.putL (r : Rl K mg b m f Hs en σ H) {i : Nat} {l l' : List PyData} {p : Addr} {us' : List V} (hm : ownAt m i = true) (e : en[i]? = some (some (.list l))) (k1 : σ[i]? = some (some (.ref p))) (a : RpAll K mg Hs us' l') :
    Rl K mg b m f Hs (en.set i (some (.list l'))) σ (upd H p (.lst us')) := r.put hm e k1 (.lst a) fun _ _ => ⟨l', rfl⟩
end
/-- x.append(e) -/
def sApp (i : Nat) (ea : En → R PyData) : En → Out := fun en => match en[i]? with
  | some (some (.list _)) => match ea en with
    | .ok d en1 => match en1[i]? with
      | some (some (.list l)) => if l.length < 1000000 then .nx (en1.set i (some (.list (l ++ [d])))) else .stuck
      | _ => .stuck
    | .exc x en1 => .exc x en1
    | .stuck => .stuck
  | _ => .stuck
/-- x.extend(e), x owned, e a new list -/
def sExt (i : Nat) (ea : En → R PyData) : En → Out := fun en => match en[i]? with
  | some (some (.list _)) => match ea en with
    | .ok (.list d) en1 => match en1[i]? with
      | some (some (.list l)) => if l.length + d.length ≤ 1000000 then .nx (en1.set i (some (.list (l ++ d)))) else .stuck
      | _ => .stuck
    | .exc x en1 => .exc x en1
    | _ => .stuck
  | _ => .stuck
/-- x[k] = e -/
def sPut (i : Nat) (ek ea : En → R PyData) : En → Out := fun en => match ea en with
  | .ok d en1 => match en1[i]? with
    | some (some _) => match ek en1 with
      | .ok (.int k) en2 => match en2[i]? with
        | some (some (.list l)) => match ixN l.length k with
          | some j => .nx (en2.set i (some (.list (l.set j d))))
          | none => .stuck
        | _ => .stuck
      | .exc x en2 => .exc x en2
      | _ => .stuck
    | _ => .stuck
  | .exc x en1 => .exc x en1
  | .stuck => .stuck
/-- x[e], x an owned list -/
def eIxV (i : Nat) (eb : En → R PyData) : En → R PyData := fun en => match en[i]? with
  | some (some _) => (eb en).bind fun k en1 => match en1[i]?, k with
    | some (some (.list l)), .int j => R.ofO (atI l j) en1
    | _, _ => .stuck
  | _ => .stuck
/-- len(x), x an owned list -/
def eLenV (i : Nat) : En → R PyData := fun en => match en[i]? with
  | some (some (.list l)) => .ok (.int l.length) en
  | _ => .stuck
/-- x.pop() -/
def ePop (i : Nat) : En → R PyData := fun en => match en[i]? with
  | some (some (.list l)) => match l[l.length - 1]? with
    | some d => .ok d (en.set i (some (.list l.dropLast)))
    | none => .stuck
  | _ => .stuck
theorem RpAll.dropLast {K : PySem.W.Frag} {mg : Str → Option Value} {H : Hp} : ∀ {us : List V} {ds : List PyData}, RpAll K mg H us ds → RpAll K mg H us.dropLast ds.dropLast
  | _, _, .nil => .nil
  | _, _, .cons h .nil => .nil
  | _, _, .cons h (.cons h2 t) => .cons h (RpAll.dropLast (.cons h2 t))
section
variable {X : Cx} {M : Mk} {b : Bool} {m : List Bool} {W : WX} {e ek : Expr} {ea eb : En → R PyData} {pos p np apos cpos : Pos} {x : Str}
theorem cs_app (i : Nat) (h : CE X M.b m W e ea) (hm : ownAt m i = true := by rfl) (hx : wk m M.mx M.b = true := by rfl) (hN : X.N[i]? = some x := by rfl) (hv : Vis X.env.scope x := by first | exact Or.inl rfl | exact Or.inr (Or.inl rfl) | exact Or.inr (Or.inr rfl)) (hd : (x == ("__debug__" : Str)) = false := by decide) (hcd : (x == ("__classdict__" : Str)) = false := by decide)
    (hst : starEach (e :: []) X.env = (false, eval e X.env) :: starEach [] X.env := by rfl)
    (hsw : swapsWith (.Call (.Attribute (.Name x np) "append" apos) [e] [] cpos) none pos.line X.env = pure false := by rfl)
    (hbase : attributeBase (.Name x np) "append" X.env (eval (.Name x np) X.env) = eval (.Name x np) X.env := by rfl)
    (hfew : ((backTo cpos (starEach (e :: []) X.env)).all (fun x => !x.1) && (backToKw cpos (keywordEach [] X.env)).all (fun x => x.1.isSome)
      && decide ((e :: []).length + ([] : List Keyword).length + (if ([] : List Keyword).isEmpty then 0 else 1) < 30)) = true := by rfl)
    (hline : (apos.endLine == cpos.line) = true := by rfl) :
    CS X M m m W (.Expr (.Call (.Attribute (.Name x np) "append" apos) [e] [] cpos) pos) (sApp i ea) :=
  (ps_expr (pe_bm PySem.F.plainAttrs_list PySem.F.slot_list_append PySem.F.type_list_append mt_append (pv i hN hv hd hcd) (pa_cons h pa_nil hst) hbase hfew hline hst) hsw).imp fun D σ H h => by
    obtain ⟨f, Hs, en, r, h⟩ := h
    unfold sApp at h
    split at h
    · rename_i l0 e0
      obtain ⟨q, u0, k1, k2, _⟩ := r.lst hm e0
      refine ⟨.ref q, k1, .inl ⟨rfl, u0, .of k2⟩, f, Hs, en, r, ?_⟩
      split at h
      · rename_i d en1 e1
        try rw [e1]
        intro v H1 Hs1 r1 s1 p1
        split at h
        · rename_i l e2
          split at h
          · rename_i hlen
            obtain ⟨q2, us, j1, j2, j3⟩ := r1.lst hm e2
            rw [k1] at j1
            cases j1
            refine ⟨q, us, v, rfl, rfl, j2, ?_, ?_⟩
            · rw [j3.length]
              exact Nat.lt_of_lt_of_le hlen (by decide)
            · exact h σ _ Hs1 (r1.putL hm e2 k1 (j3.append (.cons p1 .nil))) s1
          · exact h.elim
        · exact h.elim
      · rename_i y en1 e1
        try rw [e1]
        exact XcC.of rfl hx h
      · exact h.elim
    · exact h.elim
theorem ce_ixV (i : Nat) {c : Expr} (hb : CE X b m W c eb) (hm : ownAt m i = true := by rfl) (hN : X.N[i]? = some x := by rfl) (hv : Vis X.env.scope x := by first | exact Or.inl rfl | exact Or.inr (Or.inl rfl) | exact Or.inr (Or.inr rfl)) (hd : (x == ("__debug__" : Str)) = false := by decide) (hcd : (x == ("__classdict__" : Str)) = false := by decide) (hs : PlainIx c := by exact fun _ _ => rfl) :
    CE X b m W (.Subscript (.Name x np) c pos) (eIxV i eb) := (pe_ix ix_list (pv i hN hv hd hcd) hb hs).imp fun σ H Q h => by
  obtain ⟨f, Hs, en, r, h⟩ := h
  unfold eIxV at h
  rcases e0 : en[i]? with _ | _ | d0
  · rw [e0] at h; exact h.elim
  · rw [e0] at h; exact h.elim
  · rw [e0] at h
    obtain ⟨q, u, k1, k2, k3, k4, k5⟩ := r.ow i d0 hm e0
    refine ⟨.ref q, k1, f, Hs, en, r, ?_⟩
    cases e1 : eb en with
    | stuck => simp only [e1, R.bind] at h
    | exc y en1 => simp only [e1, R.bind] at h; exact h
    | ok d en1 =>
      simp only [e1, R.bind] at h
      intro v H1 Hs1 r1 s1 p1
      have go : ∃ l j, en1[i]? = some (some (.list l)) ∧ d = .int j := by
        rcases e2 : en1[i]? with _ | _ | d2
        · rw [e2] at h; exact h.elim
        · rw [e2] at h; exact h.elim
        · rw [e2] at h
          cases d2 <;> cases d <;> first | exact ⟨_, _, rfl, rfl⟩ | exact h.elim
      obtain ⟨l, j, e2, rfl⟩ := go
      rw [e2] at h
      obtain ⟨q2, us, j1, j2, j3⟩ := r1.lst hm e2
      rw [k1] at j1
      cases j1
      cases e3 : atI l j with
      | none => simp only [e3, R.ofO] at h
      | some z =>
        simp only [e3, R.ofO] at h
        obtain ⟨w, q1, q2⟩ := at_rp j3 e3
        exact ⟨q, us, j, w, rfl, p1.int_inv, .of j2, q1, h w H1 Hs1 r1 s1 q2⟩
theorem ce_lenV (i : Nat) (hm : ownAt m i = true := by rfl) (hg : X.mg "len" = none := by rfl) (hN : X.N[i]? = some x := by rfl) (hv : Vis X.env.scope x := by first | exact Or.inl rfl | exact Or.inr (Or.inl rfl) | exact Or.inr (Or.inr rfl)) (hd : (x == ("__debug__" : Str)) = false := by decide) (hcd : (x == ("__classdict__" : Str)) = false := by decide) (gl : Gl X "len" := by rfl)
    (he : starEach (.Name x np :: []) X.env = (false, eval (.Name x np) X.env) :: starEach [] X.env := by rfl) (hpl : (backTo pos (starEach [] X.env)).any (·.1) = false := by rfl) :
    CE X b m W (.Call (.Name "len" p) [.Name x np] [] pos) (eLenV i) := (pe_callB call_len gl hg boot_len (pa_cons (pv i hN hv hd hcd) pa_nil he) (by decide) (by decide) he hpl).imp fun σ H Q h => by
  obtain ⟨f, Hs, en, r, h⟩ := h
  unfold eLenV at h
  have go : ∃ l, en[i]? = some (some (.list l)) := by
    rcases e2 : en[i]? with _ | _ | d2
    · rw [e2] at h; exact h.elim
    · rw [e2] at h; exact h.elim
    · rw [e2] at h
      cases d2 <;> first | exact ⟨_, rfl⟩ | exact h.elim
  obtain ⟨l, e0⟩ := go
  rw [e0] at h
  obtain ⟨q, us, k1, k2, k3⟩ := r.lst hm e0
  refine ⟨.ref q, k1, .ref q, l.length, rfl, .inl ⟨us, .of k2, k3.length.symm⟩, ?_⟩
  exact h _ H Hs r (Same.refl _) (.int _)
theorem ce_pop (i : Nat) (hm : ownAt m i = true := by rfl) (hN : X.N[i]? = some x := by rfl) (hv : Vis X.env.scope x := by first | exact Or.inl rfl | exact Or.inr (Or.inl rfl) | exact Or.inr (Or.inr rfl)) (hd : (x == ("__debug__" : Str)) = false := by decide) (hcd : (x == ("__classdict__" : Str)) = false := by decide)
    (hbase : attributeBase (.Name x np) "pop" X.env (eval (.Name x np) X.env) = eval (.Name x np) X.env := by rfl) (hline : (apos.endLine == cpos.line) = true := by rfl) :
    CE X b m W (.Call (.Attribute (.Name x np) "pop" apos) [] [] cpos) (ePop i) := (pe_bm0 PySem.F.plainAttrs_list PySem.F.slot_list_pop PySem.F.type_list_pop mt_pop (pv i hN hv hd hcd) hbase hline).imp fun σ H Q h => by
  obtain ⟨f, Hs, en, r, h⟩ := h
  unfold ePop at h
  have go : ∃ l, en[i]? = some (some (.list l)) := by
    rcases e2 : en[i]? with _ | _ | d2
    · rw [e2] at h; exact h.elim
    · rw [e2] at h; exact h.elim
    · rw [e2] at h
      cases d2 <;> first | exact ⟨_, rfl⟩ | exact h.elim
  obtain ⟨l, e0⟩ := go
  rw [e0] at h
  obtain ⟨q, us, k1, k2, k3⟩ := r.lst hm e0
  refine ⟨.ref q, k1, .inl ⟨rfl, us, .of k2⟩, ?_⟩
  cases e1 : l[l.length - 1]? with
  | none => simp only [e1] at h
  | some d =>
    simp only [e1] at h
    obtain ⟨v, q1, q2⟩ := k3.get e1
    refine ⟨q, us, v, rfl, rfl, k2, by rw [k3.length]; exact q1, ?_⟩
    exact h v _ Hs (r.putL hm e0 k1 k3.dropLast) (Same.refl _) q2
theorem cs_put (i : Nat) (hk : CE X M.b m W ek eb) (h : CE X M.b m W e ea) (hm : ownAt m i = true := by rfl) (hx : wk m M.mx M.b = true := by rfl) (hN : X.N[i]? = some x := by rfl) (hv : Vis X.env.scope x := by first | exact Or.inl rfl | exact Or.inr (Or.inl rfl) | exact Or.inr (Or.inr rfl)) (hd : (x == ("__debug__" : Str)) = false := by decide) (hcd : (x == ("__classdict__" : Str)) = false := by decide)
    (ha : ∀ v, assign (.Subscript (.Name x np) ek p) X.env v = (do
      let ov ← holding [v] (eval (.Name x np) X.env)
      let iv ← holding [v, ov] (eval ek X.env)
      standAt p
      holding [v, ov, iv] (setItem ov iv v)
      release [v, ov, iv] []) := by intro _; rfl)
    (hs : swapsWithSole [.Subscript (.Name x np) ek p] e pos.line X.env = pure false := by rfl) (hw : swappedStores [.Subscript (.Name x np) ek p] e X.env = pure none := by rfl)
    (h1 : (assignEach [.Subscript (.Name x np) ek p] X.env).map (·.2) = [assign (.Subscript (.Name x np) ek p) X.env] := by rfl) :
    CS X M m m W (.Assign [.Subscript (.Name x np) ek p] e pos) (sPut i eb ea) := (ps_asg h (pg_sub (pv i hN hv hd hcd) hk set_list ha) hs hw h1).imp fun D σ H h => by
  obtain ⟨f, Hs, en, r, h⟩ := h
  unfold sPut at h
  refine ⟨f, Hs, en, r, ?_⟩
  split at h
  · rename_i d en1 e1
    try rw [e1]
    intro v H1 Hs1 r1 s1 p1
    split at h
    · rename_i d0 e0
      obtain ⟨q, u, k1, k2, k3, k4, k5⟩ := r1.ow i d0 hm e0
      refine ⟨.ref q, k1, f, Hs1, en1, r1, ?_⟩
      split at h
      · rename_i k en2 e2
        try rw [e2]
        intro w H2 Hs2 r2 s2 p2
        split at h
        · rename_i l e3
          obtain ⟨q2, us, j1, j2, j3⟩ := r2.lst hm e3
          rw [k1] at j1
          cases j1
          split at h
          · rename_i j e4
            refine ⟨q, us, k, j, rfl, p2.int_inv, j2, by rw [j3.length]; exact e4, ?_⟩
            exact h σ _ Hs2 (r2.putL hm e3 k1 (j3.set (p1.mono s2) j)) (s1.trans s2)
          · exact h.elim
        · exact h.elim
      · rename_i y en2 e2
        try rw [e2]
        exact ContX.back (XcC.of rfl hx h) s1
      · exact h.elim
    · exact h.elim
  · rename_i y en1 e1
    try rw [e1]
    exact XcC.of rfl hx h
  · exact h.elim
end
end VS

/-! VS9 -/
namespace VS
open PySem

/-! ### a zip whose own pair is out, alive or not -/
abbrev ZpAt (hh : Heap) (zz TI TO : Addr) (a : Value) (ff : Bool) : Prop :=
  hh.get? zz = some { cls := .type "zip", dict := none, data := .fields #[a, .bool ff, .bool false, .ref TI, .ref TO], slots := #[] }
def Own0 (a : Value) : Prop := a = .none ∨ ∃ T : Addr, a = rawInt T
section
variable {prog : Program} {w : World} {A : Around} {E : Value → Shared → Prop} {s : Shared}
theorem zp_free {zz TI TO : Addr} {a : Value} {ff : Bool} {Q : Bool → Shared → Prop} (zE : ZpAt s.heap zz TI TO a ff) (oa : Own0 a)
    (h1 : Q true s) (h2 : ∀ hn T, a = rawInt T → ZpAt hn zz TI TO a true → Heap.SameBut zz s.heap hn → Q false { s with heap := hn }) : wpAny (model prog w) A (Builtin.SmallTypes.ownedTupleIsFree (.ref zz)) Q E s := by
  rcases oa with rfl | ⟨T, rfl⟩
  · unfold Builtin.SmallTypes.ownedTupleIsFree
    exact wpAny_bind (wpAny_field zE rfl (x := Value.none) rfl (wpAny_pure h1))
  · cases e : s.heap.get? T with
    | some oT => exact wpAny_tupleHeld_zip zE e fun hn q1 q2 => h2 hn T rfl q1 q2
    | none =>
      unfold Builtin.SmallTypes.ownedTupleIsFree
      refine wpAny_bind (wpAny_field zE rfl (x := (rawInt T : Value)) rfl ?_)
      show wpAny _ _ (loadIfAlive ((T : Int).toNat) >>= _) _ _ _
      rw [Int.toNat_natCast]
      have ld : ∀ {Q : Option Obj → Shared → Prop}, Q (s.heap.get? T) s → wpAny (model prog w) A (loadIfAlive T) Q E s := fun h => fun _ _ _ => h
      refine wpAny_bind (ld ?_)
      rw [e]
      exact wpAny_pure h1
theorem zp_item {zz TI TO j1 j2 m1 m2 : Addr} {a : Value} {ff : Bool} {k1 k2 : Nat} {xs ys : Array Value} {x y u v : Value} {Q : Value → Shared → Prop} (D : ZipApart zz TI TO j1 j2 m1 m2)
    (zE : ZpAt s.heap zz TI TO a ff) (oa : Own0 a) (eTI : IsPair s.heap TI (.ref j1) (.ref j2)) (eTO : IsPair s.heap TO u v)
    (g1 : s.heap.IsListIter j1 m1 k1) (g2 : s.heap.IsListIter j2 m2 k2) (gl1 : s.heap.IsList m1 xs) (gl2 : s.heap.IsList m2 ys) (ex : xs[k1]? = some x) (ey : ys[k2]? = some y)
    (q : ∀ hn a' ff', ZpAt hn zz TI TO a' ff' → Own0 a' → (∃ u' v', IsPair hn TO u' v') → hn.IsListIter j1 m1 (k1 + 1) → hn.IsListIter j2 m2 (k2 + 1) → IsPair hn s.heap.objs.size x y → hn.objs.size = s.heap.objs.size + 1 →
      (∀ c o, c ≠ zz → c ≠ TO → c ≠ j1 → c ≠ j2 → s.heap.get? c = some o → hn.get? c = some o) → Q (.ref s.heap.objs.size) { s with heap := hn }) :
    wpAny (model prog w) A (Builtin.«zip.__next__» ⟨[.ref zz], []⟩) (fun fin s' => ∃ v, fin = .done (.ret v) ∧ Q v s') E s := by
  show wpAny _ _ (field (.ref zz) 2 >>= _) _ _ _
  refine wpAny_bind (wpAny_field zE rfl (x := .bool false) rfl ?_)
  show wpAny _ _ (field (.ref zz) 3 >>= _) _ _ _
  refine wpAny_bind (wpAny_field zE rfl (x := .ref TI) rfl ?_)
  refine wpAny_bind (wpAny_seqItems eTI rfl ?_)
  show wpAny _ _ (Builtin.SmallTypes.ownedTupleIsFree (.ref zz) >>= _) _ _ _
  refine wpAny_bind (zp_free zE oa ?_ fun hn T ea zE1 sb1 => ?_)
  · simp only [if_true]
    refine wpAny_bind (wpAny_rule ?_)
    refine wpAny_bind (wpAny_field zE rfl (x := .ref TO) rfl ?_)
    refine wpAny_bind (wpAny_setField_rec zE (by simp) fun n1 zE1 sb1 => ?_)
    replace zE1 : ZpAt n1 zz TI TO .ellipsis ff := zE1
    refine wpAny_bind ?_
    simp only [List.zipIdx_cons, List.zipIdx_nil, List.forIn_cons, List.forIn_nil]
    refine wpAny_bind (wpAny_bind (wpAny_onRaise ?_))
    show wpAny _ _ (Builtin.SmallTypes.nextOf (.ref j1) >>= _) _ _ _
    refine wpAny_bind (wpAny_nextOf_list_item (g1.extBut sb1.extBut D.i1z) (gl1.extBut sb1.extBut D.l1z) ex fun n2 g1n sb2 => wpAny_pure ?_)
    have eTO2 : IsPair n2 TO u v := sb2.extBut _ _ D.TOi1 (sb1.extBut _ _ D.TOz eTO)
    refine wpAny_bind (wpAny_seqItems eTO2 rfl ?_)
    refine wpAny_bind (wpAny_updateSeq_pair eTO2 fun n3 eTO3 sb3 => ?_)
    replace eTO3 : IsPair n3 TO x v := eTO3
    refine wpAny_bind (wpAny_letGo (wpAny_pure ?_))
    refine wpAny_bind (wpAny_bind (wpAny_onRaise ?_))
    show wpAny _ _ (Builtin.SmallTypes.nextOf (.ref j2) >>= _) _ _ _
    refine wpAny_bind (wpAny_nextOf_list_item (((g2.extBut sb1.extBut D.i2z).extBut sb2.extBut D.i12.symm).extBut sb3.extBut D.TOi2.symm)
      (((gl2.extBut sb1.extBut D.l2z).extBut sb2.extBut D.l2i1).extBut sb3.extBut D.l2TO) ey fun n4 g2n sb4 => wpAny_pure ?_)
    have eTO4 : IsPair n4 TO x v := sb4.extBut _ _ D.TOi2 eTO3
    refine wpAny_bind (wpAny_seqItems eTO4 rfl ?_)
    refine wpAny_bind (wpAny_updateSeq_pair eTO4 fun n5 eTO5 sb5 => ?_)
    replace eTO5 : IsPair n5 TO x y := eTO5
    refine wpAny_bind (wpAny_letGo (wpAny_pure (wpAny_pure ?_)))
    refine wpAny_bind (wpAny_seqItems eTO5 rfl ?_)
    refine wpAny_bind (wpAny_newTuple ?_)
    have sz : n5.objs.size = s.heap.objs.size := by rw [sb5.1, sb4.1, sb3.1, sb2.1, sb1.1]
    have zE5 : ZpAt n5 zz TI TO .ellipsis ff := sb5.extBut _ _ D.TOz.symm (sb4.extBut _ _ D.i2z.symm (sb3.extBut _ _ D.TOz.symm (sb2.extBut _ _ D.i1z.symm zE1)))
    have kp : ∀ c o, c ≠ zz → c ≠ TO → c ≠ j1 → c ≠ j2 → s.heap.get? c = some o → n5.get? c = some o := fun c o c1 c2 c3 c4 e =>
      sb5.extBut _ _ c2 (sb4.extBut _ _ c4 (sb3.extBut _ _ c2 (sb2.extBut _ _ c3 (sb1.extBut _ _ c1 e))))
    have g15 : n5.IsListIter j1 m1 (k1 + 1) := ((g1n.extBut sb3.extBut D.TOi1.symm).extBut sb4.extBut D.i12).extBut sb5.extBut D.TOi1.symm
    have g25 : n5.IsListIter j2 m2 (k2 + 1) := g2n.extBut sb5.extBut D.TOi2.symm
    have zlt : zz < n5.objs.size := Heap.lt_size zE5
    show wpAny _ _ (Builtin.SmallTypes.ownedTupleHandOut (.ref zz) (.ref n5.objs.size) >>= _) _ _ _
    refine wpAny_bind ?_
    unfold Builtin.SmallTypes.ownedTupleHandOut
    have zE6 : ZpAt (n5.push { cls := .type "tuple", data := .seq #[x, y] }) zz TI TO .ellipsis ff := Heap.get?_push_of_some _ zE5
    refine wpAny_bind (wpAny_setField_rec zE6 (by simp) fun n7 zE7 sb7 => ?_)
    replace zE7 : ZpAt n7 zz TI TO (rawInt n5.objs.size) ff := zE7
    refine wpAny_setField_rec zE7 (by simp) fun n8 zE8 sb8 => ?_
    replace zE8 : ZpAt n8 zz TI TO (rawInt n5.objs.size) false := zE8
    have up : ∀ c o, c ≠ zz → n5.get? c = some o → n8.get? c = some o := fun c o c1 e => sb8.extBut _ _ c1 (sb7.extBut _ _ c1 (Heap.get?_push_of_some _ e))
    have eT8 : IsPair n8 n5.objs.size x y := sb8.extBut _ _ (Nat.ne_of_gt zlt) (sb7.extBut _ _ (Nat.ne_of_gt zlt) (Heap.get?_push_size _ rfl))
    have sz8 : n8.objs.size = n5.objs.size + 1 := by rw [sb8.1, sb7.1, Heap.size_push]
    rw [sz] at zE8 eT8 sz8
    refine wpAny_pure ⟨_, rfl, ?_⟩
    show Q (.ref n5.objs.size) _
    rw [sz]
    exact q n8 _ _ zE8 (.inr ⟨_, rfl⟩) ⟨x, y, up _ _ D.TOz eTO5⟩ (g15.at fun o e => up _ o D.i1z e) (g25.at fun o e => up _ o D.i2z e) eT8 sz8 fun c o c1 c2 c3 c4 e => up c o c1 (kp c o c1 c2 c3 c4 e)
  · simp only [Bool.false_eq_true, if_false]
    refine wpAny_bind ?_
    rw [← Array.forIn_toList]
    simp only [List.forIn_cons, List.forIn_nil]
    refine wpAny_bind (wpAny_bind (wpAny_holding ?_))
    show wpAny _ _ (Builtin.SmallTypes.nextOf (.ref j1) >>= _) _ _ _
    refine wpAny_bind (wpAny_nextOf_list_item (s := { s with heap := hn }) (g1.extBut sb1.extBut D.i1z) (gl1.extBut sb1.extBut D.l1z) ex fun n2 g1n sb2 => wpAny_pure ?_)
    refine wpAny_pure ?_
    refine wpAny_bind (wpAny_bind (wpAny_holding ?_))
    show wpAny _ _ (Builtin.SmallTypes.nextOf (.ref j2) >>= _) _ _ _
    refine wpAny_bind (wpAny_nextOf_list_item (s := { s with heap := n2 }) ((g2.extBut sb1.extBut D.i2z).extBut sb2.extBut D.i12.symm) ((gl2.extBut sb1.extBut D.l2z).extBut sb2.extBut D.l2i1) ey fun n3 g2n sb3 => wpAny_pure ?_)
    refine wpAny_pure (wpAny_pure ?_)
    show wpAny _ _ (newTuple [x, y] >>= _) _ _ _
    refine wpAny_bind (wpAny_newTuple ?_)
    have sz : n3.objs.size = s.heap.objs.size := by rw [sb3.1, sb2.1, sb1.1]
    have zE3 : ZpAt n3 zz TI TO a true := sb3.extBut _ _ D.i2z.symm (sb2.extBut _ _ D.i1z.symm zE1)
    have kp : ∀ c o, c ≠ zz → c ≠ j1 → c ≠ j2 → s.heap.get? c = some o → n3.get? c = some o := fun c o c1 c2 c3 e => sb3.extBut _ _ c3 (sb2.extBut _ _ c2 (sb1.extBut _ _ c1 e))
    have g13 : n3.IsListIter j1 m1 (k1 + 1) := g1n.extBut sb3.extBut D.i12
    refine wpAny_pure ⟨_, rfl, ?_⟩
    show Q (.ref n3.objs.size) _
    have eP : IsPair (n3.push { cls := .type "tuple", data := .seq #[x, y] }) n3.objs.size x y := Heap.get?_push_size _ rfl
    have sz4 : (n3.push { cls := .type "tuple", data := .seq #[x, y] }).objs.size = n3.objs.size + 1 := Heap.size_push ..
    rw [sz] at eP sz4 ⊢
    exact q _ _ _ (Heap.get?_push_of_some _ zE3) oa ⟨u, v, Heap.get?_push_of_some _ (kp _ _ D.TOz D.TOi1 D.TOi2 eTO)⟩ (g13.at fun o e => Heap.get?_push_of_some _ e) (g2n.at fun o e => Heap.get?_push_of_some _ e) eP sz4
      fun c o c1 c2 c3 c4 e => Heap.get?_push_of_some _ (kp c o c1 c3 c4 e)
theorem zp_end {zz TI TO j1 j2 m1 m2 : Addr} {a : Value} {ff : Bool} {k1 k2 : Nat} {xs ys : Array Value} {u v : Value} {Q : Fin → Shared → Prop} (nh : A.handled = none) (D : ZipApart zz TI TO j1 j2 m1 m2)
    (zE : ZpAt s.heap zz TI TO a ff) (oa : Own0 a) (eTI : IsPair s.heap TI (.ref j1) (.ref j2)) (eTO : IsPair s.heap TO u v)
    (g1 : s.heap.IsListIter j1 m1 k1) (g2 : s.heap.IsListIter j2 m2 k2) (gl1 : s.heap.IsList m1 xs) (gl2 : s.heap.IsList m2 ys) (en : xs[k1]? = none ∨ ys[k2]? = none)
    (q : ∀ hn e, (∀ c o, c ≠ zz → c ≠ TO → c ≠ j1 → c ≠ j2 → s.heap.get? c = some o → hn.get? c = some o) → (∃ o, hn.get? e = some o ∧ o.cls = .type "StopIteration") → E (.ref e) { s with heap := hn }) :
    wpAny (model prog w) A (Builtin.«zip.__next__» ⟨[.ref zz], []⟩) Q E s := by
  show wpAny _ _ (field (.ref zz) 2 >>= _) _ _ _
  refine wpAny_bind (wpAny_field zE rfl (x := .bool false) rfl ?_)
  show wpAny _ _ (field (.ref zz) 3 >>= _) _ _ _
  refine wpAny_bind (wpAny_field zE rfl (x := .ref TI) rfl ?_)
  refine wpAny_bind (wpAny_seqItems eTI rfl ?_)
  show wpAny _ _ (Builtin.SmallTypes.ownedTupleIsFree (.ref zz) >>= _) _ _ _
  refine wpAny_bind (zp_free zE oa ?_ fun hn T ea zE1 sb1 => ?_)
  · simp only [if_true]
    refine wpAny_bind (wpAny_rule ?_)
    refine wpAny_bind (wpAny_field zE rfl (x := .ref TO) rfl ?_)
    refine wpAny_bind (wpAny_setField_rec zE (by simp) fun n1 zE1 sb1 => ?_)
    replace zE1 : ZpAt n1 zz TI TO .ellipsis ff := zE1
    refine wpAny_bind ?_
    simp only [List.zipIdx_cons, List.zipIdx_nil, List.forIn_cons, List.forIn_nil]
    refine wpAny_bind (wpAny_bind (wpAny_onRaise ?_))
    show wpAny _ _ (Builtin.SmallTypes.nextOf (.ref j1) >>= _) _ _ _
    cases ex : xs[k1]? with
    | none =>
      refine wpAny_bind (wpAny_nextOf_list_end nh (g1.extBut sb1.extBut D.i1z) (gl1.extBut sb1.extBut D.l1z) ex fun n2 e sb2 ee => ?_)
      obtain ⟨oe, he1, he2⟩ := ee
      have zE2 : ZpAt n2 zz TI TO .ellipsis ff := sb2 _ _ D.i1z.symm zE1
      have ne : e ≠ zz := fun x => by subst x; rw [zE2] at he1; cases he1; simp at he2
      refine wpAny_setField_rec zE2 (by simp) fun n3 _ sb3 => ?_
      exact q n3 e (fun c o c1 c2 c3 c4 x => sb3.extBut _ _ c1 (sb2 _ _ c3 (sb1.extBut _ _ c1 x))) ⟨oe, sb3.extBut _ _ ne he1, he2⟩
    | some x =>
      have ey : ys[k2]? = none := by rcases en with h | h; rw [ex] at h; cases h; exact h
      refine wpAny_bind (wpAny_nextOf_list_item (g1.extBut sb1.extBut D.i1z) (gl1.extBut sb1.extBut D.l1z) ex fun n2 g1n sb2 => wpAny_pure ?_)
      have eTO2 : IsPair n2 TO u v := sb2.extBut _ _ D.TOi1 (sb1.extBut _ _ D.TOz eTO)
      refine wpAny_bind (wpAny_seqItems eTO2 rfl ?_)
      refine wpAny_bind (wpAny_updateSeq_pair eTO2 fun n3 eTO3 sb3 => ?_)
      replace eTO3 : IsPair n3 TO x v := eTO3
      refine wpAny_bind (wpAny_letGo (wpAny_pure ?_))
      refine wpAny_bind (wpAny_bind (wpAny_onRaise ?_))
      show wpAny _ _ (Builtin.SmallTypes.nextOf (.ref j2) >>= _) _ _ _
      refine wpAny_bind (wpAny_nextOf_list_end nh (((g2.extBut sb1.extBut D.i2z).extBut sb2.extBut D.i12.symm).extBut sb3.extBut D.TOi2.symm)
        (((gl2.extBut sb1.extBut D.l2z).extBut sb2.extBut D.l2i1).extBut sb3.extBut D.l2TO) ey fun n4 e sb4 ee => ?_)
      obtain ⟨oe, he1, he2⟩ := ee
      have zE4 : ZpAt n4 zz TI TO .ellipsis ff := sb4 _ _ D.i2z.symm (sb3.extBut _ _ D.TOz.symm (sb2.extBut _ _ D.i1z.symm zE1))
      have ne : e ≠ zz := fun x => by subst x; rw [zE4] at he1; cases he1; simp at he2
      refine wpAny_setField_rec zE4 (by simp) fun n5 _ sb5 => ?_
      exact q n5 e (fun c o c1 c2 c3 c4 x => sb5.extBut _ _ c1 (sb4 _ _ c4 (sb3.extBut _ _ c2 (sb2.extBut _ _ c3 (sb1.extBut _ _ c1 x))))) ⟨oe, sb5.extBut _ _ ne he1, he2⟩
  · simp only [Bool.false_eq_true, if_false]
    refine wpAny_bind ?_
    rw [← Array.forIn_toList]
    simp only [List.forIn_cons, List.forIn_nil]
    refine wpAny_bind (wpAny_bind (wpAny_holding ?_))
    show wpAny _ _ (Builtin.SmallTypes.nextOf (.ref j1) >>= _) _ _ _
    cases ex : xs[k1]? with
    | none =>
      refine wpAny_bind (wpAny_nextOf_list_end (s := { s with heap := hn }) nh (g1.extBut sb1.extBut D.i1z) (gl1.extBut sb1.extBut D.l1z) ex fun n2 e sb2 ee => ?_)
      exact q n2 e (fun c o c1 c2 c3 c4 x => sb2 _ _ c3 (sb1.extBut _ _ c1 x)) ee
    | some x =>
      have ey : ys[k2]? = none := by rcases en with h | h; rw [ex] at h; cases h; exact h
      refine wpAny_bind (wpAny_nextOf_list_item (s := { s with heap := hn }) (g1.extBut sb1.extBut D.i1z) (gl1.extBut sb1.extBut D.l1z) ex fun n2 g1n sb2 => wpAny_pure ?_)
      refine wpAny_pure ?_
      refine wpAny_bind (wpAny_bind (wpAny_holding ?_))
      show wpAny _ _ (Builtin.SmallTypes.nextOf (.ref j2) >>= _) _ _ _
      refine wpAny_bind (wpAny_nextOf_list_end (s := { s with heap := n2 }) nh ((g2.extBut sb1.extBut D.i2z).extBut sb2.extBut D.i12.symm) ((gl2.extBut sb1.extBut D.l2z).extBut sb2.extBut D.l2i1) ey fun n3 e sb3 ee => ?_)
      exact q n3 e (fun c o c1 c2 c3 c4 x => sb3 _ _ c4 (sb2.extBut _ _ c3 (sb1.extBut _ _ c1 x))) ee
theorem zp_nextOf {zz TI TO j1 j2 m1 m2 : Addr} {a : Value} {ff : Bool} {k1 k2 : Nat} {xs ys : Array Value} {x y u v : Value} {Q : Value → Shared → Prop} (D : ZipApart zz TI TO j1 j2 m1 m2)
    (zE : ZpAt s.heap zz TI TO a ff) (oa : Own0 a) (eTI : IsPair s.heap TI (.ref j1) (.ref j2)) (eTO : IsPair s.heap TO u v)
    (g1 : s.heap.IsListIter j1 m1 k1) (g2 : s.heap.IsListIter j2 m2 k2) (gl1 : s.heap.IsList m1 xs) (gl2 : s.heap.IsList m2 ys) (ex : xs[k1]? = some x) (ey : ys[k2]? = some y)
    (q : ∀ hn a' ff', ZpAt hn zz TI TO a' ff' → Own0 a' → (∃ u' v', IsPair hn TO u' v') → hn.IsListIter j1 m1 (k1 + 1) → hn.IsListIter j2 m2 (k2 + 1) → IsPair hn s.heap.objs.size x y → hn.objs.size = s.heap.objs.size + 1 →
      (∀ c o, c ≠ zz → c ≠ TO → c ≠ j1 → c ≠ j2 → s.heap.get? c = some o → hn.get? c = some o) → Q (.ref s.heap.objs.size) { s with heap := hn }) :
    wpAny (model prog w) A (Builtin.SmallTypes.nextOf (.ref zz)) Q E s := by
  have tz : s.TypeIs (.ref zz) "zip" := ⟨_, zE, rfl⟩
  unfold Builtin.SmallTypes.nextOf
  exact wpAny_bind (wpAny_callSpecial?_slot (name := Str.ofString "__next__") tz F.slot_zip_next
    (wpAny_call_entry F.slot_zip_next tz F.entry_zip_next (zp_item D zE oa eTI eTO g1 g2 gl1 gl2 ex ey fun hn a' ff' p1 p2 p3 p4 p5 p6 p7 p8 => wpAny_pure (q hn a' ff' p1 p2 p3 p4 p5 p6 p7 p8)) (F.args_zip_next_1 _)))
theorem zp_nextEnd {zz TI TO j1 j2 m1 m2 : Addr} {a : Value} {ff : Bool} {k1 k2 : Nat} {xs ys : Array Value} {u v : Value} {Q : Value → Shared → Prop} (nh : A.handled = none) (D : ZipApart zz TI TO j1 j2 m1 m2)
    (zE : ZpAt s.heap zz TI TO a ff) (oa : Own0 a) (eTI : IsPair s.heap TI (.ref j1) (.ref j2)) (eTO : IsPair s.heap TO u v)
    (g1 : s.heap.IsListIter j1 m1 k1) (g2 : s.heap.IsListIter j2 m2 k2) (gl1 : s.heap.IsList m1 xs) (gl2 : s.heap.IsList m2 ys) (en : xs[k1]? = none ∨ ys[k2]? = none)
    (q : ∀ hn e, (∀ c o, c ≠ zz → c ≠ TO → c ≠ j1 → c ≠ j2 → s.heap.get? c = some o → hn.get? c = some o) → (∃ o, hn.get? e = some o ∧ o.cls = .type "StopIteration") → E (.ref e) { s with heap := hn }) :
    wpAny (model prog w) A (Builtin.SmallTypes.nextOf (.ref zz)) Q E s := by
  have tz : s.TypeIs (.ref zz) "zip" := ⟨_, zE, rfl⟩
  unfold Builtin.SmallTypes.nextOf
  exact wpAny_bind (wpAny_callSpecial?_slot (name := Str.ofString "__next__") tz F.slot_zip_next
    (wpAny_call_entry F.slot_zip_next tz F.entry_zip_next (zp_end nh D zE oa eTI eTO g1 g2 gl1 gl2 en q) (F.args_zip_next_1 _)))
/-- what turns in enumerate(zip(a, b)) -/
structure EzSep (ee zz TI TO j1 j2 m1 m2 : Addr) : Prop where
  D : ZipApart zz TI TO j1 j2 m1 m2
  ez : ee ≠ zz
  eTI : ee ≠ TI
  eTO : ee ≠ TO
  e1 : ee ≠ j1
  e2 : ee ≠ j2
  em1 : ee ≠ m1
  em2 : ee ≠ m2
def EzSt (ee zz TI TO j1 j2 m1 m2 : Addr) (i : Nat) (hh : Heap) : Prop :=
  (∃ old, IsEnum hh ee zz (i : Int) old) ∧ (∃ a ff, ZpAt hh zz TI TO a ff ∧ Own0 a) ∧ IsPair hh TI (.ref j1) (.ref j2) ∧ (∃ u v, IsPair hh TO u v) ∧ hh.IsListIter j1 m1 i ∧ hh.IsListIter j2 m2 i
theorem ez_item {ee zz TI TO j1 j2 m1 m2 : Addr} {i : Nat} {xs ys : Array Value} {x y : Value} {Q : Value → Shared → Prop} (S : EzSep ee zz TI TO j1 j2 m1 m2) (st : EzSt ee zz TI TO j1 j2 m1 m2 i s.heap)
    (gl1 : s.heap.IsList m1 xs) (gl2 : s.heap.IsList m2 ys) (ex : xs[i]? = some x) (ey : ys[i]? = some y)
    (q : ∀ hn tk, IsEnumOut hn ee zz ((i : Int) + 1) (.ref s.heap.objs.size) (s.heap.objs.size + 1) → (∃ a ff, ZpAt hn zz TI TO a ff ∧ Own0 a) → IsPair hn TI (.ref j1) (.ref j2) → (∃ u v, IsPair hn TO u v) → hn.IsListIter j1 m1 (i + 1) → hn.IsListIter j2 m2 (i + 1) →
      IsPair hn s.heap.objs.size x y → hn.get? (s.heap.objs.size + 1) = some { cls := .type "tuple", data := .seq #[.int i tk, .ref s.heap.objs.size] } → hn.objs.size = s.heap.objs.size + 2 →
      (∀ c o, c ≠ ee → c ≠ zz → c ≠ TO → c ≠ j1 → c ≠ j2 → s.heap.get? c = some o → hn.get? c = some o) → Q (.ref (s.heap.objs.size + 1)) { s with heap := hn, toks := tk + 1 }) :
    wpAny (model prog w) A (Builtin.«enumerate.__next__» ⟨[.ref ee], []⟩) (fun fin s' => ∃ v, fin = .done (.ret v) ∧ Q v s') E s := by
  obtain ⟨⟨old, eE⟩, ⟨a, ff, zE, oa⟩, eTI, ⟨u, v, eTO⟩, g1, g2⟩ := st
  obtain ⟨h0, g, d, tk, os⟩ := s
  show wpAny _ _ (field (.ref ee) 2 >>= _) _ _ _
  refine wpAny_bind (wpAny_field eE rfl (x := .ref zz) rfl ?_)
  refine wpAny_bind (zp_nextOf S.D zE oa eTI eTO g1 g2 gl1 gl2 ex ey fun n1 a1 f1 zE1 oa1 eTO1 g11 g21 eP sz1 kp1 => ?_)
  have eE1 : IsEnum n1 ee zz i old := kp1 _ _ S.ez S.eTO S.e1 S.e2 eE
  have eTI1 : IsPair n1 TI (.ref j1) (.ref j2) := kp1 _ _ S.D.TIz S.D.TITO S.D.TIi1 S.D.TIi2 eTI
  obtain ⟨u1, v1, eTO1⟩ := eTO1
  show wpAny _ _ (field (.ref ee) 3 >>= _) _ _ ⟨n1, g, d, tk, os⟩
  refine wpAny_bind (wpAny_field eE1 rfl (x := rawInt i) rfl ?_)
  show wpAny _ _ (field (.ref ee) 4 >>= _) _ _ ⟨n1, g, d, tk, os⟩
  refine wpAny_bind (wpAny_field eE1 rfl (x := .none) rfl ?_)
  show wpAny _ _ (mkInt i >>= _) _ _ ⟨n1, g, d, tk, os⟩
  refine wpAny_bind (wpAny_mkInt ?_)
  show wpAny _ _ (setField (.ref ee) 3 (rawInt ((i : Int) + 1)) >>= _) _ _ ⟨n1, g, d, tk + 1, os⟩
  refine wpAny_bind (wpAny_setField_rec eE1 (by simp) fun n2 eE2 sb2 => ?_)
  replace eE2 : IsEnum n2 ee zz ((i : Int) + 1) old := eE2
  replace sb2 : Heap.SameBut ee n1 n2 := sb2
  show wpAny _ _ (setField (.ref ee) 4 .none >>= _) _ _ ⟨n2, g, d, tk + 1, os⟩
  refine wpAny_bind (wpAny_setField_rec eE2 (by simp) fun n3 eE3 sb3 => ?_)
  replace eE3 : IsEnum n3 ee zz ((i : Int) + 1) old := eE3
  replace sb3 : Heap.SameBut ee n2 n3 := sb3
  show wpAny _ _ (newTuple [.int i tk, .ref h0.objs.size] >>= _) _ _ ⟨n3, g, d, tk + 1, os⟩
  refine wpAny_bind (wpAny_newTuple ?_)
  have sz3 : n3.objs.size = h0.objs.size + 1 := by rw [sb3.1, sb2.1, sz1]
  have el : ee < h0.objs.size := Heap.lt_size eE
  rw [sz3]
  have eE4 : IsEnum (n3.push { cls := .type "tuple", data := .seq #[.int i tk, .ref h0.objs.size] }) ee zz ((i : Int) + 1) old := Heap.get?_push_of_some _ eE3
  have eT4 : (n3.push { cls := .type "tuple", data := .seq #[.int i tk, .ref h0.objs.size] }).get? (h0.objs.size + 1) = some { cls := .type "tuple", data := .seq #[.int i tk, .ref h0.objs.size] } := by rw [← sz3]; exact Heap.get?_push_size _ rfl
  have sz4 : (n3.push { cls := .type "tuple", data := .seq #[.int i tk, .ref h0.objs.size] }).objs.size = h0.objs.size + 2 := by rw [Heap.size_push, sz3]
  have kp4 : ∀ c o, c ≠ ee → n1.get? c = some o → (n3.push { cls := .type "tuple", data := .seq #[.int i tk, .ref h0.objs.size] }).get? c = some o := fun c o hc e => Heap.get?_push_of_some _ (sb3.extBut c o hc (sb2.extBut c o hc e))
  generalize n3.push { cls := .type "tuple", data := .seq #[.int i tk, .ref h0.objs.size] } = n4 at eE4 eT4 sz4 kp4
  show wpAny _ _ (Builtin.SmallTypes.ownedTupleIsFree (.ref ee) >>= _) _ _ ⟨n4, g, d, tk + 1, os⟩
  refine wpAny_bind ?_
  unfold Builtin.SmallTypes.ownedTupleIsFree
  refine wpAny_bind (wpAny_field eE4 rfl (x := .none) rfl (wpAny_pure ?_))
  simp only [if_true]
  refine wpAny_bind (wpAny_rule ?_)
  refine wpAny_bind (wpAny_field eE4 rfl (x := old) rfl ?_)
  refine wpAny_bind (wpAny_setField_rec eE4 (by simp) fun n5 eE5 sb5 => ?_)
  replace eE5 : IsEnum n5 ee zz ((i : Int) + 1) (.ref h0.objs.size) := eE5
  replace sb5 : Heap.SameBut ee n4 n5 := sb5
  show wpAny _ _ (Builtin.SmallTypes.ownedTupleHandOut (.ref ee) (.ref (h0.objs.size + 1)) >>= _) _ _ ⟨n5, g, d, tk + 1, os⟩
  refine wpAny_bind ?_
  unfold Builtin.SmallTypes.ownedTupleHandOut
  refine wpAny_bind (wpAny_setField_rec eE5 (by simp) fun n6 eE6 sb6 => ?_)
  replace eE6 : IsEnumOut n6 ee zz ((i : Int) + 1) (.ref h0.objs.size) (h0.objs.size + 1) := eE6
  replace sb6 : Heap.SameBut ee n5 n6 := sb6
  refine wpAny_setField_rec eE6 (by simp) fun n7 eE7 sb7 => ?_
  replace eE7 : IsEnumOut n7 ee zz ((i : Int) + 1) (.ref h0.objs.size) (h0.objs.size + 1) := eE7
  replace sb7 : Heap.SameBut ee n6 n7 := sb7
  have up4 : ∀ c o, c ≠ ee → n4.get? c = some o → n7.get? c = some o := fun c o hc e => sb7.extBut c o hc (sb6.extBut c o hc (sb5.extBut c o hc e))
  have up : ∀ c o, c ≠ ee → n1.get? c = some o → n7.get? c = some o := fun c o hc e => up4 c o hc (kp4 c o hc e)
  refine wpAny_bind (wpAny_letGo (wpAny_pure ⟨_, rfl, q n7 tk eE7 ⟨a1, f1, up _ _ S.ez.symm zE1, oa1⟩ (up _ _ S.eTI.symm eTI1) ⟨u1, v1, up _ _ S.eTO.symm eTO1⟩ (g11.at fun o e => up _ o S.e1.symm e) (g21.at fun o e => up _ o S.e2.symm e) ?_ ?_ ?_ fun c o c0 c1 c2 c3 c4 e => up c o c0 (kp1 c o c1 c2 c3 c4 e)⟩))
  · exact up _ _ (Nat.ne_of_gt el) eP
  · exact up4 _ _ (Nat.ne_of_gt (Nat.lt_succ_of_lt el)) eT4
  · rw [sb7.1, sb6.1, sb5.1, sz4]
theorem ez_next {ee zz TI TO j1 j2 m1 m2 : Addr} {i : Nat} {xs ys : Array Value} {x y : Value} {Q : Option Value → Shared → Prop} (S : EzSep ee zz TI TO j1 j2 m1 m2) (st : EzSt ee zz TI TO j1 j2 m1 m2 i s.heap)
    (gl1 : s.heap.IsList m1 xs) (gl2 : s.heap.IsList m2 ys) (ex : xs[i]? = some x) (ey : ys[i]? = some y)
    (q : ∀ hn tk, IsEnumOut hn ee zz ((i : Int) + 1) (.ref s.heap.objs.size) (s.heap.objs.size + 1) → (∃ a ff, ZpAt hn zz TI TO a ff ∧ Own0 a) → IsPair hn TI (.ref j1) (.ref j2) → (∃ u v, IsPair hn TO u v) → hn.IsListIter j1 m1 (i + 1) → hn.IsListIter j2 m2 (i + 1) →
      IsPair hn s.heap.objs.size x y → hn.get? (s.heap.objs.size + 1) = some { cls := .type "tuple", data := .seq #[.int i tk, .ref s.heap.objs.size] } → hn.objs.size = s.heap.objs.size + 2 →
      (∀ c o, c ≠ ee → c ≠ zz → c ≠ TO → c ≠ j1 → c ≠ j2 → s.heap.get? c = some o → hn.get? c = some o) → Q (some (.ref (s.heap.objs.size + 1))) { s with heap := hn, toks := tk + 1 }) :
    wpAny (model prog w) A (pyNext (.ref ee)) Q E s := by
  obtain ⟨old, eE⟩ := st.1
  have te : s.TypeIs (.ref ee) "enumerate" := ⟨_, eE, rfl⟩
  unfold pyNext
  exact wpAny_bind (wpAny_attempt (wpAny_callSpecial?_slot (name := Str.ofString "__next__") te F.slot_enumerate_next
    (wpAny_call_entry F.slot_enumerate_next te F.entry_enumerate_next
      (ez_item S st gl1 gl2 ex ey fun hn tk p1 p2 p3 p4 p5 p6 p7 p8 p9 p10 => wpAny_pure (q hn tk p1 p2 p3 p4 p5 p6 p7 p8 p9 p10)) (F.args_enumerate_next_1 _))))
theorem ez_stop {ee zz TI TO j1 j2 m1 m2 : Addr} {i : Nat} {xs ys : Array Value} {Q : Option Value → Shared → Prop} (nh : A.handled = none) (S : EzSep ee zz TI TO j1 j2 m1 m2) (st : EzSt ee zz TI TO j1 j2 m1 m2 i s.heap)
    (gl1 : s.heap.IsList m1 xs) (gl2 : s.heap.IsList m2 ys) (en : xs[i]? = none ∨ ys[i]? = none)
    (q : ∀ hn, (∀ c o, c ≠ zz → c ≠ TO → c ≠ j1 → c ≠ j2 → s.heap.get? c = some o → hn.get? c = some o) → Q none { s with heap := hn }) :
    wpAny (model prog w) A (pyNext (.ref ee)) Q E s := by
  obtain ⟨⟨old, eE⟩, ⟨a, ff, zE, oa⟩, eTI, ⟨u, v, eTO⟩, g1, g2⟩ := st
  have te : s.TypeIs (.ref ee) "enumerate" := ⟨_, eE, rfl⟩
  unfold pyNext
  refine wpAny_bind (wpAny_attempt (wpAny_callSpecial?_slot (name := Str.ofString "__next__") te F.slot_enumerate_next
    (wpAny_call_entry F.slot_enumerate_next te F.entry_enumerate_next ?_ (F.args_enumerate_next_1 _))))
  show wpAny _ _ (field (.ref ee) 2 >>= _) _ _ _
  refine wpAny_bind (wpAny_field eE rfl (x := .ref zz) rfl ?_)
  refine wpAny_bind (zp_nextEnd nh S.D zE oa eTI eTO g1 g2 gl1 gl2 en fun hn x kp he => ?_)
  obtain ⟨o, ho, hc⟩ := he
  refine wpAny_bind (wpAny_isInstance (T := "StopIteration") (b := true) ⟨o, ho, hc⟩ isSubtype_stop ?_)
  exact wpAny_pure (q _ kp)
end
end VS

/-! VS10 -/
namespace VS
open PySem PySem.Spec L2
open PyProof.Rows (Call_ boot_enumerate)

/-- enumerate(v) where iter(v) is told -/
theorem meets_en {v : Value} (fh : Heap → Heap) (ai : Heap → Addr) {Hp0 : Heap → Prop}
    (hq : ∀ (prog : Program) (w : World) (A : Around) (E : Value → Shared → Prop) (s : Shared) (Q : Value → Shared → Prop), Hp0 s.heap → Q (.ref (ai s.heap)) { s with heap := fh s.heap } → wpAny (model prog w) A (pyIter v) Q E s) :
    Meets (Builtin.«enumerate.__new__» ⟨[.type "enumerate", v], []⟩) (fun _ R s => Hp0 s.heap ∧
      R (.ok (.ret (.ref (fh s.heap).objs.size))) { s with heap := (fh s.heap).push { cls := .type "enumerate", data := .fields #[.none, .bool false, .ref (ai s.heap), rawInt 0, .none, .none] } }) :=
  .of_wp fun prog w A R s h => by
    obtain ⟨h0, g, d, tk, os⟩ := s
    obtain ⟨h1, h⟩ := h
    have hsub := sub_enumerate
    have q1 : ∀ {A' : Around} {E : Value → Shared → Prop} {Q : Value → Shared → Prop}, Q (.ref (ai h0)) ⟨fh h0, g, d, tk, os⟩ → wpAny (model prog w) A' (pyIter v) Q E ⟨h0, g, d, tk, os⟩ :=
      fun q => hq prog w _ _ ⟨h0, g, d, tk, os⟩ _ h1 q
    wp_walk using q1
    refine wpAny_stack_any fun st => wpAny_pure ?_
    split
    · rename_i c _ _ _ _ _
      cases (c == Value.type "enumerate")
      · wp_walk using q1
        exact ⟨_, rfl, h⟩
      · wp_walk using q1
        exact ⟨_, rfl, h⟩
    · wp_walk using q1
      exact ⟨_, rfl, h⟩
theorem call_en {prog : Program} {w : World} {A : Around} {E : Value → Shared → Prop} {s : Shared} {v : Value} (fh : Heap → Heap) (ai : Heap → Addr) {Hp0 : Heap → Prop} {Q : Value → Shared → Prop}
    (hq : ∀ (prog : Program) (w : World) (A : Around) (E : Value → Shared → Prop) (s : Shared) (Q : Value → Shared → Prop), Hp0 s.heap → Q (.ref (ai s.heap)) { s with heap := fh s.heap } → wpAny (model prog w) A (pyIter v) Q E s)
    (h0 : Hp0 s.heap) (h : ∀ hn, IsEnum hn (fh s.heap).objs.size (ai s.heap) 0 .none → hn.objs.size = (fh s.heap).objs.size + 1 → (∀ b o, (fh s.heap).get? b = some o → hn.get? b = some o) → Q (.ref (fh s.heap).objs.size) { s with heap := hn }) :
    wpAny (model prog w) A (call (.type "enumerate") [v]) Q E s := by
  refine callType_new F.called_enumerate (by decide) (F.typeCall_enumerate_1 _) (F.newCall_enumerate_1 _) (fun obj => F.args_object_init_2 obj _) F.entry_enumerate_new (meets_en fh ai hq) ⟨h0, ?_⟩
  have he : IsEnum ((fh s.heap).push { cls := .type "enumerate", data := .fields #[.none, .bool false, .ref (ai s.heap), rawInt 0, .none, .none] }) (fh s.heap).objs.size (ai s.heap) 0 .none := Heap.get?_push_size _ rfl
  exact ⟨⟨_, he, rfl⟩, h _ he (by rw [Heap.size_push]) fun b o x => Heap.get?_push_of_some _ x⟩

/-! ### enumerate(zip(list, list)) -/
def Itez (K : PySem.W.Frag) (a b : Addr) : It :=
  ⟨fun i H => ∃ (xs ys : List V) (x y : V), SqL K H a xs ∧ SqL K H b ys ∧ xs[i]? = some x ∧ ys[i]? = some y,
    fun i H v H' => ∃ T T2 x y, v = .ref T2 ∧ H T = none ∧ upd H T (.tup [x, y]) T2 = none ∧ H' = upd (upd H T (.tup [x, y])) T2 (.tup [.int (i : Nat), .ref T]) ∧ (∀ xs, SqL K H a xs → xs[i]? = some x) ∧ ∀ ys, SqL K H b ys → ys[i]? = some y,
    fun i H => ∃ xs ys : List V, SqL K H a xs ∧ SqL K H b ys ∧ (xs.length ≤ i ∨ ys.length ≤ i)⟩
theorem turn_ez {P : Program} {w : World} {K : PySem.W.Frag} {elts : List Expr} {kk : Nat} {tpos : Pos} {ee zz TI TO j1 j2 a b : Addr} (S : EzSep ee zz TI TO j1 j2 a b) :
    Turn P w K (.Tuple elts kk tpos) (Itez K a b) [ee, zz, TI, TO, j1, j2] ee (fun i h => EzSt ee zz TI TO j1 j2 a b i h) where
  mem := by simp
  obj := fun i h st c hc => by
    obtain ⟨⟨old, h0⟩, ⟨q, f, h1, _⟩, h2, ⟨x, y, h3⟩, ⟨o1, e1, _, d1⟩, ⟨o2, e2, _, d2⟩⟩ := st
    have e' : c = ee ∨ c = zz ∨ c = TI ∨ c = TO ∨ c = j1 ∨ c = j2 := by simpa using hc
    rcases e' with z | z | z | z | z | z
    · rw [z]; exact ⟨_, h0, fun v q => nomatch q⟩
    · rw [z]; exact ⟨_, h1, fun v q => nomatch q⟩
    · rw [z]; exact ⟨_, h2, fun v q => nomatch q⟩
    · rw [z]; exact ⟨_, h3, fun v q => nomatch q⟩
    · rw [z]; exact ⟨o1, e1, fun v q => by rw [d1] at q; cases q⟩
    · rw [z]; exact ⟨o2, e2, fun v q => by rw [d2] at q; cases q⟩
  keep := fun i h h' st k => by
    obtain ⟨⟨old, h0⟩, ⟨q, f, h1, oa⟩, h2, ⟨x, y, h3⟩, h4, h5⟩ := st
    exact ⟨⟨old, k ee (by simp) _ h0⟩, ⟨q, f, k zz (by simp) _ h1, oa⟩, k TI (by simp) _ h2, ⟨x, y, k TO (by simp) _ h3⟩, h4.at fun o q => k j1 (by simp) o q, h5.at fun o q => k j2 (by simp) o q⟩
  item := by
    intro X hP hw hK hc i pins s σ H E I hf st hg
    subst hP hw hK
    obtain ⟨xs, ys, x, y, hqx, hqy, hx, hy⟩ := hg
    obtain ⟨its, rv, p, _⟩ := I.list hqx
    obtain ⟨its2, rv2, p2, _⟩ := I.list hqy
    obtain ⟨u, hu, ru⟩ := rv.get hx
    obtain ⟨u2, hu2, ru2⟩ := rv2.get hy
    have lts : ∀ c ∈ [ee, zz, TI, TO, j1, j2], c < s.heap.objs.size := fun c hcm => by
      obtain ⟨⟨old, h0⟩, ⟨q, f, h1, oa⟩, h2, ⟨x, y, h3⟩, h4, h5⟩ := st
      have e' : c = ee ∨ c = zz ∨ c = TI ∨ c = TO ∨ c = j1 ∨ c = j2 := by simpa using hcm
      rcases e' with z | z | z | z | z | z
      · rw [z]; exact Heap.lt_size h0
      · rw [z]; exact Heap.lt_size h1
      · rw [z]; exact Heap.lt_size h2
      · rw [z]; exact Heap.lt_size h3
      · rw [z]; obtain ⟨_, e1, _⟩ := h4; exact Heap.lt_size e1
      · rw [z]; obtain ⟨_, e2, _⟩ := h5; exact Heap.lt_size e2
    refine ez_next S st p.isList p2.isList (x := u) (y := u2) (by simpa using hu) (by simpa using hu2) fun hn tk p1 p2 p3 p4 p5 p6 p7 p8 p9 kp => ?_
    refine ⟨_, rfl, wpAny_letOwnedTupleGo_enum (s := { s with heap := hn, toks := tk + 1 }) p1 fun h2 e2 sb => ?_⟩
    have ne1 : s.heap.objs.size ≠ ee := Nat.ne_of_gt (lts ee (by simp))
    have ne2 : s.heap.objs.size + 1 ≠ ee := Nat.ne_of_gt (Nat.lt_succ_of_lt (lts ee (by simp)))
    have eT : h2.get? s.heap.objs.size = some { cls := .type "tuple", data := .seq #[u, u2] } := (sb.2 _ ne1).trans p7
    have eT2 : h2.get? (s.heap.objs.size + 1) = some { cls := .type "tuple", data := .seq #[.int i tk, .ref s.heap.objs.size] } := (sb.2 _ ne2).trans p8
    have I1 : Inv X pins σ (upd H s.heap.objs.size (.tup [x, y])) { s with heap := s.heap.push { cls := .type "tuple", data := .seq #[u, u2] } } :=
      I.laid (t' := s.toks) (fun _ _ q => Heap.get?_push_of_some _ q) (Nat.le_refl _) ⟨by show 2 ≤ sizeLine; decide, [u, u2], .cons ru (.cons ru2 .nil), ⟨_, Heap.get?_push_size _ rfl, rfl, _, rfl⟩⟩
    have hz1 : (s.heap.push { cls := .type "tuple", data := .seq #[u, u2] }).objs.size = s.heap.objs.size + 1 := Heap.size_push ..
    have hf1 : ∀ b ∈ [ee, zz, TI, TO, j1, j2], FpOk X pins (upd H s.heap.objs.size (.tup [x, y])) b := fun b hb => by
      obtain ⟨q1, q2⟩ := hf b hb
      exact ⟨by rw [upd_ne (Nat.ne_of_lt (lts b hb))]; exact q1, q2⟩
    have I2 : Inv X pins σ (upd (upd H s.heap.objs.size (.tup [x, y])) (s.heap.objs.size + 1) (.tup [.int (i : Nat), .ref s.heap.objs.size])) { s with heap := h2, toks := tk + 1 } := by
      refine I1.turnedNew (t' := tk + 1) (ch := [ee, zz, TI, TO, j1, j2]) (fun b ob hb q => ?_) hf1 (Nat.le_of_eq hz1) ⟨by show 2 ≤ sizeLine; decide, [.int i tk, .ref s.heap.objs.size], .cons ⟨_, rfl⟩ (.cons rfl .nil), ⟨_, eT2, rfl, _, rfl⟩⟩
      by_cases hbT : b = s.heap.objs.size
      · subst hbT
        have q' : some _ = some ob := (Heap.get?_push_size s.heap (o := { cls := .type "tuple", data := .seq #[u, u2] }) rfl).symm.trans q
        exact eT.trans q'
      · have q3 : s.heap.get? b = some ob := by
          have := Heap.get?_push_ne s.heap b { cls := .type "tuple", data := .seq #[u, u2] } hbT
          rw [← this]; exact q
        exact (sb.2 b (fun z => hb (by simp [z]))).trans (kp b ob (fun z => hb (by simp [z])) (fun z => hb (by simp [z])) (fun z => hb (by simp [z])) (fun z => hb (by simp [z])) (fun z => hb (by simp [z])) q3)
    have fr2 : upd H s.heap.objs.size (.tup [x, y]) (s.heap.objs.size + 1) = none := by
      rw [upd_ne (Nat.succ_ne_self _)]
      exact I.hok.fresh (Nat.le_succ _)
    refine ⟨.ref (s.heap.objs.size + 1), _, I2, rfl, ⟨_, _, x, y, rfl, I.hok.fresh (Nat.le_refl _), fr2, rfl, fun l hl => by rw [I.list_inj hl hqx]; exact hx, fun l hl => by rw [I.list_inj hl hqy]; exact hy⟩, ?_, fun c hcm => ?_⟩
    · obtain ⟨qa, qf, qz, qo⟩ := p2
      obtain ⟨qu, qv, qt⟩ := p4
      refine ⟨⟨.ref s.heap.objs.size, ?_⟩, ⟨qa, qf, (sb.2 _ S.ez.symm).trans qz, qo⟩, (sb.2 _ S.eTI.symm).trans p3, ⟨qu, qv, (sb.2 _ S.eTO.symm).trans qt⟩, p5.at fun o q => (sb.2 _ S.e1.symm).trans q, p6.at fun o q => (sb.2 _ S.e2.symm).trans q⟩
      have e1 : ((i + 1 : Nat) : Int) = (i : Int) + 1 := by omega
      rw [e1]; exact e2
    · have hl := lts c hcm
      rw [upd_ne (Nat.ne_of_lt (Nat.lt_succ_of_lt hl)), upd_ne (Nat.ne_of_lt hl)]
      exact (hf c hcm).1
  done := by
    intro X hP hw hK hc i pins s σ H E I hf st hg
    subst hP hw hK
    obtain ⟨xs, ys, hqx, hqy, hend⟩ := hg
    obtain ⟨its, rv, p, _⟩ := I.list hqx
    obtain ⟨its2, rv2, p2, _⟩ := I.list hqy
    have l1 := rv.length
    have l2 := rv2.length
    have he : its.toArray[i]? = none ∨ its2.toArray[i]? = none := by
      rcases hend with q | q
      · exact .inl (by simp; omega)
      · exact .inr (by simp; omega)
    exact ez_stop (I.ok.hd hc) S st p.isList p2.isList he fun hn kp => ⟨rfl, I.turnedL (t' := s.toks) (ch := [ee, zz, TI, TO, j1, j2]) (fun c o hb q =>
      kp c o (fun q' => hb (by simp [q'])) (fun q' => hb (by simp [q'])) (fun q' => hb (by simp [q'])) (fun q' => hb (by simp [q'])) q) hf⟩
  self := fun A i s Q E st h => let ⟨⟨_, he⟩, _⟩ := st; wpAny_pyIter_enum he h
def iEz (K : PySem.W.Frag) (ta : TA) : TI := fun σ H R => ta σ H fun vs H1 => ∃ a b xs ys, vs = [.ref a, .ref b] ∧ SqL K H1 a xs ∧ SqL K H1 b ys ∧ R (Itez K a b) H1
theorem pi_ez {X : Cx} {e e2 : Expr} {ta : TA} {p pos p2 pos2 tpos : Pos} {elts : List Expr} {kk : Nat} (gle : Gl X "enumerate") (gme : X.mg "enumerate" = none) (glz : Gl X "zip") (gmz : X.mg "zip" = none) (ha : PA X [e, e2] ta)
    (hs : starEach [e, e2] X.env = (false, eval e X.env) :: starEach [e2] X.env := by rfl) (hpl : (backTo pos2 (starEach [e2] X.env)).any (·.1) = false := by rfl)
    (hs1 : starEach [.Call (.Name "zip" p2) [e, e2] [] pos2] X.env = (false, eval (.Call (.Name "zip" p2) [e, e2] [] pos2) X.env) :: starEach [] X.env := by rfl) (hpl1 : (backTo pos (starEach [] X.env)).any (·.1) = false := by rfl) :
    PI X (.Tuple elts kk tpos) (.Call (.Name "enumerate" p) [.Call (.Name "zip" p2) [e, e2] [] pos2] [] pos) (iEz X.K ta) := by
  refine ⟨fun pins s σ H R I h => ?_⟩
  refine Call_ (ld_blt I gle gme boot_enumerate (PyProof.Rows.callWith_type1 ?_ hs1 hpl1))
  rw [hs1]
  refine Calls.spliced_cons ?_
  refine Call_ (ld_blt I glz gmz PyProof.Rows.boot_zip (PyProof.Rows.callWith_type1 (thn (ha.run pos2 pins s σ H _ I h) fun us s1 ⟨vs, H1, I1, r1, q1⟩ => ?_) hs hpl))
  obtain ⟨a, b, xs, ys, ex, hqx, hqy, q⟩ := q1
  subst ex
  cases r1 with
  | cons r rr =>
    cases rr with
    | cons r' rr =>
      cases rr
      cases r
      cases r'
      obtain ⟨its, rv, p1, _⟩ := I1.list hqx
      obtain ⟨its2, rv2, p2, _⟩ := I1.list hqy
      have la : a < s1.heap.objs.size := p1.lt
      have lb : b < s1.heap.objs.size := p2.lt
      refine call_zip_2 p1.isList p2.isList fun hn hz hTI hTO h1 h2 hsz hk => ?_
      have I2 : Inv X pins σ H1 { s1 with heap := hn } := I1.kept (t' := s1.toks) hk
      refine wpAny_pure ?_
      refine call_en (s := { s1 with heap := hn }) (v := .ref (s1.heap.objs.size + 4)) (fun h => h) (fun _ => s1.heap.objs.size + 4) (Hp0 := fun h => IsZip h (s1.heap.objs.size + 4) (s1.heap.objs.size + 2) (s1.heap.objs.size + 3) .none) (fun prog w A E s Q z q => wpAny_pyIter_zip z q) hz fun h3 he3 hz3 hk3 => ?_
      replace he3 : IsEnum h3 hn.objs.size (s1.heap.objs.size + 4) 0 .none := he3
      replace hk3 : ∀ b o, hn.get? b = some o → h3.get? b = some o := hk3
      have I3 : Inv X pins σ H1 { s1 with heap := h3 } := I2.kept (t' := s1.toks) hk3
      rw [hsz] at he3
      refine wpAny_pyIter_enum (e := hn.objs.size) (by rw [hsz]; exact he3) ?_
      rw [hsz]
      have nz : ∀ i j : Nat, i ≠ j → s1.heap.objs.size + i ≠ s1.heap.objs.size + j := fun i j h e => h (Nat.add_left_cancel e)
      have S : EzSep (s1.heap.objs.size + 5) (s1.heap.objs.size + 4) (s1.heap.objs.size + 2) (s1.heap.objs.size + 3) s1.heap.objs.size (s1.heap.objs.size + 1) a b :=
        
        ⟨PySem.W.ktu_apart s1.heap.objs.size a b la lb, nz 5 4 (by decide), nz 5 2 (by decide), nz 5 3 (by decide), nz 5 0 (by decide), nz 5 1 (by decide), Nat.ne_of_gt (Nat.lt_of_lt_of_le la (Nat.le_add_right _ _)), Nat.ne_of_gt (Nat.lt_of_lt_of_le lb (Nat.le_add_right _ _))⟩
      refine ⟨s1.heap.objs.size + 5, _, _, _, H1, rfl, I3, turn_ez S, ⟨⟨.none, he3⟩, ⟨_, _, hk3 _ _ hz, .inl rfl⟩, hk3 _ _ hTI, ⟨_, _, hk3 _ _ hTO⟩, h1.at fun o q => hk3 _ o q, h2.at fun o q => hk3 _ o q⟩, fun c hcm => ?_, q⟩
      have e' : c = s1.heap.objs.size + 5 ∨ c = s1.heap.objs.size + 4 ∨ c = s1.heap.objs.size + 2 ∨ c = s1.heap.objs.size + 3 ∨ c = s1.heap.objs.size ∨ c = s1.heap.objs.size + 1 := by simpa using hcm
      have hle : s1.heap.objs.size ≤ c := by
        rcases e' with z | z | z | z | z | z
        · rw [z]; exact Nat.le_add_right _ _
        · rw [z]; exact Nat.le_add_right _ _
        · rw [z]; exact Nat.le_add_right _ _
        · rw [z]; exact Nat.le_add_right _ _
        · rw [z]; exact Nat.le_refl _
        · rw [z]; exact Nat.le_add_right _ _
      exact I1.fpOk hle (I1.hok.fresh hle)
end VS

/-! VS11 -/
namespace VS
open PySem PySem.Spec L2
open PyProof.Rows (Call_ boot_enumerate)

/-! ### what can be gone through: lists, tuples, texts -/
inductive Kd where
  | l
  | t
  | s
def txV (x : Str) : List V := x.cps.toList.map fun c => V.str ⟨#[c]⟩
def SqKd (K : PySem.W.Frag) : Kd → Hp → V → List V → Prop
  | .l, H, v, xs => ∃ a, v = .ref a ∧ SqL K H a xs
  | .t, H, v, xs => ∃ a, v = .ref a ∧ SqT K H a xs
  | .s, _, v, xs => ∃ x, v = .str x ∧ xs = txV x
def ItKd (tok : Tok) : Kd → V → Addr → Nat → Heap → Prop
  | .l, v, it, i, h => ∃ a, v = .ref a ∧ h.IsListIter it a i
  | .t, v, it, i, h => ∃ a, v = .ref a ∧ h.IsTupleIter it a i
  | .s, v, it, i, h => ∃ x, v = .str x ∧ h.IsStrIter it (strIterType x) x tok i
theorem ItKd.live {tok : Tok} {kd : Kd} {v : V} {it : Addr} {i : Nat} {h : Heap} (z : ItKd tok kd v it i h) : ∃ o, h.get? it = some o ∧ ∀ v, o.data ≠ .cell v := by
  cases kd with
  | l => obtain ⟨a, _, o, e, _, d⟩ := z; exact ⟨o, e, fun v q => by rw [d] at q; cases q⟩
  | t => obtain ⟨a, _, o, e, _, d⟩ := z; exact ⟨o, e, fun v q => by rw [d] at q; cases q⟩
  | s => obtain ⟨a, _, o, e, _, d⟩ := z; exact ⟨o, e, fun v q => by rw [d] at q; cases q⟩
theorem ItKd.keep {tok : Tok} {kd : Kd} {v : V} {it : Addr} {i : Nat} {h h' : Heap} (z : ItKd tok kd v it i h) (k : ∀ o, h.get? it = some o → h'.get? it = some o) : ItKd tok kd v it i h' := by
  cases kd with
  | l => obtain ⟨a, e0, z⟩ := z; exact ⟨a, e0, z.at k⟩
  | t => obtain ⟨a, e0, z⟩ := z; exact ⟨a, e0, z.at k⟩
  | s => obtain ⟨a, e0, o, e, r⟩ := z; exact ⟨a, e0, o, k o e, r⟩
theorem draws_mono {prog : Program} {w : World} {A : Around} {it : Addr} {fp : List Addr} {n n' : Nat} {P P' : Nat → Value → Prop} {St : Nat → Heap → Prop} (D : Draws prog w A it fp n P St) (hn : n = n') (h : ∀ i u, P i u → P' i u) : Draws prog w A it fp n' P' St := by
  subst hn
  exact ⟨D.live, D.frame, fun i s Q E hi st q => D.item i s Q E hi st fun x h' tk p st' sb => q x h' tk (h i x p) st' sb, D.done⟩
theorem vals_at {xs : List V} {its : List Value} (r : Vals xs its) {i : Nat} {u : Value} (h : its.toArray[i]? = some u) : ∃ x, xs[i]? = some x ∧ RelV x u := by
  have hl := r.length
  have h' : its[i]? = some u := by simpa using h
  obtain ⟨hi, e⟩ := List.getElem?_eq_some_iff.mp h'
  have hx : i < xs.length := by omega
  obtain ⟨u', q1, q2⟩ := r.get (i := i) (x := xs[i]) (by simp [hx])
  rw [h'] at q1
  cases q1
  exact ⟨_, by simp [hx], q2⟩
section
variable {X : Cx} {pins : List (Addr × Obj)} {σ : L2.St} {H : Hp} {s : Shared} {kd : Kd} {v : V} {xs : List V} {tok : Tok}
theorem SqKd.lt (I : Inv X pins σ H s) (h : SqKd X.K kd H v xs) : ∀ a, v = .ref a → a < s.heap.objs.size := fun a e => by
  subst e
  cases kd with
  | l => obtain ⟨b, e, h⟩ := h; cases e; obtain ⟨its, rv, p, _⟩ := I.list h; exact p.lt
  | t => obtain ⟨b, e, h⟩ := h; cases e; obtain ⟨its, rv, p, _⟩ := I.tuple h; obtain ⟨o, e, _⟩ := p; exact Heap.lt_size e
  | s => obtain ⟨b, e, h⟩ := h; cases e
theorem SqKd.inj (I : Inv X pins σ H s) {ys : List V} (h : SqKd X.K kd H v xs) (h' : SqKd X.K kd H v ys) : xs = ys := by
  cases kd with
  | l => obtain ⟨b, e, h⟩ := h; obtain ⟨b', e', h'⟩ := h'; subst e; cases e'; exact I.list_inj h h'
  | t => obtain ⟨b, e, h⟩ := h; obtain ⟨b', e', h'⟩ := h'; subst e; cases e'; exact I.tuple_inj h h'
  | s => obtain ⟨b, e, h⟩ := h; obtain ⟨b', e', h'⟩ := h'; subst e; cases e'; rw [h, h']
theorem draws_kd (I : Inv X pins σ H s) (hc : X.calm = true) (h : SqKd X.K kd H v xs) (it : Addr) (ap : ∀ a, v = .ref a → a ≠ it) :
    ∃ (fp : List Addr) (S : Nat → Heap → Prop), Draws X.prog X.w X.A.in1 it fp xs.length (fun i u => ∃ x, xs[i]? = some x ∧ RelV x u) S ∧ it ∈ fp ∧ (∀ b ∈ fp, b = it ∨ v = .ref b) ∧ (∀ i, ItKd tok kd v it i s.heap → S i s.heap) ∧ (∀ i h, S i h → ItKd tok kd v it i h) := by
  have nh : X.A.in1.handled = none := I.ok.hd hc
  cases kd with
  | l =>
    obtain ⟨a, rfl, h⟩ := h
    obtain ⟨its, rv, p, _⟩ := I.list h
    refine ⟨[it, a], _, draws_mono (Draws.list nh it a (ap a rfl) its.toArray) (by rw [List.size_toArray, rv.length]) fun i u e => vals_at rv e, by simp, fun b hb => ?_, fun i z => ?_, fun i h' z => ⟨a, rfl, z.1⟩⟩
    · have hb' : b = it ∨ b = a := by simpa using hb
      rcases hb' with rfl | rfl
      · exact .inl rfl
      · exact .inr rfl
    · obtain ⟨a', e, z⟩ := z
      cases e
      exact ⟨z, p.isList⟩
  | t =>
    obtain ⟨a, rfl, h⟩ := h
    obtain ⟨its, rv, p, _⟩ := I.tuple h
    refine ⟨[it, a], _, draws_mono (Draws.tuple nh it a (ap a rfl) its.toArray) (by rw [List.size_toArray, rv.length]) fun i u e => vals_at rv e, by simp, fun b hb => ?_, fun i z => ?_, fun i h' z => ⟨a, rfl, z.1⟩⟩
    · have hb' : b = it ∨ b = a := by simpa using hb
      rcases hb' with rfl | rfl
      · exact .inl rfl
      · exact .inr rfl
    · obtain ⟨a', e, z⟩ := z
      cases e
      exact ⟨z, p⟩
  | s =>
    obtain ⟨x, rfl, rfl⟩ := h
    refine ⟨[it], _, draws_mono (Draws.text nh it x tok) (by simp [txV]) fun i u e => ?_, by simp, fun b hb => .inl (by simpa using hb), fun i z => ?_, fun i h' z => ⟨x, rfl, z⟩⟩
    · obtain ⟨c, t, e1, rfl⟩ := e
      exact ⟨.str ⟨#[c]⟩, by simp [txV, e1], ⟨t, rfl⟩⟩
    · obtain ⟨x', e, z⟩ := z
      cases e
      exact z
theorem begins_kd (I : Inv X pins σ H s) (h : SqKd X.K kd H v xs) {u : Value} (r : RelV v u) : ∃ (o : Obj) (P : Heap → Prop) (tok : Tok), Begins u o P ∧ P s.heap ∧ ∀ hn it, hn.get? it = some o → ItKd tok kd v it 0 hn := by
  cases kd with
  | l =>
    obtain ⟨a, rfl, h⟩ := h
    cases r
    obtain ⟨its, rv, p, _⟩ := I.list h
    exact ⟨_, _, 0, begins_list a its.toArray, p.isList, fun hn it e => ⟨a, rfl, _, e, rfl, rfl⟩⟩
  | t =>
    obtain ⟨a, rfl, h⟩ := h
    cases r
    obtain ⟨its, rv, p, _⟩ := I.tuple h
    exact ⟨_, _, 0, begins_tuple a its.toArray, p, fun hn it e => ⟨a, rfl, _, e, rfl, rfl⟩⟩
  | s =>
    obtain ⟨x, rfl, rfl⟩ := h
    obtain ⟨t, rfl⟩ := r
    exact ⟨_, _, t, begins_text x t, trivial, fun hn it e => ⟨x, rfl, _, e, rfl, rfl⟩⟩
end
/-! ### enumerate of any of these -/
def IteK (K : PySem.W.Frag) (kd : Kd) (v : V) : It :=
  ⟨fun i H => ∃ (xs : List V) (x : V), SqKd K kd H v xs ∧ xs[i]? = some x, fun i H u H' => ∃ T x, u = .ref T ∧ H T = none ∧ H' = upd H T (.tup [.int (i : Nat), x]) ∧ ∀ xs, SqKd K kd H v xs → xs[i]? = some x, fun i H => ∃ xs : List V, SqKd K kd H v xs ∧ xs.length = i⟩
theorem turn_eK {P : Program} {w : World} {K : PySem.W.Frag} {elts : List Expr} {kk : Nat} {tpos : Pos} {kd : Kd} {v : V} {tok : Tok} {e it : Addr} (hei : e ≠ it) (ap : ∀ a, v = .ref a → a ≠ it ∧ a ≠ e) :
    Turn P w K (.Tuple elts kk tpos) (IteK K kd v) [e, it] e (fun i h => (∃ old, IsEnum h e it ((i : Nat) : Int) old) ∧ ItKd tok kd v it i h) where
  mem := by simp
  obj := fun i h st b hb => by
    obtain ⟨⟨old, he⟩, hi⟩ := st
    have e' : b = e ∨ b = it := by simpa using hb
    rcases e' with z | z
    · rw [z]; exact ⟨_, he, fun v q => nomatch q⟩
    · rw [z]; exact hi.live
  keep := fun i h h' st k => let ⟨⟨old, he⟩, hi⟩ := st; ⟨⟨old, k e (by simp) _ he⟩, hi.keep fun o q => k it (by simp) o q⟩
  item := by
    intro X hP hw hK hc i pins s σ H E I hf st hg
    subst hP hw hK
    obtain ⟨⟨old, he⟩, hi⟩ := st
    obtain ⟨xs, x, hq, hx⟩ := hg
    obtain ⟨fp, S, D, mf, ff, toS, ofS⟩ := draws_kd (tok := tok) I hc hq it fun a z => (ap a z).1
    have hef : e ∉ fp := fun z => by
      rcases ff e z with z | z
      · exact hei z
      · exact (ap e z).2 rfl
    have hel : e < s.heap.objs.size := Heap.lt_size he
    have hil : it < s.heap.objs.size := by obtain ⟨_, q, _⟩ := hi.live; exact Heap.lt_size q
    have hlt : i < xs.length := (List.getElem?_eq_some_iff.mp hx).1
    refine wpAny_pyNext_enum_itemD D he (toS i hi) hlt hei hef fun u h' tk pu ho st' hT hsz hk => ?_
    obtain ⟨x', ex', ru⟩ := pu
    rw [hx] at ex'
    cases ex'
    refine ⟨_, rfl, wpAny_letOwnedTupleGo_enum (s := { s with heap := h', toks := tk + 1 }) ho fun h'' he' sb => ?_⟩
    have hT2 : h''.get? s.heap.objs.size = some { cls := .type "tuple", data := .seq #[.int i tk, u] } := (sb.2 _ (Nat.ne_of_gt hel)).trans hT
    have new : ObjOk X.prog X.w (upd H s.heap.objs.size (.tup [.int (i : Nat), x])) h'' s.heap.objs.size (.tup [.int (i : Nat), x]) :=
      ⟨by show 2 ≤ sizeLine; decide, [.int i tk, u], .cons ⟨_, rfl⟩ (.cons ru .nil), ⟨_, hT2, rfl, _, rfl⟩⟩
    have I1 : Inv X pins σ (upd H s.heap.objs.size (.tup [.int (i : Nat), x])) { s with heap := h'', toks := tk + 1 } :=
      I.turnedNew (ch := [e, it]) (fun b ob hb q => (sb.2 b (fun z => hb (by simp [z]))).trans (hk b ob (fun z => hb (by simp [z])) (fun z => hb (by simp [z])) q)) hf (Nat.le_refl _) new
    refine ⟨.ref s.heap.objs.size, _, I1, rfl, ⟨_, x, rfl, I.hok.fresh (Nat.le_refl _), rfl, fun ys hy => by rw [hy.inj I hq]; exact hx⟩, ⟨⟨u, ?_⟩, (ofS _ _ st').keep fun o q => (sb.2 it (Ne.symm hei)).trans q⟩, fun b hb => ?_⟩
    · have e1 : ((i + 1 : Nat) : Int) = (i : Int) + 1 := by omega
      rw [e1]; exact he'
    · have hb' : b < s.heap.objs.size := by
        have e' : b = e ∨ b = it := by simpa using hb
        rcases e' with z | z
        · rw [z]; exact hel
        · rw [z]; exact hil
      rw [upd_ne (Nat.ne_of_lt hb')]
      exact (hf b hb).1
  done := by
    intro X hP hw hK hc i pins s σ H E I hf st hg
    subst hP hw hK
    obtain ⟨⟨old, he⟩, hi⟩ := st
    obtain ⟨xs, hq, hx⟩ := hg
    subst hx
    obtain ⟨fp, S, D, mf, ff, toS, ofS⟩ := draws_kd (tok := tok) I hc hq it fun a z => (ap a z).1
    obtain ⟨f0, f1, f2, f3, f4, f5⟩ := hf it (by simp)
    exact wpAny_pyNext_enum_endD D he (toS _ hi) fun h' eb => ⟨rfl, I.turned (t' := s.toks) (fun b o hb q => eb b o hb q) f0 f1 f3 f4 f5⟩
  self := fun A i s Q E st h => let ⟨⟨_, he⟩, _⟩ := st; wpAny_pyIter_enum he h
def iEnK (K : PySem.W.Frag) (ta : TA) : TI := fun σ H R => ta σ H fun vs H1 => ∃ kd v xs, vs = [v] ∧ SqKd K kd H1 v xs ∧ R (IteK K kd v) H1
theorem pi_enK {X : Cx} {e : Expr} {ta : TA} {p pos tpos : Pos} {elts : List Expr} {kk : Nat} (hg : Gl X "enumerate") (hm : X.mg "enumerate" = none) (ha : PA X [e] ta) (hs : starEach [e] X.env = (false, eval e X.env) :: starEach [] X.env := by rfl) (hpl : (backTo pos (starEach [] X.env)).any (·.1) = false := by rfl) :
    PI X (.Tuple elts kk tpos) (.Call (.Name "enumerate" p) [e] [] pos) (iEnK X.K ta) := by
  refine ⟨fun pins s σ H R I h => ?_⟩
  refine Call_ (ld_blt I hg hm boot_enumerate (PyProof.Rows.callWith_type1 (thn (ha.run pos pins s σ H _ I h) fun us s1 ⟨vs, H1, I1, r1, q1⟩ => ?_) hs hpl))
  obtain ⟨kd, v, xs, ex, hq, q⟩ := q1
  subst ex
  obtain ⟨u, rfl, ru⟩ := r1.one
  obtain ⟨o, P, tok, B, hP, hI⟩ := begins_kd I1 hq ru
  have lv := hq.lt I1
  refine call_en (v := u) (fun h => h.push o) (fun h => h.objs.size) (fun prog w A E s Q z q => B.iter prog w A E s Q z q) hP fun hn he hz hk => wpAny_pyIter_enum he ?_
  have hz1 : (s1.heap.push o).objs.size = s1.heap.objs.size + 1 := Heap.size_push ..
  have hk1 : ∀ b o', s1.heap.get? b = some o' → hn.get? b = some o' := fun b o' e => hk _ _ (Heap.get?_push_of_some _ e)
  have I2 : Inv X pins σ H1 { s1 with heap := hn } := I1.kept (t' := s1.toks) hk1
  rw [hz1] at he ⊢
  refine ⟨s1.heap.objs.size + 1, [s1.heap.objs.size + 1, s1.heap.objs.size], _, _, H1, rfl, I2, turn_eK (tok := tok) (Nat.succ_ne_self _) fun a z => ⟨Nat.ne_of_lt (lv a z), Nat.ne_of_lt (Nat.lt_succ_of_lt (lv a z))⟩, ⟨⟨.none, he⟩, hI hn _ (hk _ _ (Heap.get?_push_size _ B.free))⟩, fun b hb => ?_, q⟩
  have e' : b = s1.heap.objs.size + 1 ∨ b = s1.heap.objs.size := by simpa using hb
  have hle : s1.heap.objs.size ≤ b := by
    rcases e' with z | z
    · rw [z]; exact Nat.le_add_right _ _
    · rw [z]; exact Nat.le_refl _
  exact I1.fpOk hle (I1.hok.fresh hle)
end VS

/-! VS12 -/
namespace VS
open PySem PySem.Spec L2
open PyProof.Rows (Call_)

/-! ### zip of any two -/
theorem sub5 (n b : Nat) (z : b ∈ [n + 4, n + 3, n, n + 1]) : b ∈ [n + 4, n + 2, n + 3, n, n + 1] := by
  have e' : b = n + 4 ∨ b = n + 3 ∨ b = n ∨ b = n + 1 := by simpa using z
  rcases e' with q | q | q | q <;> rw [q] <;> simp
def ItzK (K : PySem.W.Frag) (k1 k2 : Kd) (v1 v2 : V) : It :=
  ⟨fun i H => ∃ (xs ys : List V) (x y : V), SqKd K k1 H v1 xs ∧ SqKd K k2 H v2 ys ∧ xs[i]? = some x ∧ ys[i]? = some y,
    fun i H v H' => ∃ T x y, v = .ref T ∧ H T = none ∧ H' = upd H T (.tup [x, y]) ∧ (∀ xs, SqKd K k1 H v1 xs → xs[i]? = some x) ∧ ∀ ys, SqKd K k2 H v2 ys → ys[i]? = some y,
    fun i H => ∃ xs ys : List V, SqKd K k1 H v1 xs ∧ SqKd K k2 H v2 ys ∧ i = min xs.length ys.length⟩
def ZkSt (t1 t2 : Tok) (k1 k2 : Kd) (v1 v2 : V) (z TI TO i1 i2 : Addr) (i : Nat) (h : Heap) : Prop :=
  IsZip h z TI TO .none ∧ IsTupOf2 h TI (.ref i1) (.ref i2) ∧ (∃ x y, IsTupOf2 h TO x y) ∧ ItKd t1 k1 v1 i1 i h ∧ ItKd t2 k2 v2 i2 i h
theorem turn_zK {P : Program} {w : World} {K : PySem.W.Frag} {elts : List Expr} {kk : Nat} {tpos : Pos} {t1 t2 : Tok} {k1 k2 : Kd} {v1 v2 : V} (n : Addr) (a1 : ∀ a, v1 = .ref a → a < n) (a2 : ∀ a, v2 = .ref a → a < n) :
    Turn P w K (.Tuple elts kk tpos) (ItzK K k1 k2 v1 v2) [n + 4, n + 2, n + 3, n, n + 1] (n + 4) (fun i h => ZkSt t1 t2 k1 k2 v1 v2 (n + 4) (n + 2) (n + 3) n (n + 1) i h) where
  mem := by simp
  obj := fun i h st c hc => by
    obtain ⟨hz, hTI, ⟨x, y, hTO⟩, h1, h2⟩ := st
    have e' : c = n + 4 ∨ c = n + 2 ∨ c = n + 3 ∨ c = n ∨ c = n + 1 := by simpa using hc
    rcases e' with q | q | q | q | q
    · rw [q]; exact ⟨_, hz, fun v q => nomatch q⟩
    · rw [q]; exact ⟨_, hTI, fun v q => nomatch q⟩
    · rw [q]; exact ⟨_, hTO, fun v q => nomatch q⟩
    · rw [q]; exact h1.live
    · rw [q]; exact h2.live
  keep := fun i h h' st k => by
    obtain ⟨hz, hTI, ⟨x, y, hTO⟩, h1, h2⟩ := st
    exact ⟨k _ (by simp) _ hz, k _ (by simp) _ hTI, ⟨x, y, k _ (by simp) _ hTO⟩, h1.keep fun o q => k _ (by simp) o q, h2.keep fun o q => k _ (by simp) o q⟩
  item := by
    intro X hP hw hK hc i pins s σ H E I hf st hg
    subst hP hw hK
    obtain ⟨hz, hTI, ⟨x0, y0, hTO⟩, h1, h2⟩ := st
    obtain ⟨xs, ys, x, y, hqx, hqy, hx, hy⟩ := hg
    have nz : ∀ i j : Nat, i ≠ j → n + i ≠ n + j := fun i j h e => h (Nat.add_left_cancel e)
    have lv1 : ∀ (j : Nat) a, v1 = .ref a → a ≠ n + j := fun j a e => Nat.ne_of_lt (Nat.lt_of_lt_of_le (a1 a e) (Nat.le_add_right _ _))
    have lv2 : ∀ (j : Nat) a, v2 = .ref a → a ≠ n + j := fun j a e => Nat.ne_of_lt (Nat.lt_of_lt_of_le (a2 a e) (Nat.le_add_right _ _))
    obtain ⟨fp1, S1, D1, mf1, ff1, to1, of1⟩ := draws_kd (tok := t1) I hc hqx n fun a z => lv1 0 a z
    obtain ⟨fp2, S2, D2, mf2, ff2, to2, of2⟩ := draws_kd (tok := t2) I hc hqy (n + 1) fun a z => lv2 1 a z
    have nf1 : ∀ j : Nat, j ≠ 0 → n + j ∉ fp1 := fun j hj z => by
      rcases ff1 _ z with e | e
      · exact nz j 0 hj e
      · exact lv1 j _ e rfl
    have nf2 : ∀ j : Nat, j ≠ 1 → n + j ∉ fp2 := fun j hj z => by
      rcases ff2 _ z with e | e
      · exact nz j 1 hj e
      · exact lv2 j _ e rfl
    have S : ZipSep2 (n + 4) (n + 2) (n + 3) n (n + 1) fp1 fp2 := ⟨nz 2 4 (by decide), nz 3 4 (by decide), nz 2 3 (by decide), nz 2 0 (by decide), mf1, nf1 4 (by decide), nf1 3 (by decide), nz 2 1 (by decide), mf2, nf2 4 (by decide), nf2 3 (by decide), nf2 0 (by decide), nf1 1 (by decide)⟩
    have hlt : i < min xs.length ys.length := by
      have l1 := (List.getElem?_eq_some_iff.mp hx).1
      have l2 := (List.getElem?_eq_some_iff.mp hy).1
      omega
    have WT := WalksT.zipD2 S D1 D2
    have hzl : n + 4 < s.heap.objs.size := Heap.lt_size hz
    refine WT.item i s _ _ hlt ⟨hz, hTI, ⟨x0, y0, hTO⟩, to1 i h1, to2 i h2⟩ fun T vals h' tk pv hT isT mid hk => ?_
    obtain ⟨u1, u2, ⟨x', ex1, r1⟩, ⟨y', ey1, r2⟩, ev⟩ := pv
    subst ev
    rw [hx] at ex1; cases ex1
    rw [hy] at ey1; cases ey1
    refine ⟨_, rfl, WT.go elts kk tpos i T { s with heap := h', toks := tk } _ _ mid fun h'' st' hk2 => ?_⟩
    have hTw : T ∉ [n + 4, n + 3, n, n + 1] := WT.apart i T h' mid
    have keep2 : ∀ b o, b ∉ [n + 4, n + 2, n + 3, n, n + 1] → s.heap.get? b = some o → h''.get? b = some o := fun b o hb e => hk2 b o (fun z => hb (sub5 n b z)) (hk b o (fun z => hb (sub5 n b z)) e)
    obtain ⟨oT, eT, cT, nT, dT⟩ := isT
    have hT2 : h''.get? T = some oT := hk2 T oT hTw eT
    have new : ObjOk X.prog X.w (upd H T (.tup [x, y])) h'' T (.tup [x, y]) :=
      ⟨by show 2 ≤ sizeLine; decide, [u1, u2], .cons r1 (.cons r2 .nil), ⟨oT, hT2, cT, nT, dT⟩⟩
    have I1 : Inv X pins σ (upd H T (.tup [x, y])) { s with heap := h'', toks := tk } := I.turnedNew (t' := tk) (ch := [n + 4, n + 2, n + 3, n, n + 1]) keep2 hf hT new
    obtain ⟨q1, q2, q3, q4, q5⟩ := st'
    refine ⟨.ref T, _, I1, rfl, ⟨_, x, y, rfl, I.hok.fresh hT, rfl, fun l hl => by rw [hl.inj I hqx]; exact hx, fun l hl => by rw [hl.inj I hqy]; exact hy⟩, ⟨q1, q2, q3, of1 _ _ q4, of2 _ _ q5⟩, fun c hcm => ?_⟩
    have hlc : c < T := Nat.lt_of_lt_of_le (by
      have e' : c = n + 4 ∨ c = n + 2 ∨ c = n + 3 ∨ c = n ∨ c = n + 1 := by simpa using hcm
      have : c ≤ n + 4 := by rcases e' with q | q | q | q | q <;> rw [q] <;> simp
      exact Nat.lt_of_le_of_lt this hzl) hT
    rw [upd_ne (Nat.ne_of_lt hlc)]
    exact (hf c hcm).1
  done := by
    intro X hP hw hK hc i pins s σ H E I hf st hg
    subst hP hw hK
    obtain ⟨hz, hTI, ⟨x0, y0, hTO⟩, h1, h2⟩ := st
    obtain ⟨xs, ys, hqx, hqy, hend⟩ := hg
    have nz : ∀ i j : Nat, i ≠ j → n + i ≠ n + j := fun i j h e => h (Nat.add_left_cancel e)
    have lv1 : ∀ (j : Nat) a, v1 = .ref a → a ≠ n + j := fun j a e => Nat.ne_of_lt (Nat.lt_of_lt_of_le (a1 a e) (Nat.le_add_right _ _))
    have lv2 : ∀ (j : Nat) a, v2 = .ref a → a ≠ n + j := fun j a e => Nat.ne_of_lt (Nat.lt_of_lt_of_le (a2 a e) (Nat.le_add_right _ _))
    obtain ⟨fp1, S1, D1, mf1, ff1, to1, of1⟩ := draws_kd (tok := t1) I hc hqx n fun a z => lv1 0 a z
    obtain ⟨fp2, S2, D2, mf2, ff2, to2, of2⟩ := draws_kd (tok := t2) I hc hqy (n + 1) fun a z => lv2 1 a z
    have nf1 : ∀ j : Nat, j ≠ 0 → n + j ∉ fp1 := fun j hj z => by
      rcases ff1 _ z with e | e
      · exact nz j 0 hj e
      · exact lv1 j _ e rfl
    have nf2 : ∀ j : Nat, j ≠ 1 → n + j ∉ fp2 := fun j hj z => by
      rcases ff2 _ z with e | e
      · exact nz j 1 hj e
      · exact lv2 j _ e rfl
    have S : ZipSep2 (n + 4) (n + 2) (n + 3) n (n + 1) fp1 fp2 := ⟨nz 2 4 (by decide), nz 3 4 (by decide), nz 2 3 (by decide), nz 2 0 (by decide), mf1, nf1 4 (by decide), nf1 3 (by decide), nz 2 1 (by decide), mf2, nf2 4 (by decide), nf2 3 (by decide), nf2 0 (by decide), nf1 1 (by decide)⟩
    have WT := WalksT.zipD2 S D1 D2
    subst hend
    exact WT.done s _ _ ⟨hz, hTI, ⟨x0, y0, hTO⟩, to1 _ h1, to2 _ h2⟩ fun h' tk hk => ⟨rfl, I.turnedL (t' := tk) (ch := [n + 4, n + 2, n + 3, n, n + 1]) (fun b o hb e => hk b o (fun z => hb (sub5 n b z)) e) hf⟩
  self := fun A i s Q E st h => wpAny_pyIter_zip st.1 h
def iZpK (K : PySem.W.Frag) (ta : TA) : TI := fun σ H R => ta σ H fun vs H1 => ∃ k1 k2 v1 v2 xs ys, vs = [v1, v2] ∧ SqKd K k1 H1 v1 xs ∧ SqKd K k2 H1 v2 ys ∧ R (ItzK K k1 k2 v1 v2) H1
theorem pi_zpK {X : Cx} {e e2 : Expr} {ta : TA} {p pos tpos : Pos} {elts : List Expr} {kk : Nat} (hg : Gl X "zip") (hm : X.mg "zip" = none) (ha : PA X [e, e2] ta)
    (hs : starEach [e, e2] X.env = (false, eval e X.env) :: starEach [e2] X.env := by rfl) (hpl : (backTo pos (starEach [e2] X.env)).any (·.1) = false := by rfl) :
    PI X (.Tuple elts kk tpos) (.Call (.Name "zip" p) [e, e2] [] pos) (iZpK X.K ta) := by
  refine ⟨fun pins s σ H R I h => ?_⟩
  refine Call_ (ld_blt I hg hm PyProof.Rows.boot_zip (PyProof.Rows.callWith_type1 (thn (ha.run pos pins s σ H _ I h) fun us s1 ⟨vs, H1, I1, r1, q1⟩ => ?_) hs hpl))
  obtain ⟨k1, k2, v1, v2, xs, ys, ex, hqx, hqy, q⟩ := q1
  subst ex
  obtain ⟨u1, u2, rfl, ru1, ru2⟩ := r1.two
  obtain ⟨o1, P1, t1, B1, hP1, hI1⟩ := begins_kd I1 hqx ru1
  obtain ⟨o2, P2, t2, B2, hP2, hI2⟩ := begins_kd I1 hqy ru2
  refine zip_begins2 B1 B2 hP1 hP2 fun hn hz hTI hTO g1 g2 hsz hk => wpAny_pyIter_zip hz ?_
  have I2 : Inv X pins σ H1 { s1 with heap := hn } := I1.kept (t' := s1.toks) hk
  refine ⟨s1.heap.objs.size + 4, [s1.heap.objs.size + 4, s1.heap.objs.size + 2, s1.heap.objs.size + 3, s1.heap.objs.size, s1.heap.objs.size + 1], _, _, H1, rfl, I2, turn_zK (t1 := t1) (t2 := t2) s1.heap.objs.size (hqx.lt I1) (hqy.lt I1), ⟨hz, hTI, ⟨_, _, hTO⟩, hI1 _ _ g1, hI2 _ _ g2⟩, fun c hcm => ?_, q⟩
  have e' : c = s1.heap.objs.size + 4 ∨ c = s1.heap.objs.size + 2 ∨ c = s1.heap.objs.size + 3 ∨ c = s1.heap.objs.size ∨ c = s1.heap.objs.size + 1 := by simpa using hcm
  have hle : s1.heap.objs.size ≤ c := by
    rcases e' with z | z | z | z | z
    · rw [z]; exact Nat.le_add_right _ _
    · rw [z]; exact Nat.le_add_right _ _
    · rw [z]; exact Nat.le_add_right _ _
    · rw [z]; exact Nat.le_refl _
    · rw [z]; exact Nat.le_add_right _ _
  exact I1.fpOk hle (I1.hok.fresh hle)
end VS

/-! VS13 -/
namespace VS
open PySem PySem.Spec L2

/-! ### what a value is gone through as -/
def chars (x : Str) : List PyData := x.cps.toList.map fun c => PyData.str ⟨#[c]⟩
def itemsD : PyData → Option (List PyData)
  | .list ds => some ds
  | .tuple ds => some ds
  | .str x => some (chars x)
  | .dict [(.bool false, .list ds)] => some ds
  | _ => none
section
variable {K : PySem.W.Frag} {mg : Str → Option Value} {H H' Hs : Hp} {kd : Kd} {v : V} {xs : List V} {d : PyData} {ds : List PyData}
theorem SqKd.mono (e : Same H H') (h : SqKd K kd H v xs) : SqKd K kd H' v xs := by
  cases kd with
  | l => obtain ⟨a, e0, h⟩ := h; exact ⟨a, e0, seqL_mono e h⟩
  | t => obtain ⟨a, e0, h⟩ := h; exact ⟨a, e0, seqT_mono e h⟩
  | s => exact h
theorem rpAll_chars (x : Str) : RpAll K mg H (txV x) (chars x) := by
  unfold txV chars
  generalize x.cps.toList = l
  induction l with
  | nil => exact .nil
  | cons c l ih => exact .cons (.str _) ih
theorem kd_of (p : Rp K mg Hs v d) (e : itemsD d = some ds) : ∃ kd xs, SqKd K kd Hs v xs ∧ RpAll K mg Hs xs ds := by
  unfold itemsD at e
  split at e
  · cases e
    obtain ⟨a, us, rfl, h, l⟩ := p.lst_inv
    exact ⟨.l, us, ⟨a, rfl, .of h⟩, l⟩
  · cases e
    obtain ⟨a, us, rfl, h, l⟩ := p.tup_inv
    exact ⟨.t, us, ⟨a, rfl, h⟩, l⟩
  · cases e
    rw [p.str_inv]
    exact ⟨.s, _, ⟨_, rfl, rfl⟩, rpAll_chars _⟩
  · cases e
    obtain ⟨a, us, rfl, h, l⟩ := Rp.scr_inv p
    exact ⟨.l, us, ⟨a, rfl, h⟩, l⟩
  · cases e
end
def ItK (K : PySem.W.Frag) (kd : Kd) (v : V) : It := match kd, v with
  | .l, .ref a => Itl K a
  | .t, .ref a => Itt K a
  | .s, .str x => Its x
  | _, _ => ⟨fun _ _ => False, fun _ _ _ _ => True, fun _ _ => False⟩
def iSeq (K : PySem.W.Frag) (te : TE) : TI := fun σ H R => te σ H fun v H1 => ∃ kd xs, SqKd K kd H1 v xs ∧ R (ItK K kd v) H1
theorem pi_seq {X : Cx} {tg e : Expr} {te : TE} (he : PE X e te) : PI X tg e (iSeq X.K te) := by
  refine ⟨fun pins s σ H R I h => ?_⟩
  refine thn (he.run pins s σ H _ I h) fun u s1 ⟨v, H1, I1, r1, kd, xs, hq, q⟩ => ?_
  cases kd with
  | l =>
    obtain ⟨a, rfl, hq⟩ := hq
    cases r1
    obtain ⟨its, rv, p, hz⟩ := I1.list hq
    refine wpAny_pyIter_list p.isList ?_
    refine ⟨s1.heap.objs.size, [s1.heap.objs.size], _, _, H1, rfl, I1.kept (t' := s1.toks) fun b o e => Heap.get?_push_of_some _ e, turn_list a _, ⟨_, Heap.get?_push_size _ rfl, rfl, rfl⟩, fun b hb => ?_, q⟩
    have e : b = s1.heap.objs.size := by simpa using hb
    subst e
    exact I1.fpOk (Nat.le_refl _) (I1.hok.fresh (Nat.le_refl _))
  | t =>
    obtain ⟨a, rfl, hq⟩ := hq
    cases r1
    obtain ⟨its, rv, p, hz⟩ := I1.tuple hq
    refine wpAny_pyIter_tuple (show s1.heap.IsTuple a its.toArray from p) ?_
    refine ⟨s1.heap.objs.size, [s1.heap.objs.size], _, _, H1, rfl, I1.kept (t' := s1.toks) fun b o e => Heap.get?_push_of_some _ e, turn_tuple a _, ⟨_, Heap.get?_push_size _ rfl, rfl, rfl⟩, fun b hb => ?_, q⟩
    have e : b = s1.heap.objs.size := by simpa using hb
    subst e
    exact I1.fpOk (Nat.le_refl _) (I1.hok.fresh (Nat.le_refl _))
  | s =>
    obtain ⟨x, rfl, hq⟩ := hq
    obtain ⟨t, rfl⟩ := r1
    cases ha : x.cps.all (· < 128)
    · exact wpAny_pyIter_wide ha (pi_one (tk := s1.toks) I1 _ (turn_str _ x t "str_iterator" (.inr rfl)) ⟨_, Heap.get?_push_size _ rfl, rfl, rfl⟩ q)
    · exact wpAny_pyIter_ascii ha (pi_one (tk := s1.toks) I1 _ (turn_str _ x t "str_ascii_iterator" (.inl rfl)) ⟨_, Heap.get?_push_size _ rfl, rfl, rfl⟩ q)
section
variable {K : PySem.W.Frag} {mg : Str → Option Value} {Hs : Hp} {kd k1 k2 : Kd} {v v1 v2 : V} {xs ys : List V} {ds es : List PyData}
theorem ex_at {us : List V} (l : RpAll K mg Hs us ds) {i : Nat} (h : i < ds.length) : ∃ x, us[i]? = some x := by
  have h' : i < us.length := by rw [l.length]; exact h
  exact ⟨us[i], by simp [h']⟩
theorem wk_seq (h : SqKd K kd Hs v xs) (l : RpAll K mg Hs xs ds) : Wk K mg Hs ds (ItK K kd v) := by
  cases kd with
  | l =>
    obtain ⟨a, rfl, h⟩ := h
    refine ⟨fun i Hs2 H2 s1 s2 hi => ?_, fun Hs2 H2 s1 s2 => ?_, fun i Hs2 H2 x H3 s1 s2 hi y => ?_⟩
    · obtain ⟨x, e⟩ := ex_at l hi
      exact ⟨xs, x, seqL_mono (s1.trans s2) h, e⟩
    · exact ⟨xs, seqL_mono (s1.trans s2) h, Nat.le_of_eq l.length⟩
    · obtain ⟨rfl, y⟩ := y
      obtain ⟨d, e1, e2⟩ := l.get' (y xs (seqL_mono (s1.trans s2) h))
      exact ⟨d, Hs2, e1, .refl _ _, e2.mono s1⟩
  | t =>
    obtain ⟨a, rfl, h⟩ := h
    refine ⟨fun i Hs2 H2 s1 s2 hi => ?_, fun Hs2 H2 s1 s2 => ?_, fun i Hs2 H2 x H3 s1 s2 hi y => ?_⟩
    · obtain ⟨x, e⟩ := ex_at l hi
      exact ⟨xs, x, seqT_mono (s1.trans s2) h, e⟩
    · exact ⟨xs, seqT_mono (s1.trans s2) h, Nat.le_of_eq l.length⟩
    · obtain ⟨rfl, y⟩ := y
      obtain ⟨d, e1, e2⟩ := l.get' (y xs (seqT_mono (s1.trans s2) h))
      exact ⟨d, Hs2, e1, .refl _ _, e2.mono s1⟩
  | s =>
    obtain ⟨x, rfl, rfl⟩ := h
    have ln : ds.length = x.cps.size := by rw [← l.length]; simp [txV]
    refine ⟨fun i Hs2 H2 s1 s2 hi => ?_, fun Hs2 H2 s1 s2 => ?_, fun i Hs2 H2 z H3 s1 s2 hi y => ?_⟩
    · show i < x.cps.size
      omega
    · show x.cps.size ≤ ds.length
      omega
    · obtain ⟨rfl, c, ec, rfl⟩ := y
      obtain ⟨d, e1, e2⟩ := l.get' (i := i) (v := .str ⟨#[c]⟩) (by simp [txV, ec])
      exact ⟨d, Hs2, e1, .refl _ _, e2.mono s1⟩
def enumD : Nat → List PyData → List PyData
  | _, [] => []
  | i, d :: ds => .tuple [.int i, d] :: enumD (i + 1) ds
theorem enumD_len : ∀ (i : Nat) (ds : List PyData), (enumD i ds).length = ds.length
  | _, [] => rfl
  | i, d :: ds => by rw [enumD, List.length_cons, List.length_cons, enumD_len]
theorem enumD_get : ∀ (k : Nat) (ds : List PyData) (i : Nat) {d : PyData}, ds[i]? = some d → (enumD k ds)[i]? = some (.tuple [.int ((k + i : Nat) : Int), d])
  | _, [], _, _, h => by simp at h
  | k, d :: ds, 0, _, h => by
    simp at h
    subst h
    simp [enumD]
  | k, d :: ds, i + 1, _, h => by
    rw [enumD, List.getElem?_cons_succ, enumD_get (k + 1) ds i (by simpa using h)]
    congr 4
    omega
def zipD : List PyData → List PyData → List PyData
  | d :: ds, e :: es => .tuple [d, e] :: zipD ds es
  | _, _ => []
theorem zipD_len : ∀ (ds es : List PyData), (zipD ds es).length = min ds.length es.length
  | [], _ => by simp [zipD]
  | _ :: _, [] => by simp [zipD]
  | d :: ds, e :: es => by rw [zipD, List.length_cons, List.length_cons, List.length_cons, zipD_len]; omega
theorem zipD_get : ∀ (ds es : List PyData) (i : Nat) {d e : PyData}, ds[i]? = some d → es[i]? = some e → (zipD ds es)[i]? = some (.tuple [d, e])
  | [], _, _, _, _, h, _ => by simp at h
  | _ :: _, [], _, _, _, _, h => by simp at h
  | d :: ds, e :: es, 0, _, _, h, h' => by
    simp at h h'
    subst h h'
    simp [zipD]
  | d :: ds, e :: es, i + 1, _, _, h, h' => by
    rw [zipD, List.getElem?_cons_succ]
    exact zipD_get ds es i (by simpa using h) (by simpa using h')
theorem wk_en (h : SqKd K kd Hs v xs) (l : RpAll K mg Hs xs ds) : Wk K mg Hs (enumD 0 ds) (IteK K kd v) := by
  refine ⟨fun i Hs2 H2 s1 s2 hi => ?_, fun Hs2 H2 s1 s2 => ?_, fun i Hs2 H2 x H3 s1 s2 hi y => ?_⟩
  · obtain ⟨x, e⟩ := ex_at l (by rw [← enumD_len 0 ds]; exact hi)
    exact ⟨xs, x, h.mono (s1.trans s2), e⟩
  · exact ⟨xs, h.mono (s1.trans s2), by rw [enumD_len]; exact l.length⟩
  · obtain ⟨T, z, rfl, hT, rfl, y⟩ := y
    obtain ⟨d, e1, e2⟩ := l.get' (y xs (h.mono (s1.trans s2)))
    refine ⟨.tuple [.int ((0 + i : Nat) : Int), d], upd Hs2 T (.tup [.int (i : Nat), z]), enumD_get 0 ds i e1, .step (.refl _ _) hT, ?_⟩
    have s3 : Same Hs2 (upd Hs2 T (.tup [.int (i : Nat), z])) := same_updN (s2.free hT)
    rw [Nat.zero_add]
    exact .tup (.inl (.inl upd_same)) (.cons (.int _) (.cons (e2.mono (s1.trans s3)) .nil))
theorem wk_zp (h1 : SqKd K k1 Hs v1 xs) (h2 : SqKd K k2 Hs v2 ys) (l1 : RpAll K mg Hs xs ds) (l2 : RpAll K mg Hs ys es) : Wk K mg Hs (zipD ds es) (ItzK K k1 k2 v1 v2) := by
  refine ⟨fun i Hs2 H2 s1 s2 hi => ?_, fun Hs2 H2 s1 s2 => ?_, fun i Hs2 H2 x H3 s1 s2 hi y => ?_⟩
  · rw [zipD_len] at hi
    obtain ⟨x, e⟩ := ex_at l1 (i := i) (by omega)
    obtain ⟨y, e'⟩ := ex_at l2 (i := i) (by omega)
    exact ⟨xs, ys, x, y, h1.mono (s1.trans s2), h2.mono (s1.trans s2), e, e'⟩
  · exact ⟨xs, ys, h1.mono (s1.trans s2), h2.mono (s1.trans s2), by rw [zipD_len, l1.length, l2.length]⟩
  · obtain ⟨T, z, z', rfl, hT, rfl, y, y'⟩ := y
    obtain ⟨d, e1, e2⟩ := l1.get' (y xs (h1.mono (s1.trans s2)))
    obtain ⟨d', e1', e2'⟩ := l2.get' (y' ys (h2.mono (s1.trans s2)))
    have s3 : Same Hs2 (upd Hs2 T (.tup [z, z'])) := same_updN (s2.free hT)
    exact ⟨.tuple [d, d'], upd Hs2 T (.tup [z, z']), zipD_get ds es i e1 e1', .step (.refl _ _) hT, .tup (.inl (.inl upd_same)) (.cons (e2.mono (s1.trans s3)) (.cons (e2'.mono (s1.trans s3)) .nil))⟩
theorem wk_ez {a b : Addr} (h1 : SqL K Hs a xs) (h2 : SqL K Hs b ys) (l1 : RpAll K mg Hs xs ds) (l2 : RpAll K mg Hs ys es) : Wk K mg Hs (enumD 0 (zipD ds es)) (Itez K a b) := by
  refine ⟨fun i Hs2 H2 s1 s2 hi => ?_, fun Hs2 H2 s1 s2 => ?_, fun i Hs2 H2 x H3 s1 s2 hi y => ?_⟩
  · rw [enumD_len, zipD_len] at hi
    obtain ⟨x, e⟩ := ex_at l1 (i := i) (by omega)
    obtain ⟨y, e'⟩ := ex_at l2 (i := i) (by omega)
    exact ⟨xs, ys, x, y, seqL_mono (s1.trans s2) h1, seqL_mono (s1.trans s2) h2, e, e'⟩
  · refine ⟨xs, ys, seqL_mono (s1.trans s2) h1, seqL_mono (s1.trans s2) h2, ?_⟩
    rw [enumD_len, zipD_len, l1.length, l2.length]
    omega
  · obtain ⟨T, T2, z, z', rfl, hT, hT2, rfl, y, y'⟩ := y
    obtain ⟨d, e1, e2⟩ := l1.get' (y xs (seqL_mono (s1.trans s2) h1))
    obtain ⟨d', e1', e2'⟩ := l2.get' (y' ys (seqL_mono (s1.trans s2) h2))
    have s3 : Same Hs2 (upd Hs2 T (.tup [z, z'])) := same_updN (s2.free hT)
    have hn : upd Hs2 T (.tup [z, z']) T2 = none := by
      by_cases c : T2 = T
      · rw [c, upd_same] at hT2
        cases hT2
      · rw [upd_ne c] at hT2 ⊢
        exact s2.free hT2
    have s4 : Same (upd Hs2 T (.tup [z, z'])) (upd (upd Hs2 T (.tup [z, z'])) T2 (.tup [.int (i : Nat), .ref T])) := same_updN hn
    refine ⟨.tuple [.int ((0 + i : Nat) : Int), .tuple [d, d']], upd (upd Hs2 T (.tup [z, z'])) T2 (.tup [.int (i : Nat), .ref T]), enumD_get 0 _ i (zipD_get ds es i e1 e1'), .step (.step (.refl _ _) hT) hT2, ?_⟩
    rw [Nat.zero_add]
    refine .tup (.inl (.inl upd_same)) (.cons (.int _) (.cons (.tup (.inl (.inl (s4 _ _ upd_same))) (.cons (e2.mono ((s1.trans s3).trans s4)) (.cons (e2'.mono ((s1.trans s3).trans s4)) .nil))) .nil))
/-- lo, lo + c, .. -/
def rangeL (lo c : Int) (n : Nat) : List PyData := (List.range n).map fun i => .int (lo + (i : Nat) * c)
theorem rangeL_len (lo c : Int) (n : Nat) : (rangeL lo c n).length = n := by simp [rangeL]
theorem rangeL_get {lo c : Int} {n i : Nat} (h : i < n) : (rangeL lo c n)[i]? = some (.int (lo + (i : Nat) * c)) := by simp [rangeL, h]
theorem wk_rng (lo : Int) (n : Nat) : Wk K mg Hs (rangeL lo 1 n) (Itr lo n) := by
  refine ⟨fun i Hs2 H2 s1 s2 hi => ?_, fun Hs2 H2 s1 s2 => ?_, fun i Hs2 H2 x H3 s1 s2 hi y => ?_⟩
  · rw [rangeL_len] at hi; exact hi
  · show n ≤ _
    rw [rangeL_len]
    exact Nat.le_refl _
  · rw [rangeL_len] at hi
    obtain ⟨rfl, rfl⟩ := y
    refine ⟨_, Hs2, rangeL_get hi, .refl _ _, ?_⟩
    rw [Int.mul_one]
    exact .int _
theorem wk_rngC (lo c : Int) (n : Nat) : Wk K mg Hs (rangeL lo c n) (Itc lo c n) := by
  refine ⟨fun i Hs2 H2 s1 s2 hi => ?_, fun Hs2 H2 s1 s2 => ?_, fun i Hs2 H2 x H3 s1 s2 hi y => ?_⟩
  · rw [rangeL_len] at hi; exact hi
  · show n ≤ _
    rw [rangeL_len]
    exact Nat.le_refl _
  · rw [rangeL_len] at hi
    obtain ⟨rfl, rfl⟩ := y
    exact ⟨_, Hs2, rangeL_get hi, .refl _ _, .int _⟩
theorem rev_get {ds : List PyData} {i : Nat} {d : PyData} (hi : i < ds.length) (h : ds[ds.length - 1 - i]? = some d) : ds.reverse[i]? = some d := by
  rw [List.getElem?_reverse hi]
  exact h
theorem wk_revL {a : Addr} (h : SqL K Hs a xs) (l : RpAll K mg Hs xs ds) : Wk K mg Hs ds.reverse (Itv K a xs.length) := by
  have ln := l.length
  refine ⟨fun i Hs2 H2 s1 s2 hi => ?_, fun Hs2 H2 s1 s2 => ?_, fun i Hs2 H2 x H3 s1 s2 hi y => ?_⟩
  · rw [List.length_reverse] at hi
    obtain ⟨x, e⟩ := ex_at l (i := xs.length - 1 - i) (by omega)
    exact ⟨by omega, xs, x, seqL_mono (s1.trans s2) h, e⟩
  · show xs.length ≤ _
    rw [List.length_reverse]
    omega
  · rw [List.length_reverse] at hi
    obtain ⟨rfl, y⟩ := y
    obtain ⟨d, e1, e2⟩ := l.get' (y xs (seqL_mono (s1.trans s2) h))
    rw [ln] at e1
    exact ⟨d, Hs2, rev_get hi e1, .refl _ _, e2.mono s1⟩
theorem wk_revT {a : Addr} (h : SqT K Hs a xs) (l : RpAll K mg Hs xs ds) : Wk K mg Hs ds.reverse (RT.ItvT K a xs.length) := by
  have ln := l.length
  refine ⟨fun i Hs2 H2 s1 s2 hi => ?_, fun Hs2 H2 s1 s2 => ?_, fun i Hs2 H2 x H3 s1 s2 hi y => ?_⟩
  · rw [List.length_reverse] at hi
    obtain ⟨x, e⟩ := ex_at l (i := xs.length - 1 - i) (by omega)
    exact ⟨by omega, xs, x, seqT_mono (s1.trans s2) h, e⟩
  · show xs.length ≤ _
    rw [List.length_reverse]
    omega
  · rw [List.length_reverse] at hi
    obtain ⟨rfl, y⟩ := y
    obtain ⟨d, e1, e2⟩ := l.get' (y xs (seqT_mono (s1.trans s2) h))
    rw [ln] at e1
    exact ⟨d, Hs2, rev_get hi e1, .refl _ _, e2.mono s1⟩
end
/-! ### by data -/
def evI (g : PyData → Option (List PyData)) (ea : En → R PyData) : En → R (List PyData) := fun en => (ea en).bind fun d en1 => R.ofO (g d) en1
def evA (g : List PyData → Option (List PyData)) (er : En → R (List PyData)) : En → R (List PyData) := fun en => (er en).bind fun d en1 => R.ofO (g d) en1
def revD : PyData → Option (List PyData)
  | .list ds => some ds.reverse
  | .tuple ds => some ds.reverse
  | _ => none
def gEn : List PyData → Option (List PyData)
  | [d] => (itemsD d).map (enumD 0)
  | _ => none
def gZp : List PyData → Option (List PyData)
  | [d, e] => match itemsD d, itemsD e with
    | some ds, some es => some (zipD ds es)
    | _, _ => none
  | _ => none
def gEz : List PyData → Option (List PyData)
  | [.list ds, .list es] => some (enumD 0 (zipD ds es))
  | _ => none
def inR (i : Int) : Bool := decide (-(2 ^ 62) ≤ i) && decide (i < 2 ^ 62)
def gR1 : List PyData → Option (List PyData)
  | [.int j] => if inR j then some (rangeL 0 1 j.toNat) else none
  | _ => none
def gR2 : List PyData → Option (List PyData)
  | [.int i, .int j] => if inR i && inR j then some (rangeL i 1 (j - i).toNat) else none
  | _ => none
def gR3 : List PyData → Option (List PyData)
  | [.int i, .int j, .int (-1)] => if inR i && inR j then some (rangeL i (-1) (i - j).toNat) else none
  | _ => none
theorem inR_of {i : Int} (h : inR i = true) : -(2 ^ 62) ≤ i ∧ i < 2 ^ 62 := by
  unfold inR at h
  rw [Bool.and_eq_true, decide_eq_true_eq, decide_eq_true_eq] at h
  exact h
section
variable {X : Cx} {b : Bool} {m : List Bool} {W : WX} {tg e e2 e3 : Expr} {ea : En → R PyData} {er : En → R (List PyData)} {elts : List Expr} {kk : Nat} {tpos p pos p2 pos2 : Pos}
theorem ti_ev {g : PyData → Option (List PyData)} {σ : L2.St} {H : Hp} {Rr : It → Hp → Prop} {P : V → Hp → Prop} (h : tiv X.K X.mg b m W (evI g ea) σ H Rr)
    (k : ∀ f Hs en v H' d ds, Rl X.K X.mg b m f Hs en σ H' → Rp X.K X.mg Hs v d → g d = some ds → (∀ J, Wk X.K X.mg Hs ds J → Rr J H') → P v H') : tv X.K X.mg b m W ea σ H P := by
  obtain ⟨f, Hs, en, r, h⟩ := h
  unfold evI at h
  refine ⟨f, Hs, en, r, ?_⟩
  cases e1 : ea en with
  | stuck => simp only [e1, R.bind] at h
  | exc x en1 => simp only [e1, R.bind] at h; exact h
  | ok d en1 =>
    simp only [e1, R.bind] at h
    intro v H1 Hs1 r1 s1 p1
    cases e2 : g d with
    | none => simp only [e2, R.ofO] at h
    | some ds =>
      simp only [e2, R.ofO] at h
      exact k f Hs1 en1 v H1 d ds r1 p1 e2 fun J w => h J H1 Hs1 r1 s1 w
theorem ti_evA {g : List PyData → Option (List PyData)} {σ : L2.St} {H : Hp} {Rr : It → Hp → Prop} {P : List V → Hp → Prop} (h : tiv X.K X.mg b m W (evA g er) σ H Rr)
    (k : ∀ f Hs en vs H' ds es, Rl X.K X.mg b m f Hs en σ H' → RpAll X.K X.mg Hs vs ds → g ds = some es → (∀ J, Wk X.K X.mg Hs es J → Rr J H') → P vs H') : tav X.K X.mg b m W er σ H P := by
  obtain ⟨f, Hs, en, r, h⟩ := h
  unfold evA at h
  refine ⟨f, Hs, en, r, ?_⟩
  cases e1 : er en with
  | stuck => simp only [e1, R.bind] at h
  | exc x en1 => simp only [e1, R.bind] at h; exact h
  | ok d en1 =>
    simp only [e1, R.bind] at h
    intro v H1 Hs1 r1 s1 p1
    cases e2 : g d with
    | none => simp only [e2, R.ofO] at h
    | some ds =>
      simp only [e2, R.ofO] at h
      exact k f Hs1 en1 v H1 d ds r1 p1 e2 fun J w => h J H1 Hs1 r1 s1 w
theorem ci_seq (h : CE X b m W e ea) : CI X b m W tg e (evI itemsD ea) := (pi_seq h).imp fun σ H Q h => ti_ev h fun f Hs en v H' d ds r p e q => by
  obtain ⟨kd, xs, h1, h2⟩ := kd_of p e
  exact ⟨kd, xs, h1.mono r.sub, q _ (wk_seq h1 h2)⟩
theorem ci_rev (h : CE X b m W e ea) (hm : X.mg "reversed" = none := by rfl) (gl : Gl X "reversed" := by rfl) (hs : starEach [e] X.env = (false, eval e X.env) :: starEach [] X.env := by rfl) : CI X b m W tg (.Call (.Name "reversed" p) [e] [] pos) (evI revD ea) := (RT.pi_revA gl hm h hs).imp fun σ H Q h => ti_ev h fun f Hs en v H' d ds r p e q => by
  unfold revD at e
  split at e
  · cases e
    obtain ⟨a, us, rfl, h, l⟩ := p.lst_inv
    exact ⟨a, us, rfl, .inl ⟨seqL_mono r.sub (.of h), q _ (wk_revL (.of h) l)⟩⟩
  · cases e
    obtain ⟨a, us, rfl, h, l⟩ := p.tup_inv
    exact ⟨a, us, rfl, .inr ⟨seqT_mono r.sub h, q _ (wk_revT h l)⟩⟩
  · cases e
theorem ci_en (h : CA X b m W [e] er) (hm : X.mg "enumerate" = none := by rfl) (gl : Gl X "enumerate" := by rfl) (hs : starEach [e] X.env = (false, eval e X.env) :: starEach [] X.env := by rfl) (hpl : (backTo pos (starEach [] X.env)).any (·.1) = false := by rfl) :
    CI X b m W (.Tuple elts kk tpos) (.Call (.Name "enumerate" p) [e] [] pos) (evA gEn er) := (pi_enK gl hm h hs hpl).imp fun σ H Q h => ti_evA h fun f Hs en vs H' ds es r p e q => by
  unfold gEn at e
  split at e
  · rename_i d
    obtain ⟨v, rfl, p1⟩ := rpAll_1 p
    cases e1 : itemsD d with
    | none => rw [e1] at e; cases e
    | some us =>
      rw [e1] at e
      cases e
      obtain ⟨kd, xs, h1, h2⟩ := kd_of p1 e1
      exact ⟨kd, v, xs, rfl, h1.mono r.sub, q _ (wk_en h1 h2)⟩
  · cases e
theorem ci_zp (h : CA X b m W [e, e2] er) (hm : X.mg "zip" = none := by rfl) (gl : Gl X "zip" := by rfl) (hs : starEach [e, e2] X.env = (false, eval e X.env) :: starEach [e2] X.env := by rfl) (hpl : (backTo pos (starEach [e2] X.env)).any (·.1) = false := by rfl) :
    CI X b m W (.Tuple elts kk tpos) (.Call (.Name "zip" p) [e, e2] [] pos) (evA gZp er) := (pi_zpK gl hm h hs hpl).imp fun σ H Q h => ti_evA h fun f Hs en vs H' ds es r p e q => by
  unfold gZp at e
  split at e
  · split at e
    · rename_i e1 e2
      cases e
      obtain ⟨v, u, rfl, p, p'⟩ := rpAll_2 p
      obtain ⟨k1, xs, h1, h2⟩ := kd_of p e1
      obtain ⟨k2, ys, h1', h2'⟩ := kd_of p' e2
      exact ⟨k1, k2, v, u, xs, ys, rfl, h1.mono r.sub, h1'.mono r.sub, q _ (wk_zp h1 h1' h2 h2')⟩
    · cases e
  · cases e
theorem ci_ez (h : CA X b m W [e, e2] er) (hm : X.mg "zip" = none := by rfl) (gl : Gl X "zip" := by rfl) (hme : X.mg "enumerate" = none := by rfl) (gle : Gl X "enumerate" := by rfl) (hs : starEach [e, e2] X.env = (false, eval e X.env) :: starEach [e2] X.env := by rfl) (hpl : (backTo pos2 (starEach [e2] X.env)).any (·.1) = false := by rfl)
    (hs1 : starEach [.Call (.Name "zip" p2) [e, e2] [] pos2] X.env = (false, eval (.Call (.Name "zip" p2) [e, e2] [] pos2) X.env) :: starEach [] X.env := by rfl) (hpl1 : (backTo pos (starEach [] X.env)).any (·.1) = false := by rfl) :
    CI X b m W (.Tuple elts kk tpos) (.Call (.Name "enumerate" p) [.Call (.Name "zip" p2) [e, e2] [] pos2] [] pos) (evA gEz er) := (pi_ez gle hme gl hm h hs hpl hs1 hpl1).imp fun σ H Q h => ti_evA h fun f Hs en vs H' ds es r p e q => by
  unfold gEz at e
  split at e
  · cases e
    obtain ⟨v, u, rfl, p, p'⟩ := rpAll_2 p
    obtain ⟨a, us, rfl, h, l⟩ := p.lst_inv
    obtain ⟨a', us', rfl, h', l'⟩ := p'.lst_inv
    exact ⟨a, a', us, us', rfl, seqL_mono r.sub (.of h), seqL_mono r.sub (.of h'), q _ (wk_ez (.of h) (.of h') l l')⟩
  · cases e
theorem ci_r1 (h : CA X b m W [e] er) (hm : X.mg "range" = none := by rfl) (gl : Gl X "range" := by rfl) (hs : starEach [e] X.env = [(false, eval e X.env)] := by rfl) : CI X b m W tg (.Call (.Name "range" p) [e] [] pos) (evA gR1 er) := (pi_range1 gl hm h hs).imp fun σ H Q h => ti_evA h fun f Hs en vs H' ds es r p e q => by
  unfold gR1 at e
  split at e
  · split at e
    · rename_i j c
      cases e
      obtain ⟨v, rfl, p1⟩ := rpAll_1 p
      obtain ⟨c1, c2⟩ := inR_of c
      rw [p1.int_inv]
      exact ⟨j, rfl, c1, c2, q _ (wk_rng 0 _)⟩
    · cases e
  · cases e
theorem ci_r2 (h : CA X b m W [e, e2] er) (hm : X.mg "range" = none := by rfl) (gl : Gl X "range" := by rfl) (hs : starEach [e, e2] X.env = [(false, eval e X.env), (false, eval e2 X.env)] := by rfl) (hs2 : starEach [e2] X.env = [(false, eval e2 X.env)] := by rfl) :
    CI X b m W tg (.Call (.Name "range" p) [e, e2] [] pos) (evA gR2 er) := (pi_range2 gl hm h hs hs2).imp fun σ H Q h => ti_evA h fun f Hs en vs H' ds es r p e q => by
  unfold gR2 at e
  split at e
  · split at e
    · rename_i i j c
      rw [Bool.and_eq_true] at c
      cases e
      obtain ⟨v, u, rfl, p, p'⟩ := rpAll_2 p
      obtain ⟨c1, c2⟩ := inR_of c.1
      obtain ⟨c3, c4⟩ := inR_of c.2
      rw [p.int_inv, p'.int_inv]
      exact ⟨i, j, rfl, ⟨c1, c2, c3, c4⟩, q _ (wk_rng i _)⟩
    · cases e
  · cases e
theorem rpAll_3 {K : PySem.W.Frag} {mg : Str → Option Value} {H : Hp} {vs : List V} {d e f : PyData} (h : RpAll K mg H vs [d, e, f]) : ∃ v u w, vs = [v, u, w] ∧ Rp K mg H v d ∧ Rp K mg H u e ∧ Rp K mg H w f := by
  cases h with
  | cons a c =>
    obtain ⟨u, w, rfl, q, q'⟩ := rpAll_2 c
    exact ⟨_, _, _, rfl, a, q, q'⟩
theorem ci_r3 (h : CA X b m W [e, e2, e3] er) (hm : X.mg "range" = none := by rfl) (gl : Gl X "range" := by rfl) (hs : starEach [e, e2, e3] X.env = (false, eval e X.env) :: starEach [e2, e3] X.env := by rfl) (hpl : (backTo pos (starEach [e2, e3] X.env)).any (·.1) = false := by rfl) :
    CI X b m W tg (.Call (.Name "range" p) [e, e2, e3] [] pos) (evA gR3 er) := (pi_range3 gl hm h hs hpl).imp fun σ H Q h => ti_evA h fun f Hs en vs H' ds es r p e q => by
  unfold gR3 at e
  split at e
  · split at e
    · rename_i i j c
      rw [Bool.and_eq_true] at c
      cases e
      obtain ⟨v, u, w, rfl, p, p', p2⟩ := rpAll_3 p
      obtain ⟨c1, c2⟩ := inR_of c.1
      obtain ⟨c3, c4⟩ := inR_of c.2
      rw [p.int_inv, p'.int_inv, p2.int_inv]
      exact ⟨i, j, -1, _, rfl, .neg c1 c2 c3 c4, q _ (wk_rngC i (-1) _)⟩
    · cases e
  · cases e
end
end VS

/-! VS14 -/
namespace VS
open PySem L2

/-! ### comprehensions -/
def wipeE (en : En) : List Nat → En
  | [] => en
  | v :: vs => (wipeE en vs).set v none
def backE (en0 en : En) : List Nat → En
  | [] => en
  | v :: vs => match en0[v]? with
    | some o => (backE en0 en vs).set v o
    | none => backE en0 en vs
def lcL (vs : List Nat) (g : PyData → En → Option En) (tt : En → R Bool) (te : En → R PyData) : List PyData → En → List PyData → R (List PyData)
  | [], en, acc => .ok acc en
  | d :: ds, en, acc => match g d en with
    | none => .stuck
    | some en1 => match tt en1 with
      | .ok true en2 => match te en2 with
        | .ok y en3 => if acc.length < 1000000 then lcL vs g tt te ds (wipeE en3 vs) (acc ++ [y]) else .stuck
        | _ => .stuck
      | .ok false en2 => lcL vs g tt te ds (wipeE en2 vs) acc
      | _ => .stuck
def eLc (vs : List Nat) (ev : En → R (List PyData)) (g : PyData → En → Option En) (tt : En → R Bool) (te : En → R PyData) : En → R PyData := fun en => (ev en).bind fun ds en1 => match lcL vs g tt te ds (wipeE en1 vs) [] with
  | .ok acc en2 => .ok (.list acc) (backE en1 en2 vs)
  | _ => .stuck
/-- no test -/
def eYes : En → R Bool := fun en => .ok true en
theorem wipeE_len (en : En) : ∀ vs, (wipeE en vs).length = en.length
  | [] => rfl
  | v :: vs => by rw [wipeE, List.length_set, wipeE_len en vs]
theorem backE_len (en0 en : En) : ∀ vs, (backE en0 en vs).length = en.length
  | [] => rfl
  | v :: vs => by
    rw [backE]
    split
    · rw [List.length_set, backE_len en0 en vs]
    · exact backE_len en0 en vs
theorem wipe_at {t : Type} {l : List (Option t)} {i : Nat} {wp : List (Option t) → List Nat → List (Option t)} (h0 : ∀ l, wp l [] = l) (h1 : ∀ l v vs, wp l (v :: vs) = (wp l vs).set v none) (hl : ∀ l vs, (wp l vs).length = l.length) :
    ∀ vs, (i ∈ vs → ∀ x, (wp l vs)[i]? ≠ some (some x)) ∧ (i ∉ vs → (wp l vs)[i]? = l[i]?)
  | [] => ⟨fun h => by simp at h, fun _ => by rw [h0]⟩
  | v :: vs => by
    obtain ⟨q1, q2⟩ := wipe_at (i := i) h0 h1 hl vs
    rw [h1]
    by_cases e : v = i
    · subst e
      refine ⟨fun _ x z => ?_, fun h => absurd List.mem_cons_self h⟩
      by_cases hv : v < (wp l vs).length
      · rw [List.getElem?_set_self hv] at z
        cases z
      · rw [List.getElem?_eq_none (by rw [List.length_set]; omega)] at z
        cases z
    · rw [List.getElem?_set_ne e]
      refine ⟨fun h => q1 ?_, fun h => q2 fun z => h (List.mem_cons_of_mem _ z)⟩
      rcases List.mem_cons.mp h with z | z
      · exact absurd z.symm e
      · exact z
theorem wipeE_at (en : En) (i : Nat) (vs : List Nat) : (i ∈ vs → ∀ x, (wipeE en vs)[i]? ≠ some (some x)) ∧ (i ∉ vs → (wipeE en vs)[i]? = en[i]?) := wipe_at (wp := wipeE) (fun _ => rfl) (fun _ _ _ => rfl) wipeE_len vs
theorem wipeS_at (σ : L2.St) (i : Nat) (vs : List Nat) : (i ∈ vs → ∀ x, (wipe σ vs)[i]? ≠ some (some x)) ∧ (i ∉ vs → (wipe σ vs)[i]? = σ[i]?) := wipe_at (wp := wipe) (fun _ => rfl) (fun _ _ _ => rfl) wipe_length vs
theorem backE_at (en0 en : En) (i : Nat) : ∀ vs, en0.length = en.length → (i ∈ vs → (backE en0 en vs)[i]? = en0[i]?) ∧ (i ∉ vs → (backE en0 en vs)[i]? = en[i]?)
  | [], _ => ⟨fun h => by simp at h, fun _ => rfl⟩
  | v :: vs, hl => by
    obtain ⟨q1, q2⟩ := backE_at en0 en i vs hl
    rw [backE]
    by_cases e : v = i
    · subst e
      refine ⟨fun _ => ?_, fun h => absurd List.mem_cons_self h⟩
      cases e0 : en0[v]? with
      | none =>
        simp only
        rw [List.getElem?_eq_none]
        rw [backE_len, ← hl]
        exact List.getElem?_eq_none_iff.mp e0
      | some o =>
        simp only
        rw [List.getElem?_set_self]
        rw [backE_len, ← hl]
        exact (List.getElem?_eq_some_iff.mp e0).1
    · have e1 : (match en0[v]? with
        | some o => (backE en0 en vs).set v o
        | none => backE en0 en vs)[i]? = (backE en0 en vs)[i]? := by
        split
        · rw [List.getElem?_set_ne e]
        · rfl
      rw [e1]
      refine ⟨fun h => q1 ?_, fun h => q2 fun z => h (List.mem_cons_of_mem _ z)⟩
      rcases List.mem_cons.mp h with z | z
      · exact absurd z.symm e
      · exact z
theorem wipe_eq {σ σ' : L2.St} {vs : List Nat} (hl : σ'.length = σ.length) (h : ∀ k, k ∉ vs → σ'[k]? = σ[k]?) : wipe σ' vs = wipe σ vs := by
  apply List.ext_getElem?
  intro i
  by_cases hi : i ∈ vs
  · have a := (wipeS_at σ' i vs).1 hi
    have b := (wipeS_at σ i vs).1 hi
    have la : (wipe σ' vs).length = (wipe σ vs).length := by rw [wipe_length, wipe_length, hl]
    rcases ea : (wipe σ' vs)[i]? with _ | _ | x
    · have := List.getElem?_eq_none_iff.mp ea
      rw [List.getElem?_eq_none (by omega)]
    · have h1 := (List.getElem?_eq_some_iff.mp ea).1
      rcases eb : (wipe σ vs)[i]? with _ | _ | y
      · have := List.getElem?_eq_none_iff.mp eb
        omega
      · rfl
      · exact absurd eb (b y)
    · exact absurd ea (a x)
  · rw [(wipeS_at σ' i vs).2 hi, (wipeS_at σ i vs).2 hi]
    exact h i hi
section
variable {K : PySem.W.Frag} {mg : Str → Option Value} {b : Bool} {m : List Bool} {f : Fr} {Hs Hs' H H' : Hp} {en en' : En} {σ : L2.St} {vs : List Nat}
/-- the block's own slots hold nothing of their own, and are no bag -/
def wpOk (b : Bool) (m : List Bool) (vs : List Nat) : Bool := vs.all fun v => !ownAt m v && (!b || v != 0)
theorem wpOk_at (h : wpOk b m vs = true) {v : Nat} (hv : v ∈ vs) : ownAt m v = false ∧ (b = true → v ≠ 0) := by
  unfold wpOk at h
  rw [List.all_eq_true] at h
  have z := h v hv
  rw [Bool.and_eq_true] at z
  refine ⟨by simpa using z.1, fun hb => ?_⟩
  have z2 := z.2
  rw [hb] at z2
  simpa using z2
theorem Rl.wipe (r : Rl K mg b m f Hs en σ H) (h : wpOk b m vs = true) : Rl K mg b m f Hs (wipeE en vs) (L2.wipe σ vs) H := by
  have e1 : ∀ {i d}, (wipeE en vs)[i]? = some (some d) → i ∉ vs ∧ en[i]? = some (some d) := fun {i d} e => by
    by_cases hi : i ∈ vs
    · exact absurd e ((wipeE_at en i vs).1 hi d)
    · exact ⟨hi, by rw [← (wipeE_at en i vs).2 hi]; exact e⟩
  have s1 : ∀ {i}, i ∉ vs → (L2.wipe σ vs)[i]? = σ[i]? := fun {i} hi => (wipeS_at σ i vs).2 hi
  refine ⟨r.sub, r.base, r.ext, r.keep, fun hb => ?_, r.nobag, by rw [wipeE_len, wipe_length]; exact r.len, fun i d h1 h2 => ?_, fun i d h1 h2 => ?_, fun i j d1 d2 q hij h1 h2 h3 h4 h5 h6 => ?_⟩
  · obtain ⟨ho, a, ds, q1, q2, q3⟩ := r.bag hb
    have h0 : 0 ∉ vs := fun z => (wpOk_at h z).2 hb rfl
    exact ⟨ho, a, ds, q1, by rw [s1 h0]; exact q2, by rw [(wipeE_at en 0 vs).2 h0]; exact q3⟩
  · obtain ⟨hi, h3⟩ := e1 h2
    rw [s1 hi]
    exact r.sh i d h1 h3
  · obtain ⟨hi, h3⟩ := e1 h2
    rw [s1 hi]
    exact r.ow i d h1 h3
  · obtain ⟨hi, h3⟩ := e1 h3
    obtain ⟨hj, h4⟩ := e1 h4
    rw [s1 hi] at h5
    rw [s1 hj] at h6
    exact r.dis i j d1 d2 q hij h1 h2 h3 h4 h5 h6
theorem Rl.back (r0 : Rl K mg b m f Hs en σ H) (s : Same Hs Hs') (r : Rl K mg b m f Hs' en' (L2.wipe σ vs) H') (h : wpOk b m vs = true) : Rl K mg b m f Hs' (backE en en' vs) σ H' := by
  have hl : en.length = en'.length := by rw [r0.len, r.len, wipe_length]
  have s1 : ∀ {i}, i ∉ vs → (L2.wipe σ vs)[i]? = σ[i]? := fun {i} hi => (wipeS_at σ i vs).2 hi
  have own : ∀ {i}, ownAt m i = true → i ∉ vs := fun {i} ho z => by
    have := (wpOk_at h z).1
    rw [ho] at this
    cases this
  refine ⟨r.sub, r.base, r.ext, r.keep, fun hb => ?_, r.nobag, by rw [backE_len, ← hl]; exact r0.len, fun i d h1 h2 => ?_, fun i d h1 h2 => ?_, fun i j d1 d2 q hij h1 h2 h3 h4 h5 h6 => ?_⟩
  · obtain ⟨ho, a, ds, q1, q2, q3⟩ := r.bag hb
    have h0 : 0 ∉ vs := own ho
    exact ⟨ho, a, ds, q1, by rw [← s1 h0]; exact q2, by rw [(backE_at en en' 0 vs hl).2 h0]; exact q3⟩
  · by_cases hi : i ∈ vs
    · rw [(backE_at en en' i vs hl).1 hi] at h2
      obtain ⟨v, q1, q2⟩ := r0.sh i d h1 h2
      exact ⟨v, q1, q2.mono s⟩
    · rw [(backE_at en en' i vs hl).2 hi] at h2
      obtain ⟨v, q1, q2⟩ := r.sh i d h1 h2
      exact ⟨v, by rw [← s1 hi]; exact q1, q2⟩
  · have hi := own h1
    rw [(backE_at en en' i vs hl).2 hi] at h2
    obtain ⟨p, o, q1, q2⟩ := r.ow i d h1 h2
    exact ⟨p, o, by rw [← s1 hi]; exact q1, q2⟩
  · have hi := own h1
    have hj := own h2
    rw [(backE_at en en' i vs hl).2 hi] at h3
    rw [(backE_at en en' j vs hl).2 hj] at h4
    exact r.dis i j d1 d2 q hij h1 h2 h3 h4 (by rw [s1 hi]; exact h5) (by rw [s1 hj]; exact h6)
/-! a new list that nobody else sees -/
def Fr.with (f : Fr) (D : Addr) (o : HO) : Fr := { f with H0 := upd f.H0 D o }
theorem Rl.guard (r : Rl K mg b m f Hs en σ H) {D : Addr} {o : HO} (hD : H D = none) : Rl K mg b m (f.with D o) Hs en σ (upd H D o) ∧ f.io ≠ some D ∧ f.H0 D = none ∧ f.Hc D = none := by
  have r1 := r.fresh (o := o) hD
  have hs : Hs D = none := r.sub.free hD
  have hc : f.Hc D = none := r.base.free hs
  have h0 : f.H0 D = none := by
    cases e : f.H0 D with
    | none => rfl
    | some u =>
      obtain ⟨o', e'⟩ := r.there e
      rw [hD] at e'
      cases e'
  have hio : f.io ≠ some D := fun z => by
    cases hb : b with
    | false => rw [r.nobag hb] at z; cases z
    | true =>
      obtain ⟨a, us, ds, q1, _, _, q4, _⟩ := r.bagAt hb
      rw [q1] at z
      cases z
      rw [hD] at q4
      cases q4
  refine ⟨⟨r1.sub, r1.base, fun a z e => ?_, fun a z e ni => ?_, r1.bag, r1.nobag, r1.len, r1.sh, fun i d h1 h2 => ?_, r1.dis⟩, hio, h0, hc⟩
  · by_cases ha : a = D
    · rw [ha, hs]
      exact hc.symm
    · exact r.ext a z (by rw [← e]; exact (upd_ne ha).symm)
  · by_cases ha : a = D
    · rw [ha] at e ⊢
      have e' : upd f.H0 D o D = some z := e
      rw [upd_same] at e' ⊢
      exact e'
    · exact r1.keep a z (by rw [← e]; exact (upd_ne ha).symm) ni
  · obtain ⟨p, u, q1, q2, q3, q4, q5⟩ := r1.ow i d h1 h2
    refine ⟨p, u, q1, q2, q3, fun w e => ?_, q5⟩
    by_cases hp : p = D
    · obtain ⟨p', u', k1, k2, _⟩ := r.ow i d h1 h2
      rw [q1] at k1
      cases k1
      rw [hp, hD] at k2
      cases k2
    · exact q4 w (by rw [← e]; exact (upd_ne hp).symm)
theorem Rl.guarded {D : Addr} {o : HO} (r : Rl K mg b m (f.with D o) Hs en σ H) (hio : f.io ≠ some D) (hc : f.Hc D = none) : H D = some o ∧ Hs D = none :=
  ⟨r.keep D o upd_same hio, (r.ext D o upd_same).trans hc⟩
theorem Rl.unguard {D : Addr} {o : HO} (r : Rl K mg b m (f.with D o) Hs en σ H) (h0 : f.H0 D = none) : Rl K mg b m f Hs en σ H := by
  have q : ∀ a u, f.H0 a = some u → (f.with D o).H0 a = some u := fun a u e => (upd_ne (ne_of_none e h0)).trans e
  exact ⟨r.sub, r.base, fun a u e => r.ext a u (q a u e), fun a u e ni => r.keep a u (q a u e) ni, r.bag, r.nobag, r.len, r.sh, fun i d h1 h2 => by
    obtain ⟨p, u, q1, q2, q3, q4, q5⟩ := r.ow i d h1 h2
    exact ⟨p, u, q1, q2, q3, fun w e => q4 w (q p w e), q5⟩, r.dis⟩
theorem Rl.apart {D : Addr} {o : HO} (r : Rl K mg b m (f.with D o) Hs en σ H) (hio : f.io ≠ some D) : ∀ i e, ownAt m i = true → en[i]? = some (some e) → σ[i]? ≠ some (some (.ref D)) := fun i e h1 h2 h3 => by
  obtain ⟨p, u, q1, q2, q3, q4, q5⟩ := r.ow i e h1 h2
  rw [h3] at q1
  cases q1
  exact hio (q4 o upd_same)
theorem Rl.reguard {D : Addr} {o o' : HO} (r : Rl K mg b m (f.with D o) Hs en σ H) (hio : f.io ≠ some D) (h0 : f.H0 D = none) (hc : f.Hc D = none) : Rl K mg b m (f.with D o') Hs en σ (upd H D o') := by
  have hs := (r.guarded hio hc).2
  have ne : ∀ {a u}, f.H0 a = some u → a ≠ D := fun e => ne_of_none e h0
  refine ⟨fun a u e => ?_, r.base, fun a z e => ?_, fun a z e ni => ?_, r.bag, r.nobag, r.len, r.sh, fun i d h1 h2 => ?_, r.dis⟩
  · rw [upd_ne (ne_of_none e hs)]
    exact r.sub a u e
  · by_cases ha : a = D
    · rw [ha, hs]
      exact hc.symm
    · exact r.ext a z (by rw [← e]; exact (upd_ne ha).trans (upd_ne ha).symm)
  · by_cases ha : a = D
    · rw [ha] at e ⊢
      have e' : upd f.H0 D o' D = some z := e
      rw [upd_same] at e' ⊢
      exact e'
    · rw [upd_ne ha]
      exact r.keep a z (by rw [← e]; exact (upd_ne ha).trans (upd_ne ha).symm) ni
  · obtain ⟨p, u, q1, q2, q3, q4, q5⟩ := r.ow i d h1 h2
    have hp : p ≠ D := fun z => by
      rw [z] at q4
      exact hio (q4 o upd_same)
    exact ⟨p, u, q1, by rw [upd_ne hp]; exact q2, q3, fun w e => q4 w (by rw [← e]; exact (upd_ne hp).trans (upd_ne hp).symm), q5⟩
end
/-- a target's store keeps how many slots there are -/
def Keeps (g : PyData → En → Option En) : Prop := ∀ d en en', g d en = some en' → en'.length = en.length
def KeepsL (g : List PyData → En → Option En) : Prop := ∀ d en en', g d en = some en' → en'.length = en.length
theorem kp_n (i : Nat) : Keeps (gN i) := fun d en en' h => by
  unfold gN at h
  split at h
  · cases h
    rw [List.length_set]
  · cases h
theorem kp_nil : KeepsL gsN := fun ds en en' h => by
  unfold gsN at h
  split at h
  · cases h
    rfl
  · cases h
theorem kp_cons {g : PyData → En → Option En} {r : List PyData → En → Option En} (h1 : Keeps g) (h2 : KeepsL r) : KeepsL (gsC g r) := fun ds en en' h => by
  unfold gsC at h
  split at h
  · rename_i d ds
    cases e : g d en with
    | none => rw [e] at h; cases h
    | some en1 =>
      rw [e] at h
      exact (h2 _ _ _ h).trans (h1 _ _ _ e)
  · cases h
theorem kp_t {r : List PyData → En → Option En} (h : KeepsL r) : Keeps (gT r) := fun d en en' e => by
  unfold gT at e
  split at e
  · exact h _ _ _ e
  · cases e
/-- no raise goes out of a comprehension -/
abbrev WF : WX := fun _ _ _ _ => False
theorem tkF {X : Cx} : Takes X WF := fun _ _ x => by
  obtain ⟨_, _, _, _, _, _, _, _, _, _, _, _, _, _, _, _, w⟩ := x
  exact w.elim
theorem ttv_yes {K : PySem.W.Frag} {mg : Str → Option Value} {b : Bool} {m : List Bool} {W : WX} {σ : L2.St} {H : Hp} {Q : Bool → Hp → Prop} (h : ttv K mg b m W eYes σ H Q) : tYes σ H Q := by
  obtain ⟨f, Hs, en, r, h⟩ := h
  exact h H Hs r (Same.refl _)
section
variable {X : Cx} {b : Bool} {m mT : List Bool} {W : WX} {vs ts : List Nat} {ev : En → R (List PyData)} {g : PyData → En → Option En} {tt : En → R Bool} {te : En → R PyData}
theorem t_lc (hk : Keeps g) (hts : ∀ i ∈ ts, i ∈ vs) (hw : wpOk b m vs = true) (hmT : mT = m) {wi : TI} {σ : L2.St} {H : Hp} {Q : VK} (hi : ∀ R, tiv X.K X.mg b m W ev σ H R → wi σ H R) (h : tfv X.K X.mg b m W (eLc vs ev g tt te) σ H Q) :
    tLc wi (tgt X.K X.mg b m mT ts g) (ttv X.K X.mg b m WF tt) (tv X.K X.mg b m WF te) vs σ H Q := by
  subst hmT
  obtain ⟨f, Hs, en, r, h⟩ := h
  refine hi _ ⟨f, Hs, en, r, ?_⟩
  unfold eLc at h
  cases e1 : ev en with
  | stuck => simp only [e1, R.bind] at h
  | exc x en1 => simp only [e1, R.bind] at h; exact h
  | ok ds en1 =>
    simp only [e1, R.bind] at h
    intro J H1 Hs1 r1 s1 wk1 D hD
    obtain ⟨rg, hio, h0, hc⟩ := (r1.wipe hw).guard (o := .lst []) hD
    refine ⟨fun i n H2 => n = ds.length - i ∧ i ≤ ds.length ∧ ∃ Hs2 en2 us acc, Rl X.K X.mg b mT (f.with D (.lst us)) Hs2 en2 (L2.wipe σ vs) H2 ∧ Same Hs1 Hs2 ∧ RpAll X.K X.mg Hs2 us acc ∧ lcL vs g tt te ds (wipeE en1 vs) [] = lcL vs g tt te (ds.drop i) en2 acc,
      ⟨ds.length, by simp, Nat.zero_le _, Hs1, wipeE en1 vs, [], [], rg, Same.refl _, .nil, by rw [List.drop_zero]⟩, ?_⟩
    rintro i n H2 ⟨rfl, hle, Hs2, en2, us, acc, r2, s2, l2, eqL⟩
    by_cases hlt : i < ds.length
    · refine .inr ⟨wk1.go i Hs2 H2 s2 r2.sub hlt, fun H3 => ∃ Hs3 en3 us3 acc3, Rl X.K X.mg b mT (f.with D (.lst us3)) Hs3 en3 (L2.wipe σ vs) H3 ∧ Same Hs1 Hs3 ∧ RpAll X.K X.mg Hs3 us3 acc3 ∧ lcL vs g tt te ds (wipeE en1 vs) [] = lcL vs g tt te (ds.drop (i + 1)) en3 acc3,
        fun H' ⟨Hs3, en3, us3, acc3, q1, q2, q3, q4⟩ => ⟨ds.length - (i + 1), by omega, rfl, hlt, Hs3, en3, us3, acc3, q1, q2, q3, q4⟩, fun x H3 y => ?_⟩
      obtain ⟨d, Hs3, ed, al, p3⟩ := wk1.yld i Hs2 H2 x H3 s2 r2.sub hlt y
      obtain ⟨r3, s3⟩ := r2.al al
      have edr : ds.drop i = d :: ds.drop (i + 1) := by
        obtain ⟨hl, e'⟩ := List.getElem?_eq_some_iff.mp ed
        rw [List.drop_eq_getElem_cons hl, e']
      rw [edr] at eqL
      rw [eqL] at h
      unfold lcL at h
      refine ⟨_, Hs3, en2, d, r3, p3, ?_⟩
      cases e2 : g d en2 with
      | none => simp only [e2] at h
      | some en3 =>
        simp only [e2] at h
        intro σ4 H4 Hs4 r4 s4 k4
        have hlen : σ4.length = (L2.wipe σ vs).length := by rw [← r4.len, ← r3.len, hk d en2 en3 e2]
        have wip : L2.wipe σ4 vs = L2.wipe σ vs := by
          have e4 := wipe_eq (vs := vs) hlen fun k hk' => k4 k fun z => hk' (hts k z)
          rw [e4]
          exact wipe_eq (by rw [wipe_length]) fun k hk' => (wipeS_at σ k vs).2 hk'
        refine ⟨wip, _, Hs4, en3, r4, ?_⟩
        cases e3 : tt en3 with
        | stuck => simp only [e3] at h
        | exc x en4 => simp only [e3] at h
        | ok k en4 =>
          intro H5 Hs5 r5 s5
          cases k with
          | false =>
            simp only [e3] at h
            rw [if_neg Bool.false_ne_true]
            have r6 := r5.wipe hw
            rw [wip] at r6
            refine ⟨Hs5, wipeE en4 vs, us, acc, r6, ((s2.trans s3).trans s4).trans s5, ((l2.mono s3).mono s4).mono s5, ?_⟩
            rw [eqL]
            conv => lhs; unfold lcL
            simp only [e2, e3]
          | true =>
            simp only [e3] at h
            rw [if_pos rfl]
            refine ⟨_, Hs5, en4, r5, ?_⟩
            cases e4 : te en4 with
            | stuck => simp only [e4] at h
            | exc x en5 => simp only [e4] at h
            | ok y en5 =>
              simp only [e4] at h
              intro v H6 Hs6 r6 s6 p6
              obtain ⟨hD6, _⟩ := r6.guarded hio hc
              by_cases hcap : acc.length < 1000000
              · have hl2 := l2.length
                refine ⟨us, hD6, Nat.lt_of_lt_of_le (by rw [hl2]; exact hcap) (by decide), ?_⟩
                have r7 := (r6.wipe hw).reguard (o' := .lst (us ++ [v])) hio h0 hc
                rw [wip] at r7
                refine ⟨Hs6, wipeE en5 vs, us ++ [v], acc ++ [y], r7, (((s2.trans s3).trans s4).trans s5).trans s6, ((((l2.mono s3).mono s4).mono s5).mono s6).append (.cons p6 .nil), ?_⟩
                rw [eqL]
                conv => lhs; unfold lcL
                simp only [e2, e3, e4, if_pos hcap]
              · rw [if_neg hcap] at h
                exact h.elim
    · have ei : i = ds.length := by omega
      subst ei
      refine .inl ⟨wk1.stop Hs2 H2 s2 r2.sub, ?_⟩
      rw [List.drop_length] at eqL
      rw [eqL] at h
      unfold lcL at h
      simp only at h
      obtain ⟨hD2, hs2⟩ := r2.guarded hio hc
      have r3 := Rl.back r1 s2 (r2.unguard h0) hw
      refine h D _ H2 Hs2 r3 (s1.trans s2) hD2 hs2 (fun u e => by rw [h0] at e; cases e) (fun k e k1 k2 k3 => ?_) (.lst l2)
      have hk : k ∉ vs := fun z => by
        have := (wpOk_at hw z).1
        rw [k1] at this
        cases this
      have hl : en1.length = en2.length := by rw [r1.len, r2.len, wipe_length]
      rw [(backE_at en1 en2 k vs hl).2 hk] at k2
      exact r2.apart hio k e k1 k2 (by rw [(wipeS_at σ k vs).2 hk]; exact k3)
end
section
variable {X : Cx} {M : Mk} {b : Bool} {m mT : List Bool} {W : WX} {ts : List Nat} {ev : En → R (List PyData)} {g : PyData → En → Option En} {tt : En → R Bool} {te : En → R PyData} {elt tg iter : Expr} {ifs : List Expr} {scope : Scope} {own : List (Str × Nat)} {pos spos py : Pos} {y : Str}
theorem cf_lc (own : List (Str × Nat)) (hc : X.calm = true) (nd : X.N.Nodup) (hi : CI X b m W tg iter ev)
    (hg : ∀ (s : Shared) (H : Hp) (C : Addr) (cl : List (Str × Addr)) (fp : List Addr), CG (X.blk s H scope (compEnvC scope cl C X.env) fp) b m mT ts tg g)
    (ht : ∀ (s : Shared) (H : Hp) (C : Addr) (cl : List (Str × Addr)) (fp : List Addr), PTs (X.blk s H scope (compEnvC scope cl C X.env) fp) ifs (ttv X.K X.mg b m WF tt))
    (he : ∀ (s : Shared) (H : Hp) (C : Addr) (cl : List (Str × Addr)) (fp : List Addr), CE (X.blk s H scope (compEnvC scope cl C X.env) fp) b m WF elt te)
    (hk : Keeps g) (ok : BlkOk X.N X.env.scope scope own := by exact blkOk_by (by rfl)) (hts : ∀ i ∈ ts, i ∈ own.map (·.2) := by decide) (hw : wpOk b m (own.map (·.2)) = true := by rfl) (hmT : mT = m := by rfl)
    (hs : ∀ x, foldedSetIterable iter X.env x = pure x := by intro _; rfl) : CF X b m W (.ListComp elt [⟨tg, iter, ifs, 0⟩] scope pos) (eLc (own.map (·.2)) ev g tt te) :=
  (pe_lc hc nd hi ok hg ht he hs).imp fun σ H Q h => t_lc hk hts hw hmT (fun R q => q) h
theorem cs_setLc (i : Nat) (own : List (Str × Nat)) (hc : X.calm = true) (nd : X.N.Nodup) (hi : CI X M.b m W tg iter ev)
    (hg : ∀ (s : Shared) (H : Hp) (C : Addr) (cl : List (Str × Addr)) (fp : List Addr), CG (X.blk s H scope (compEnvC scope cl C X.env) fp) M.b m mT ts tg g)
    (ht : ∀ (s : Shared) (H : Hp) (C : Addr) (cl : List (Str × Addr)) (fp : List Addr), PTs (X.blk s H scope (compEnvC scope cl C X.env) fp) ifs (ttv X.K X.mg M.b m WF tt))
    (he : ∀ (s : Shared) (H : Hp) (C : Addr) (cl : List (Str × Addr)) (fp : List Addr), CE (X.blk s H scope (compEnvC scope cl C X.env) fp) M.b m WF elt te)
    (hk : Keeps g) (ok : BlkOk X.N X.env.scope scope own := by exact blkOk_by (by rfl)) (hts : ∀ i ∈ ts, i ∈ own.map (·.2) := by decide) (hw : wpOk M.b m (own.map (·.2)) = true := by rfl) (hmT : mT = m := by rfl)
    (hm : i < m.length := by decide) (h0 : (!M.b || i != 0) = true := by rfl) (hx : wk m M.mx M.b = true := by rfl) (hN : X.N[i]? = some y := by rfl) (hyl : X.env.scope.names.lookup y = some .local := by rfl)
    (hsw : swapsWith (.ListComp elt [⟨tg, iter, ifs, 0⟩] scope pos) (some (.Name y py)) spos.line X.env = pure true := by exact sw_true rfl rfl rfl (by decide +kernel))
    (hs : ∀ x, foldedSetIterable iter X.env x = pure x := by intro _; rfl) : CS X M m (m.set i true) W (.Assign [.Name y py] (.ListComp elt [⟨tg, iter, ifs, 0⟩] scope pos) spos) (sSet i (eLc (own.map (·.2)) ev g tt te)) :=
  (ps_setLc hc nd hN hyl hsw hi ok hg ht he hs).imp fun D σ H h => by
    refine t_lc (te := te) hk hts hw hmT (fun R q => q) ?_
    obtain ⟨f, Hs, en, r, h⟩ := h
    unfold sSet at h
    refine ⟨f, Hs, en, r, ?_⟩
    cases e : eLc (own.map (·.2)) ev g tt te en with
    | ok d en' =>
      rw [e] at h
      intro q o H' Hs' r' s' e1 e2 e3 e4 ob
      simp only at h
      split at h
      · exact h _ H' Hs' (r'.setF hm h0 e1 e2 e3 e4 ob) s'
      · exact h.elim
    | exc x en' => rw [e] at h; exact XcC.of rfl hx h
    | stuck => rw [e] at h; exact h
end
end VS

/-! VS15 -/
namespace VS
open PySem L2

/-! ### slices -/
def tov (K : PySem.W.Frag) (mg : Str → Option Value) (b : Bool) (m : List Bool) (W : WX) (ev : En → R (Option Int)) : TO := fun σ H Q => ∃ f Hs en, Rl K mg b m f Hs en σ H ∧ match ev en with
  | .ok o en' => ContB K mg b m f Hs en' σ (Q o)
  | .exc x en' => ContX K mg b m f Hs en' σ x W
  | .stuck => False
abbrev CO (X : Cx) (b : Bool) (m : List Bool) (W : WX) (e : Option Expr) (ev : En → R (Option Int)) : Prop := PO X e (tov X.K X.mg b m W ev)
def pNo : En → R (Option Int) := fun en => .ok none en
def pYes (ea : En → R PyData) : En → R (Option Int) := fun en => match ea en with
  | .ok (.int i) en' => .ok (some i) en'
  | .exc x en' => .exc x en'
  | _ => .stuck
def cutD (ds : List PyData) (lo hi : Option Int) : List PyData := (ds.drop (HT.sIx ds.length 0 lo)).take (HT.sIx ds.length ds.length hi - HT.sIx ds.length 0 lo)
def dSl : PyData → Option Int → Option Int → Option PyData
  | .list ds, lo, hi => some (.list (cutD ds lo hi))
  | .tuple ds, lo, hi => some (.tuple (cutD ds lo hi))
  | .str z, lo, hi => if z.length ≤ 1000000 then some (.str (cutS z lo hi)) else none
  | _, _, _ => none
def eSl (ea : En → R PyData) (pl pu : En → R (Option Int)) : En → R PyData := fun en => (ea en).bind fun d en1 => (pl en1).bind fun lo en2 => (pu en2).bind fun hi en3 => R.ofO (dSl d lo hi) en3
section
variable {K : PySem.W.Frag} {mg : Str → Option Value} {H : Hp}
theorem cut_rp {us : List V} {ds : List PyData} (l : RpAll K mg H us ds) (lo hi : Option Int) : RpAll K mg H (cutV us lo hi) (cutD ds lo hi) := by
  unfold cutV cutD
  rw [l.length]
  exact (l.drop _).take _
end
section
variable {X : Cx} {b : Bool} {m : List Bool} {W : WX} {e : Expr} {lo hi : Option Expr} {ea : En → R PyData} {pl pu : En → R (Option Int)} {pos p2 : Pos}
theorem _root_.L2.PO.imp {e : Option Expr} {t t' : TO} (h : PO X e t) (i : ∀ σ H Q, t' σ H Q → t σ H Q) : PO X e t' := ⟨fun pins s σ H Q I q => h.run pins s σ H Q I (i σ H Q q)⟩
theorem co_no : CO X b m W none pNo := po_none.imp fun σ H Q h => by
  obtain ⟨f, Hs, en, r, h⟩ := h
  exact h H Hs r (Same.refl _)
theorem co_yes (h : CE X b m W e ea) : CO X b m W (some e) (pYes ea) := (po_some h).imp fun σ H Q h => by
  obtain ⟨f, Hs, en, r, h⟩ := h
  unfold pYes at h
  refine ⟨f, Hs, en, r, ?_⟩
  cases e1 : ea en with
  | stuck => rw [e1] at h; exact h
  | exc x en' => rw [e1] at h; exact h
  | ok d en' =>
    rw [e1] at h
    cases d with
    | int i => exact fun v H' Hs' r' s' p' => ⟨i, p'.int_inv, h H' Hs' r' s'⟩
    | none => exact h.elim
    | bool _ => exact h.elim
    | str _ => exact h.elim
    | list _ => exact h.elim
    | tuple _ => exact h.elim
    | dict _ => exact h.elim
theorem ce_sl (h : CE X b m W e ea) (hl : CO X b m W lo pl) (hu : CO X b m W hi pu) : CE X b m W (.Subscript e (.Slice lo hi none p2) pos) (eSl ea pl pu) :=
  (pe_slice (sl_list.or (sl_tupA.or sl_str)) h hl hu).imp fun σ H Q h => by
    obtain ⟨f, Hs, en, r, h⟩ := h
    unfold eSl at h
    refine ⟨f, Hs, en, r, ?_⟩
    cases e1 : ea en with
    | stuck => simp only [e1, R.bind] at h
    | exc x en' => simp only [e1, R.bind] at h; exact h
    | ok d en1 =>
      simp only [e1, R.bind] at h
      intro v H1 Hs1 r1 s1 p1
      refine ⟨f, Hs1, en1, r1, ?_⟩
      cases e2 : pl en1 with
      | stuck => simp only [e2] at h
      | exc x en' => simp only [e2] at h; exact ContX.back h s1
      | ok lo en2 =>
        simp only [e2] at h
        intro H2 Hs2 r2 s2
        refine ⟨f, Hs2, en2, r2, ?_⟩
        cases e3 : pu en2 with
        | stuck => simp only [e3] at h
        | exc x en' => simp only [e3] at h; exact ContX.back h (s1.trans s2)
        | ok hi en3 =>
          simp only [e3] at h
          intro H3 Hs3 r3 s3
          have s13 := (s1.trans s2).trans s3
          have p3 := (p1.mono s2).mono s3
          cases e4 : dSl d lo hi with
          | none => simp only [e4, R.ofO] at h
          | some z =>
            simp only [e4, R.ofO] at h
            unfold dSl at e4
            split at e4
            · cases e4
              obtain ⟨a, us, rfl, h1, l⟩ := p3.lst_inv
              refine .inl ⟨a, us, rfl, .of (r3.sub _ _ h1), fun p hp => ?_⟩
              obtain ⟨r4, s4⟩ := r3.alloc (o := .lst (cutV us lo hi)) hp
              exact h _ _ _ r4 (s13.trans s4) (.lst upd_same (cut_rp (l.mono s4) lo hi))
            · cases e4
              obtain ⟨a, us, rfl, h1, l⟩ := p3.tup_inv
              refine .inr (.inl ⟨a, us, rfl, seqT_mono r3.sub h1, fun hw => ?_, fun hw p hp => ?_⟩)
              · refine h _ H3 Hs3 r3 s13 ?_
                have ec := cut_rp l lo hi
                have e5 : cutV us lo hi = us := by
                  unfold cutV
                  rw [hw.1, hw.2]
                  simp
                rw [e5] at ec
                exact .tup h1 ec
              · obtain ⟨r4, s4⟩ := r3.alloc (o := .tup (cutV us lo hi)) hp
                exact h _ _ _ r4 (s13.trans s4) (.tup (.inl (.inl upd_same)) (cut_rp (l.mono s4) lo hi))
            · split at e4
              · rename_i z' hz
                cases e4
                exact .inr (.inr ⟨z', p3.str_inv, cap_line hz, h _ H3 Hs3 r3 s13 (.str _)⟩)
              · cases e4
            · cases e4
end
/-! ### sum, of lists and of tuples -/
def rSumT (K : PySem.W.Frag) : List V → Hp → VK → Prop := fun vs H Q => ∃ (a : Addr) (ns : List Int), vs = [V.ref a] ∧ SqT K H a (ns.map V.int) ∧ Q (.int ns.sum) H
theorem cr_sumT {X : Cx} (hc : X.calm = true) : CallR X (.builtin "sum") (rSumT X.K) := by
  intro pins s σ H vs us Q I r h
  obtain ⟨a, ns, rfl, hs, q⟩ := h
  obtain ⟨its, rv, hl, _⟩ := I.tuple hs
  rw [Vals.ref1 r]
  have hi := rv.ints
  obtain ⟨xs, e⟩ := hi.allInts.items
  have hn : PySem.numsOf (intItems xs).toList = ns := by rw [← e]; exact hi.numsOf
  rw [PySem.nums_intItems] at hn
  rw [e] at hl
  refine PySem.W.ktm_sumG (I.ok.hd hc) hl fun h' tk t' hk => ?_
  refine ⟨.int _, H, I.kept hk, ⟨t', ?_⟩, q⟩
  rw [PySem.preSum_eq, List.take_of_length_le (by simp), hn]
theorem callR_or {X : Cx} {f : Value} {r r' : List V → Hp → VK → Prop} (h : CallR X f r) (h' : CallR X f r') : CallR X f (fun vs H Q => r vs H Q ∨ r' vs H Q) := by
  intro pins s σ H vs us Q I rv q
  rcases q with q | q
  · exact h pins s σ H vs us Q I rv q
  · exact h' pins s σ H vs us Q I rv q
def gSum : List PyData → Option PyData
  | [.list ds] => (ints? ds).map fun ns => .int ns.sum
  | [.tuple ds] => (ints? ds).map fun ns => .int ns.sum
  | _ => none
def rSumA (K : PySem.W.Frag) : List V → Hp → VK → Prop := fun vs H Q => rSum K vs H Q ∨ rSumT K vs H Q
theorem cr_sumA {X : Cx} (hc : X.calm = true) : CallR X (.builtin "sum") (rSumA X.K) := callR_or (cr_sum hc) (cr_sumT hc)
theorem s_sum {K : PySem.W.Frag} {mg : Str → Option Value} : CbS K mg (rSumA K) gSum := by
  intro b m f Hs en σ H vs ds d Q r p hg h
  unfold gSum at hg
  split at hg
  · rename_i es
    obtain ⟨v, rfl, q⟩ := rpAll_1 p
    cases e : ints? es with
    | none => rw [e] at hg; cases hg
    | some ns =>
      rw [e] at hg
      cases hg
      obtain ⟨a, us, rfl, h1, l⟩ := q.lst_inv
      have hes := ints_eq e
      subst hes
      have hu := rpAll_ints l
      subst hu
      exact .inl ⟨a, ns, rfl, .of (r.sub _ _ h1), h _ H Hs r (Same.refl _) (.int _)⟩
  · rename_i es
    obtain ⟨v, rfl, q⟩ := rpAll_1 p
    cases e : ints? es with
    | none => rw [e] at hg; cases hg
    | some ns =>
      rw [e] at hg
      cases hg
      obtain ⟨a, us, rfl, h1, l⟩ := q.tup_inv
      have hes := ints_eq e
      subst hes
      have hu := rpAll_ints l
      subst hu
      exact .inr ⟨a, ns, rfl, seqT_mono r.sub h1, h _ H Hs r (Same.refl _) (.int _)⟩
  · cases hg
end VS

/-! VS16 -/
namespace VS
open PySem L2
open PyProof.Rows (envOfC)

/-! ### a def's contract -/
def bagOf (en : En) : PyData := match en[0]? with
  | some (some d) => d
  | _ => .none
def fin (fr : Bool) : Out → Fv
  | .nx en => if fr then .stuck else .ok .none (bagOf en)
  | .rt d en => .ok d (bagOf en)
  | .exc x en => .exc x (bagOf en)
  | _ => .stuck
def en0 (N : Nat) (ds : List PyData) : En := ds.map some ++ List.replicate (N - ds.length) none
def fnEv (fr : Bool) (N n : Nat) (body : En → Out) : List PyData → Fv := fun ds => if ds.length = n then fin fr (body (en0 N ds)) else .stuck
abbrev mkOf (b fr : Bool) : Mk := ⟨b, fr, [], [], [b]⟩
abbrev wxOf (E : XK) : WX := fun cls d _ H => E cls d H
def msk0 (b : Bool) (N : Nat) : List Bool := b :: List.replicate (N - 1) false
theorem own_msk {b : Bool} {N i : Nat} (h : ownAt (msk0 b N) i = true) : b = true ∧ i = 0 := by
  unfold ownAt msk0 at h
  cases i with
  | zero => exact ⟨h, rfl⟩
  | succ i =>
    rw [List.getD_eq_getElem?_getD, List.getElem?_cons_succ, List.getElem?_replicate] at h
    split at h
    · cases h
    · cases h
theorem at_start {t : Type} (vs : List t) (n : Nat) (i : Nat) (x : t) (h : (vs.map some ++ List.replicate n none)[i]? = some (some x)) : vs[i]? = some x := by
  by_cases hi : i < vs.length
  · rw [List.getElem?_append_left (by rw [List.length_map]; exact hi), List.getElem?_map] at h
    cases e : vs[i]? with
    | none => rw [e] at h; cases h
    | some y => rw [e] at h; cases h; rfl
  · rw [List.getElem?_append_right (by rw [List.length_map]; omega), List.getElem?_replicate] at h
    split at h <;> cases h
theorem of_start {t : Type} {vs : List t} (n : Nat) {i : Nat} {x : t} (h : vs[i]? = some x) : (vs.map some ++ List.replicate n none)[i]? = some (some x) := by
  have hi := (List.getElem?_eq_some_iff.mp h).1
  rw [List.getElem?_append_left (by rw [List.length_map]; exact hi), List.getElem?_map, h]
  rfl
section
variable {K : PySem.W.Frag} {mg : Str → Option Value}
theorem rl_start {b : Bool} {N : Nat} {Hc H : Hp} {io : Option Addr} {vs : List V} {ds : List PyData} (s : Same Hc H)
    (h : if b = true then ∃ a us l ws es, io = some a ∧ vs = .ref a :: ws ∧ ds = .list l :: es ∧ H a = some (.lst us) ∧ Hc a = none ∧ RpAll K mg Hc us l ∧ RpAll K mg Hc ws es else io = none ∧ RpAll K mg Hc vs ds) (hl : vs.length = ds.length) :
    Rl K mg b (msk0 b N) ⟨Hc, H, io⟩ Hc (en0 N ds) (vs.map some ++ List.replicate (N - vs.length) none) H := by
  refine ⟨s, Same.refl _, fun _ _ _ => rfl, fun _ _ e _ => e, fun hb => ?_, fun hb => ?_, by simp [en0, hl], fun i d h1 h2 => ?_, fun i d h1 h2 => ?_, fun i j d1 d2 q hij h1 h2 _ _ _ _ => ?_⟩
  · rw [if_pos hb] at h
    obtain ⟨a, us, l, ws, es, rfl, rfl, rfl, h1, h2, h3, h4⟩ := h
    exact ⟨by rw [hb]; rfl, a, l, rfl, of_start _ rfl, of_start _ rfl⟩
  · rw [hb, if_neg Bool.false_ne_true] at h
    exact h.1
  · have h3 := at_start ds _ i d h2
    cases hb : b with
    | false =>
      rw [hb, if_neg Bool.false_ne_true] at h
      obtain ⟨v, q1, q2⟩ := h.2.get h3
      exact ⟨v, of_start _ q1, q2⟩
    | true =>
      rw [hb, if_pos rfl] at h
      obtain ⟨a, us, l, ws, es, rfl, rfl, rfl, k1, k2, k3, k4⟩ := h
      cases i with
      | zero => rw [hb] at h1; cases h1
      | succ i =>
        obtain ⟨v, q1, q2⟩ := k4.get (i := i) (by simpa using h3)
        exact ⟨v, of_start _ (by simpa using q1), q2⟩
  · obtain ⟨hb, rfl⟩ := own_msk h1
    have h3 := at_start ds _ 0 d h2
    rw [if_pos hb] at h
    obtain ⟨a, us, l, ws, es, rfl, rfl, rfl, k1, k2, k3, k4⟩ := h
    cases h3
    exact ⟨a, _, of_start _ rfl, k1, k2, fun u _ => rfl, .lst k3⟩
  · obtain ⟨_, rfl⟩ := own_msk h1
    obtain ⟨_, rfl⟩ := own_msk h2
    exact hij rfl
theorem Fo.aft {b : Bool} {Hc H Hs' H' : Hp} {io : Option Addr} {en : En} (r : Fo K mg b ⟨Hc, H, io⟩ Hs' en H') (hio : b = false → io = none) : Aft K mg io Hc H Hs' (bagOf en) H' := by
  refine ⟨r.sub, r.base, r.ext, r.keep, fun a ha => ?_⟩
  cases hb : b with
  | false => rw [hio hb] at ha; cases ha
  | true =>
    obtain ⟨a', us, ds, q1, q2, q3, q4, q5⟩ := r.bagc hb
    have e : some a' = some a := q1.symm.trans ha
    cases e
    refine ⟨us, ds, ?_, q3, q4, q5⟩
    unfold bagOf
    rw [q2]
theorem fin_out {b fr : Bool} {m2 : List Bool} {Hc H : Hp} {io : Option Addr} {Q : VK} {E : XK} {o : Out} (hio : b = false → io = none) (h : Post K mg fr io Hc H (fin fr o) Q E) :
    OutC K mg (mkOf b fr) (wxOf E) m2 ⟨Hc, H, io⟩ Hc o { nx := fun _ H' => Q .non H', rt := Q } := by
  cases o with
  | nx en =>
    unfold fin at h
    cases hf : fr with
    | true => rw [hf] at h; exact h.elim
    | false =>
      rw [hf] at h
      intro σ' H' Hs' r s
      refine h .non H' Hs' (r.fo.aft hio) ?_
      unfold Ret
      rw [if_neg Bool.false_ne_true]
      exact .non
  | rt d en =>
    intro v H' Hs' r s z
    refine h v H' Hs' (r.aft hio) ?_
    unfold Ret
    cases hf : fr with
    | true =>
      rw [hf] at z
      rw [if_pos rfl] at z ⊢
      obtain ⟨p, o, q1, q2, q3, q4, q5⟩ := z
      exact ⟨p, o, q1, q2, q3, q4, q5⟩
    | false =>
      rw [hf] at z
      rw [if_neg Bool.false_ne_true] at z ⊢
      exact z
  | exc x en => exact fun cls dd σ' H' Hs' r s xo => h cls dd H' Hs' (r.fo.aft hio) xo
  | bk en => exact h.elim
  | ct en => exact h.elim
  | stuck => exact h.elim
end
section
variable {P : Program} {w : World} {K : PySem.W.Frag} {mg : Str → Option Value} {base : Heap}
theorem fn_len {fr : Bool} {N n : Nat} {body : En → Out} {ds : List PyData} (h : fnEv fr N n body ds ≠ .stuck) : ds.length = n := by
  unfold fnEv at h
  by_cases c : ds.length = n
  · exact c
  · rw [if_neg c] at h
    exact absurd rfl h
theorem fnok_of {x : Str} {st : Stmt} {f : Addr} {fd : FuncData} {N ps : List Str} {k : Nat} {b fr : Bool} {m2 : List Bool} {body : En → Out} (F : Fun K x x st f fd) (S : FnScope N ps (defScope st))
    (hb : ∀ (cdv : Value) (A : Around) (outer : List Env) (s : Shared) (H : Hp) (E : XK), Room k (A.deeper (envOfC x (defScope st) s.heap.objs.size f cdv)) →
      CSs (cxOf (L2.CX P w) P w K mg base N x (defScope st) f cdv A outer s H E) (mkOf b fr) (msk0 b N.length) m2 (wxOf E) (defBody st) body) :
    FnOk P w K mg base (L2.CX P w) (k + 1) f fd ps (spV K mg b fr (fnEv fr N.length ps.length body) ps.length) := by
  refine F.okX S (fun vs H Q E h => h.1) fun cdv A outer s H vs Q E hr h => ?_
  refine ⟨_, hb cdv A outer s H E hr, ?_⟩
  obtain ⟨hl, h⟩ := h
  cases hbb : b with
  | false =>
    rw [hbb, if_neg Bool.false_ne_true] at h
    obtain ⟨Hc, ds, s1, p1, q⟩ := h
    have hl2 := p1.length
    refine ⟨⟨Hc, H, none⟩, Hc, en0 N.length ds, ?_, ?_⟩
    · exact rl_start (b := false) (N := N.length) s1 (by rw [if_neg Bool.false_ne_true]; exact ⟨rfl, p1⟩) hl2
    · refine fin_out (fun _ => rfl) ?_
      unfold fnEv at q
      rw [if_pos (by omega)] at q
      exact q
  | true =>
    rw [hbb, if_pos rfl] at h
    obtain ⟨Hc, a, us, l, ws, ds, rfl, s1, k1, k2, k3, k4, q⟩ := h
    have hl2 := k4.length
    rw [List.length_cons] at hl
    refine ⟨⟨Hc, H, some a⟩, Hc, en0 N.length (.list l :: ds), ?_, ?_⟩
    · exact rl_start (b := true) (N := N.length) s1 (by rw [if_pos rfl]; exact ⟨a, us, l, ws, ds, rfl, rfl, rfl, k1, k2, k3, k4⟩) (by rw [List.length_cons, List.length_cons, hl2])
    · refine fin_out (fun h => by cases h) ?_
      unfold fnEv at q
      rw [if_pos (by rw [List.length_cons]; omega)] at q
      exact q
theorem fnV_of {x : Str} {st : Stmt} {f : Addr} {fd : FuncData} {N ps : List Str} {k : Nat} {b fr : Bool} {m2 : List Bool} {body : En → Out} (F : Fun K x x st f fd) (S : FnScope N ps (defScope st)) (B : Binds K fd ps []) (hm : mg x = some (.ref f))
    (hb : ∀ (cdv : Value) (A : Around) (outer : List Env) (s : Shared) (H : Hp) (E : XK), Room k (A.deeper (envOfC x (defScope st) s.heap.objs.size f cdv)) →
      CSs (cxOf (L2.CX P w) P w K mg base N x (defScope st) f cdv A outer s H E) (mkOf b fr) (msk0 b N.length) m2 (wxOf E) (defBody st) body) :
    FnV P w K mg base (k + 1) x b fr ps.length (fnEv fr N.length ps.length body) :=
  ⟨⟨f, fd, ps, fnok_of F S hb, hm, F.kp, B⟩, fun ds h => fn_len h⟩
end
/-- what a body lets out is taken -/
theorem tk_body {P : Program} {w : World} {K : PySem.W.Frag} {mg : Str → Option Value} {base : Heap} {N : List Str} {qual : Str} {scope : Scope} {f : Addr} {cdv : Value} {A : Around} {outer : List Env} {s : Shared} {H : Hp} {E : XK} :
    Takes (cxOf (L2.CX P w) P w K mg base N qual scope f cdv A outer s H E) (wxOf E) := takes_of rfl rfl rfl rfl
theorem po_body {P : Program} {w : World} {K : PySem.W.Frag} {mg : Str → Option Value} {base : Heap} {N : List Str} {qual : Str} {scope : Scope} {f : Addr} {cdv : Value} {A : Around} {outer : List Env} {s : Shared} {H : Hp} {E : XK} :
    PassesOwn (model P w) (cxOf (L2.CX P w) P w K mg base N qual scope f cdv A outer s H E).A (cxOf (L2.CX P w) P w K mg base N qual scope f cdv A outer s H E).env (cxOf (L2.CX P w) P w K mg base N qual scope f cdv A outer s H E).xe := passes_of rfl
end VS

/-! VS17 -/
namespace VS
open PySem L2

/-! ### f([..], ..): the list that f may change is new -/
def eCallBF (F : List PyData → Fv) (ea : En → R PyData) (er : En → R (List PyData)) : En → R PyData := fun en => (ea en).bind fun d0 en1 => (er en1).bind fun ds en2 => match d0 with
  | .list l => match F (.list l :: ds) with
    | .ok d _ => .ok d en2
    | .exc x _ => .exc x en2
    | .stuck => .stuck
  | _ => .stuck
section
variable {K : PySem.W.Frag} {mg : Str → Option Value} {b : Bool} {m : List Bool} {f : Fr} {Hs Hs' H H' : Hp} {en : En} {σ : L2.St} {W : WX}
theorem Rl.guardE (r : Rl K mg b m f Hs en σ H) {p : Addr} {o : HO} (e1 : H p = some o) (e2 : Hs p = none) (e3 : ∀ u, f.H0 p ≠ some u) (e4 : ∀ i e, ownAt m i = true → en[i]? = some (some e) → σ[i]? ≠ some (some (.ref p))) :
    Rl K mg b m (f.with p o) Hs en σ H ∧ f.io ≠ some p ∧ f.H0 p = none ∧ f.Hc p = none := by
  have hc : f.Hc p = none := r.base.free e2
  have h0 : f.H0 p = none := by
    cases e : f.H0 p with
    | none => rfl
    | some u => exact absurd e (e3 u)
  have hio : f.io ≠ some p := fun z => by
    cases hb : b with
    | false => rw [r.nobag hb] at z; cases z
    | true =>
      obtain ⟨ho, a, ds, q1, q2, q3⟩ := r.bag hb
      rw [q1] at z
      cases z
      exact e4 0 _ ho q3 q2
  refine ⟨⟨r.sub, r.base, fun a z e => ?_, fun a z e ni => ?_, r.bag, r.nobag, r.len, r.sh, fun i d h1 h2 => ?_, r.dis⟩, hio, h0, hc⟩
  · by_cases ha : a = p
    · rw [ha, e2]
      exact hc.symm
    · exact r.ext a z (by rw [← e]; exact (upd_ne ha).symm)
  · by_cases ha : a = p
    · rw [ha] at e ⊢
      have e' : upd f.H0 p o p = some z := e
      rw [upd_same] at e'
      rw [e1]
      exact e'
    · exact r.keep a z (by rw [← e]; exact (upd_ne ha).symm) ni
  · obtain ⟨q, u, q1, q2, q3, q4, q5⟩ := r.ow i d h1 h2
    refine ⟨q, u, q1, q2, q3, fun w e => ?_, q5⟩
    by_cases hp : q = p
    · rw [hp] at q1
      exact absurd q1 (e4 i d h1 h2)
    · exact q4 w (by rw [← e]; exact (upd_ne hp).symm)
theorem Rl.aftF (r : Rl K mg b m f Hs en σ H) {p : Addr} {bg : PyData} (h0 : f.H0 p = none) (e4 : ∀ i e, ownAt m i = true → en[i]? = some (some e) → σ[i]? ≠ some (some (.ref p))) (a : Aft K mg (some p) Hs H Hs' bg H') : Rl K mg b m f Hs' en σ H' := by
  have hN : ∀ (q : Addr) o, q ≠ p → H q = some o → H' q = some o := fun q o nq e => a.keep q o e (fun z => nq (Option.some.inj z).symm)
  refine ⟨a.sub, r.base.trans a.base, fun c o e => ?_, fun c o e ni => hN c o (ne_of_none e h0) (r.keep c o e ni), r.bag, r.nobag, r.len, fun i d h1 h2 => ?_, fun i d h1 h2 => ?_, r.dis⟩
  · obtain ⟨o', e'⟩ := r.there e
    rw [a.ext c o' e']
    exact r.ext c o e
  · obtain ⟨v, e1, e2⟩ := r.sh i d h1 h2
    exact ⟨v, e1, e2.mono a.base⟩
  · obtain ⟨q, o, e1, e2, e3, e5, e6⟩ := r.ow i d h1 h2
    have nq : q ≠ p := fun z => by rw [z] at e1; exact e4 i d h1 h2 e1
    exact ⟨q, o, e1, hN q o nq e2, by rw [a.ext q o e2]; exact e3, e5, e6.mono a.base⟩
theorem tv_callBF {F : List PyData → Fv} {ea : En → R PyData} {er : En → R (List PyData)} {n : Nat} (hn : ∀ ds, F ds ≠ .stuck → ds.length = n) {σ : L2.St} {H : Hp} {Q : VK} (h : tv K mg b m W (eCallBF F ea er) σ H Q) :
    tCons (tfv K mg b m W ea) (tav K mg b m W er) σ H (fun vs H1 => spV K mg true false F n vs H1 Q (WE W σ)) := by
  obtain ⟨f, Hs, en, rl, h⟩ := h
  unfold eCallBF at h
  refine ⟨f, Hs, en, rl, ?_⟩
  simp only [R.bind] at h
  cases ha : ea en with
  | stuck => rw [ha] at h; exact h
  | exc x en' => rw [ha] at h; exact h
  | ok d0 en1 =>
    rw [ha] at h
    intro p o H1 Hs1 r1 s1 e1 e2 e3 e4 ob
    obtain ⟨rg, hio, h0, hc⟩ := r1.guardE e1 e2 e3 e4
    refine ⟨_, Hs1, en1, rg, ?_⟩
    simp only at h
    cases hr : er en1 with
    | stuck => rw [hr] at h; exact h
    | exc x en' =>
      rw [hr] at h
      intro cls dd H2 Hs2 r2 s2 xo
      exact h cls dd H2 Hs2 (r2.unguard h0) (s1.trans s2) xo
    | ok ds en2 =>
      rw [hr] at h
      intro vs H2 Hs2 r2 s2 p2
      simp only at h
      obtain ⟨g1, g2⟩ := r2.guarded hio hc
      have r3 := r2.unguard h0
      have ap := r2.apart hio
      cases d0 with
      | list l =>
        simp only at h
        obtain ⟨us, rfl, l1⟩ := ob.lst_inv
        refine ⟨?_, ?_⟩
        · have z := hn (.list l :: ds) fun z => by rw [z] at h; exact h
          rw [List.length_cons] at z
          rw [List.length_cons, p2.length]
          exact z
        · rw [if_pos rfl]
          refine ⟨Hs2, p, us, l, vs, ds, rfl, r3.sub, g1, g2, l1.mono s2, p2, ?_⟩
          cases e : F (.list l :: ds) with
          | stuck => rw [e] at h; exact h
          | exc x bg =>
            rw [e] at h
            intro cls dd H' Hs' a xo
            exact h cls dd H' Hs' (r3.aftF h0 ap a) ((s1.trans s2).trans a.base) xo
          | ok d bg =>
            rw [e] at h
            intro v H' Hs' a q
            exact h v H' Hs' (r3.aftF h0 ap a) ((s1.trans s2).trans a.base) q
      | none => exact h.elim
      | bool _ => exact h.elim
      | int _ => exact h.elim
      | str _ => exact h.elim
      | tuple _ => exact h.elim
      | dict _ => exact h.elim
end
section
variable {X : Cx} {b : Bool} {m : List Bool} {W : WX} {p pos np : Pos} {x : Str} {k n : Nat} {e : Expr} {es : List Expr} {ea : En → R PyData} {er : En → R (List PyData)} {F : List PyData → Fv}
theorem ce_callBF (G : FnV X.prog X.w X.K X.mg X.base k x true false n F) (hr : Room k X.A) (tk : Takes X W) (h : CF X b m W e ea) (ha : CA X b m W es er) (gl : Gl X x := by rfl) (hdb : (x == ("__debug__" : Str)) = false := by decide)
    (he : starEach (e :: es) X.env = (false, eval e X.env) :: starEach es X.env := by rfl) (hpl : (backTo pos (starEach es X.env)).any (·.1) = false := by rfl) : CE X b m W (.Call (.Name x p) (e :: es) [] pos) (eCallBF F ea er) := by
  obtain ⟨fa, fd, ps, g1, g2, g3, g4⟩ := G.ex
  have h' : PE X e (tfv X.K X.mg b m W ea) := h
  exact (pe_callS g1 hr gl g2 g3 g4 (fun σ => passAt tk σ) (pa_cons h' ha he) hdb he hpl).imp fun _ _ _ => tv_callBF G.len
end
/-- room for == and in -/
theorem rm_eq {k : Nat} {A : Around} (hr : Room k A) : A.units + 64 < cLine := by have := hr.un; omega
theorem rm_in {k : Nat} {A : Around} (hr : Room k A) : A.units + 65 < cLine := by have := hr.un; omega
end VS

/-! VS18 -/
namespace VS
open PySem L2
theorem bt_len : bootBuiltins "len" = some (.builtin "len") := by first | exact boot_len | exact PyProof.Rows.boot_len
theorem bt_abs : bootBuiltins "abs" = some (.builtin "abs") := by first | exact boot_abs | exact PyProof.Rows.boot_abs
theorem bt_max : bootBuiltins "max" = some (.builtin "max") := by first | exact boot_max | exact PyProof.Rows.boot_max
theorem bt_min : bootBuiltins "min" = some (.builtin "min") := by first | exact boot_min | exact PyProof.Rows.boot_min
theorem bt_all : bootBuiltins "all" = some (.builtin "all") := by first | exact boot_all | exact PyProof.Rows.boot_all
theorem bt_sum : bootBuiltins "sum" = some (.builtin "sum") := by first | exact boot_sum | exact PyProof.Rows.boot_sum
theorem bt_sorted : bootBuiltins "sorted" = some (.builtin "sorted") := by first | exact boot_sorted | exact PyProof.Rows.boot_sorted
theorem bt_tuple : bootBuiltins "tuple" = some (.type "tuple") := by first | exact boot_tuple | exact PyProof.Rows.boot_tuple
theorem bt_list : bootBuiltins "list" = some (.type "list") := by first | exact boot_list | exact PyProof.Rows.boot_list
theorem bt_int : bootBuiltins "int" = some (.type "int") := by first | exact boot_int | exact PyProof.Rows.boot_int
theorem bt_bool : bootBuiltins "bool" = some (.type "bool") := by first | exact boot_bool | exact PyProof.Rows.boot_bool
theorem bt_str : bootBuiltins "str" = some (.type "str") := by first | exact boot_str | exact PyProof.Rows.boot_str
section
variable {X : Cx} {b : Bool} {m : List Bool} {W : WX} {p pos : Pos} {e : Expr} {es : List Expr} {er : En → R (List PyData)}
theorem b_len (hm : X.mg "len" = none) (ha : CA X b m W (e :: es) er) (gl : Gl X "len" := by rfl) (he : starEach (e :: es) X.env = (false, eval e X.env) :: starEach es X.env := by rfl) (hpl : (backTo pos (starEach es X.env)).any (·.1) = false := by rfl) : CE X b m W (.Call (.Name "len" p) (e :: es) [] pos) (eCb gLen er) := ce_cb call_len s_len hm bt_len ha gl (by decide) (by decide) he hpl
theorem b_abs (hm : X.mg "abs" = none) (ha : CA X b m W (e :: es) er) (gl : Gl X "abs" := by rfl) (he : starEach (e :: es) X.env = (false, eval e X.env) :: starEach es X.env := by rfl) (hpl : (backTo pos (starEach es X.env)).any (·.1) = false := by rfl) : CE X b m W (.Call (.Name "abs" p) (e :: es) [] pos) (eCb gAbs er) := ce_cb call_abs s_abs hm bt_abs ha gl (by decide) (by decide) he hpl
theorem b_max2 (hc : X.calm = true) (hm : X.mg "max" = none) (ha : CA X b m W (e :: es) er) (gl : Gl X "max" := by rfl) (he : starEach (e :: es) X.env = (false, eval e X.env) :: starEach es X.env := by rfl) (hpl : (backTo pos (starEach es X.env)).any (·.1) = false := by rfl) : CE X b m W (.Call (.Name "max" p) (e :: es) [] pos) (eCb gMax2 er) := ce_cb (call_max2 hc) s_max2 hm bt_max ha gl (by decide) (by decide) he hpl
theorem b_min2 (hc : X.calm = true) (hm : X.mg "min" = none) (ha : CA X b m W (e :: es) er) (gl : Gl X "min" := by rfl) (he : starEach (e :: es) X.env = (false, eval e X.env) :: starEach es X.env := by rfl) (hpl : (backTo pos (starEach es X.env)).any (·.1) = false := by rfl) : CE X b m W (.Call (.Name "min" p) (e :: es) [] pos) (eCb gMin2 er) := ce_cb (call_min2 hc) s_min2 hm bt_min ha gl (by decide) (by decide) he hpl
theorem b_maxL (hc : X.calm = true) (hm : X.mg "max" = none) (ha : CA X b m W (e :: es) er) (gl : Gl X "max" := by rfl) (he : starEach (e :: es) X.env = (false, eval e X.env) :: starEach es X.env := by rfl) (hpl : (backTo pos (starEach es X.env)).any (·.1) = false := by rfl) : CE X b m W (.Call (.Name "max" p) (e :: es) [] pos) (eCb gMaxL er) := ce_cb (cr_max hc) s_maxL hm bt_max ha gl (by decide) (by decide) he hpl
theorem b_minL (hc : X.calm = true) (hm : X.mg "min" = none) (ha : CA X b m W (e :: es) er) (gl : Gl X "min" := by rfl) (he : starEach (e :: es) X.env = (false, eval e X.env) :: starEach es X.env := by rfl) (hpl : (backTo pos (starEach es X.env)).any (·.1) = false := by rfl) : CE X b m W (.Call (.Name "min" p) (e :: es) [] pos) (eCb gMinL er) := ce_cb (cr_min hc) s_minL hm bt_min ha gl (by decide) (by decide) he hpl
theorem b_sum (hc : X.calm = true) (hm : X.mg "sum" = none) (ha : CA X b m W (e :: es) er) (gl : Gl X "sum" := by rfl) (he : starEach (e :: es) X.env = (false, eval e X.env) :: starEach es X.env := by rfl) (hpl : (backTo pos (starEach es X.env)).any (·.1) = false := by rfl) : CE X b m W (.Call (.Name "sum" p) (e :: es) [] pos) (eCb gSum er) := ce_cb (cr_sumA hc) s_sum hm bt_sum ha gl (by decide) (by decide) he hpl
theorem b_all (hc : X.calm = true) (hm : X.mg "all" = none) (ha : CA X b m W (e :: es) er) (gl : Gl X "all" := by rfl) (he : starEach (e :: es) X.env = (false, eval e X.env) :: starEach es X.env := by rfl) (hpl : (backTo pos (starEach es X.env)).any (·.1) = false := by rfl) : CE X b m W (.Call (.Name "all" p) (e :: es) [] pos) (eCb gAll er) := ce_cb (cr_all hc) s_all hm bt_all ha gl (by decide) (by decide) he hpl
theorem b_tuple (hm : X.mg "tuple" = none) (ha : CA X b m W (e :: es) er) (gl : Gl X "tuple" := by rfl) (he : starEach (e :: es) X.env = (false, eval e X.env) :: starEach es X.env := by rfl) (hpl : (backTo pos (starEach es X.env)).any (·.1) = false := by rfl) : CE X b m W (.Call (.Name "tuple" p) (e :: es) [] pos) (eCb gTuple er) := ce_ty call_tuple_of s_tuple hm bt_tuple ha gl (by decide) (by decide) he hpl
theorem f_list (hm : X.mg "list" = none) (ha : CA X b m W (e :: es) er) (gl : Gl X "list" := by rfl) (he : starEach (e :: es) X.env = (false, eval e X.env) :: starEach es X.env := by rfl) (hpl : (backTo pos (starEach es X.env)).any (·.1) = false := by rfl) : CF X b m W (.Call (.Name "list" p) (e :: es) [] pos) (eCb gList er) := cf_ty call_list_of s_list hm bt_list ha gl (by decide) (by decide) he hpl
theorem b_int (hm : X.mg "int" = none) (ha : CA X b m W (e :: es) er) (gl : Gl X "int" := by rfl) (he : starEach (e :: es) X.env = (false, eval e X.env) :: starEach es X.env := by rfl) (hpl : (backTo pos (starEach es X.env)).any (·.1) = false := by rfl) : CE X b m W (.Call (.Name "int" p) (e :: es) [] pos) (eCb gInt er) := ce_ty call_int1 s_int hm bt_int ha gl (by decide) (by decide) he hpl
theorem f_sorted (hm : X.mg "sorted" = none) (ha : CA X b m W (e :: es) er) (gl : Gl X "sorted" := by rfl) (he : starEach (e :: es) X.env = (false, eval e X.env) :: starEach es X.env := by rfl) (hpl : (backTo pos (starEach es X.env)).any (·.1) = false := by rfl) : CF X b m W (.Call (.Name "sorted" p) (e :: es) [] pos) (eCb gSortedI er) := cf_cb cr_sorted s_sortedI hm bt_sorted ha gl (by decide) (by decide) he hpl
end
def dAddI : PyData → PyData → Option PyData
  | .int i, .int j => some (.int (i + j))
  | _, _ => none
def dMulI : PyData → PyData → Option PyData
  | .int i, .int j => if (-(2 ^ 64) < i ∧ i < 2 ^ 64) ∨ (-(2 ^ 64) < j ∧ j < 2 ^ 64) then some (.int (i * j)) else none
  | _, _ => none
section
variable {K : PySem.W.Frag} {mg : Str → Option Value}
theorem s_addI : Op2 K mg (rI0 fun i j => .int (i + j)) dAddI := by
  intro b m f Hs en σ H x y d1 d2 d Q r p1 p2 hg h
  unfold dAddI at hg
  split at hg
  · injection hg with hg
    subst hg
    exact ⟨_, _, p1.int_inv, p2.int_inv, h _ H Hs r (Same.refl _) (.int _)⟩
  · cases hg
theorem s_mulI : Op2 K mg (rI CMul fun i j => .int (i * j)) dMulI := s_int2 fun d1 d2 d hg => by
  unfold dMulI at hg
  split at hg
  · split at hg
    · rename_i i j c
      injection hg with hg
      exact ⟨i, j, rfl, rfl, c, hg.symm⟩
    · cases hg
  · cases hg
end
theorem pts_yes {X : Cx} {K : PySem.W.Frag} {mg : Str → Option Value} {b : Bool} {m : List Bool} {W : WX} : PTs X [] (ttv K mg b m W eYes) := ⟨fun pins s σ H Q I h => pts_nil.run pins s σ H Q I (ttv_yes h)⟩
theorem eqv_nilL (l : List PyData) : PyData.eqv (.list l) (.list []) = l.isEmpty := by
  cases l with
  | nil => simp only [PyData.eqv, PyData.eqvAll]; rfl
  | cons a r => simp only [PyData.eqv, PyData.eqvAll]; rfl
theorem shaped_nilL : SeqAt.shaped (.list []) = true := by decide +kernel
end VS

/-! VS19 -/
namespace VS
open PySem L2
/-! ### the law's own promise -/
def spLaw (K : PySem.W.Frag) : Sp := fun vs H Q _ => ∃ (a : Addr) (ns : List Int), vs = [.ref a] ∧ SqL K H a (ns.map V.int) ∧ ns.length ≤ 63 ∧ ∀ H', Q (.bl true) H'
theorem law_ok {P : Program} {w : World} {K : PySem.W.Frag} {mg : Str → Option Value} {base : Heap} {k : Nat} {f : Addr} {fd : FuncData} {ps : List Str} {F : List PyData → Fv} (G : FnOk P w K mg base (L2.CX P w) k f fd ps (spV K mg false false F 1))
    (h : ∀ ns : List Int, ns.length ≤ 63 → ∃ bg, F [scrD (ns.map PyData.int)] = .ok (.bool true) bg) : FnOk P w K mg base (L2.CX P w) k f fd ps (spLaw K) := G.imp fun vs H Q E q => by
  obtain ⟨a, ns, rfl, hS, hl, q⟩ := q
  obtain ⟨bg, e⟩ := h ns hl
  refine ⟨rfl, ?_⟩
  rw [if_neg Bool.false_ne_true]
  refine ⟨H, [scrD (ns.map PyData.int)], Same.refl _, .cons (.scr hS (rpAll_of_ints ns)) .nil, ?_⟩
  rw [e]
  intro v H' Hs' a r
  unfold Ret at r
  rw [if_neg Bool.false_ne_true] at r
  rw [r.bl_inv]
  exact q H'
theorem cx_none {P : Program} {w : World} {H : Hp} {s : Shared} {e : Value} {s' : Shared} (h : L2.CX P w [] H s (fun _ _ _ => False) e s') : False := by
  obtain ⟨_, _, _, _, _, _, _, _, _, _, _, _, z⟩ := h
  exact z.elim
end VS

/-! VS20 -/
namespace VS
open PySem L2
/-! ### evaluators unfold -/
section
variable {t u : Type} {en en' : En} {i j : Nat} {d : PyData} {ea eb ec : En → R PyData} {er : En → R (List PyData)} {ta tb : En → R Bool} {s1 s2 : En → Out}
@[simp] theorem u_bind_ok {v : t} {k : t → En → R u} : R.bind (.ok v en) k = k v en := rfl
@[simp] theorem u_bind_exc {x : XV} {k : t → En → R u} : R.bind (.exc x en) k = .exc x en := rfl
@[simp] theorem u_ofO_some {v : t} : R.ofO (some v) en = .ok v en := rfl
@[simp] theorem u_eV : eV i en = match en[i]? with
  | some (some d) => .ok d en
  | _ => .stuck := rfl
@[simp] theorem u_eC : eC d en = .ok d en := rfl
@[simp] theorem u_e1 {g : PyData → Option PyData} : e1 g ea en = (ea en).bind fun d1 en1 => R.ofO (g d1) en1 := rfl
@[simp] theorem u_e2 {g : PyData → PyData → Option PyData} : e2 g ea eb en = (ea en).bind fun d1 en1 => (eb en1).bind fun d2 en2 => R.ofO (g d1 d2) en2 := rfl
@[simp] theorem u_asB : asB ea en = match ea en with
  | .ok (.bool k) en' => .ok k en'
  | .exc x en' => .exc x en'
  | _ => .stuck := rfl
@[simp] theorem u_and : eAndB ta tb en = (ta en).bind fun k en1 => if k = true then tb en1 else .ok false en1 := rfl
@[simp] theorem u_or : eOrB ta tb en = (ta en).bind fun k en1 => if k = true then .ok true en1 else tb en1 := rfl
@[simp] theorem u_not : eNotB ta en = (ta en).bind fun k en1 => .ok (!k) en1 := rfl
@[simp] theorem u_if : eIf ta ea eb en = (ta en).bind fun k en1 => if k = true then ea en1 else eb en1 := rfl
@[simp] theorem u_ofB : ofB ta en = (ta en).bind fun k en1 => .ok (.bool k) en1 := rfl
@[simp] theorem u_chain {g g' : PyData → PyData → Option PyData} : eChain g g' ea eb ec en = (ea en).bind fun d1 en1 => (eb en1).bind fun d2 en2 => match g d1 d2 with
  | some (.bool true) => (ec en2).bind fun d3 en3 => R.ofO (g' d2 d3) en3
  | some (.bool false) => .ok (.bool false) en2
  | _ => .stuck := rfl
@[simp] theorem u_call {F : List PyData → Fv} : eCall F er en = (er en).bind fun ds en1 => match F ds with
  | .ok d _ => .ok d en1
  | .exc x _ => .exc x en1
  | .stuck => .stuck := rfl
@[simp] theorem u_callB {F : List PyData → Fv} : eCallB F j er en = match en[j]? with
  | some (some _) => (er en).bind fun ds en1 => match en1[j]? with
    | some (some (.list l)) => match F (.list l :: ds) with
      | .ok d (.list l') => .ok d (en1.set j (some (.list l')))
      | .exc x (.list l') => .exc x (en1.set j (some (.list l')))
      | _ => .stuck
    | _ => .stuck
  | _ => .stuck := rfl
@[simp] theorem u_callBF {F : List PyData → Fv} : eCallBF F ea er en = (ea en).bind fun d0 en1 => (er en1).bind fun ds en2 => match d0 with
  | .list l => match F (.list l :: ds) with
    | .ok d _ => .ok d en2
    | .exc x _ => .exc x en2
    | .stuck => .stuck
  | _ => .stuck := rfl
@[simp] theorem u_cb {g : List PyData → Option PyData} : eCb g er en = (er en).bind fun ds en1 => R.ofO (g ds) en1 := rfl
@[simp] theorem u_cons : eCons ea er en = (ea en).bind fun d en1 => (er en1).bind fun ds en2 => .ok (d :: ds) en2 := rfl
@[simp] theorem u_nil : eNil en = .ok [] en := rfl
@[simp] theorem u_tup : eTup er en = (er en).bind fun ds en1 => if ds.length ≤ 1000000 then .ok (.tuple ds) en1 else .stuck := rfl
@[simp] theorem u_lst : eLst er en = (er en).bind fun ds en1 => if ds.length ≤ 1000000 then .ok (.list ds) en1 else .stuck := rfl
@[simp] theorem u_ixV : eIxV i eb en = match en[i]? with
  | some (some _) => (eb en).bind fun k en1 => match en1[i]?, k with
    | some (some (.list l)), .int j => R.ofO (atI l j) en1
    | _, _ => .stuck
  | _ => .stuck := rfl
@[simp] theorem u_evI {g : PyData → Option (List PyData)} : evI g ea en = (ea en).bind fun d en1 => R.ofO (g d) en1 := rfl
@[simp] theorem u_evA {g : List PyData → Option (List PyData)} : evA g er en = (er en).bind fun d en1 => R.ofO (g d) en1 := rfl
@[simp] theorem u_pNo : pNo en = .ok none en := rfl
@[simp] theorem u_pYes : pYes ea en = match ea en with
  | .ok (.int i) en' => .ok (some i) en'
  | .exc x en' => .exc x en'
  | _ => .stuck := rfl
@[simp] theorem u_sl {pl pu : En → R (Option Int)} : eSl ea pl pu en = (ea en).bind fun d en1 => (pl en1).bind fun lo en2 => (pu en2).bind fun hi en3 => R.ofO (dSl d lo hi) en3 := rfl
@[simp] theorem u_isTy {T : String} : eIsTy T ea en = (ea en).bind fun d en1 => match isTy T d with
  | some k => .ok (.bool k) en1
  | none => .stuck := rfl
@[simp] theorem u_seq : sSeq s1 s2 en = match s1 en with
  | .nx en' => s2 en'
  | o => o := rfl
@[simp] theorem u_snil : sNil en = .nx en := rfl
@[simp] theorem u_never : sNever en = .stuck := rfl
@[simp] theorem u_set : sSet i ea en = match ea en with
  | .ok d en' => if i < en'.length then .nx (en'.set i (some d)) else .stuck
  | .exc x en' => .exc x en'
  | .stuck => .stuck := rfl
@[simp] theorem u_expr : sExpr ea en = match ea en with
  | .ok _ en' => .nx en'
  | .exc x en' => .exc x en'
  | .stuck => .stuck := rfl
@[simp] theorem u_ret : sRet ea en = match ea en with
  | .ok d en' => .rt d en'
  | .exc x en' => .exc x en'
  | .stuck => .stuck := rfl
@[simp] theorem u_retV : sRetV i en = match en[i]? with
  | some (some d) => .rt d en
  | _ => .stuck := rfl
@[simp] theorem u_sif : sIf ta s1 s2 en = match ta en with
  | .ok k en' => if k = true then s1 en' else s2 en'
  | .exc x en' => .exc x en'
  | .stuck => .stuck := rfl
@[simp] theorem u_app : sApp i ea en = match en[i]? with
  | some (some (.list _)) => match ea en with
    | .ok d en1 => match en1[i]? with
      | some (some (.list l)) => if l.length < 1000000 then .nx (en1.set i (some (.list (l ++ [d])))) else .stuck
      | _ => .stuck
    | .exc x en1 => .exc x en1
    | .stuck => .stuck
  | _ => .stuck := rfl
@[simp] theorem u_put {ek : En → R PyData} : sPut i ek ea en = match ea en with
  | .ok d en1 => match en1[i]? with
    | some (some _) => match ek en1 with
      | .ok (.int k) en2 => match en2[i]? with
        | some (some (.list l)) => match ixN l.length k with
          | some j => .nx (en2.set i (some (.list (l.set j d))))
          | none => .stuck
        | _ => .stuck
      | .exc x en2 => .exc x en2
      | _ => .stuck
    | _ => .stuck
  | .exc x en1 => .exc x en1
  | .stuck => .stuck := rfl
@[simp] theorem u_asg {g : PyData → En → Option En} : sAsg ea g en = match ea en with
  | .ok d en' => match g d en' with
    | some en2 => .nx en2
    | none => .stuck
  | .exc x en' => .exc x en'
  | .stuck => .stuck := rfl
@[simp] theorem u_par : sPar i j ea eb en = match ea en with
  | .ok d en1 => match eb en1 with
    | .ok d2 en2 => if i < en2.length ∧ j < en2.length then .nx ((en2.set i (some d)).set j (some d2)) else .stuck
    | .exc x en' => .exc x en'
    | .stuck => .stuck
  | .exc x en' => .exc x en'
  | .stuck => .stuck := rfl
@[simp] theorem u_gN : gN i d en = if i < en.length then some (en.set i (some d)) else none := rfl
@[simp] theorem u_fnEv {fr : Bool} {N n : Nat} {body : En → Out} {ds : List PyData} : fnEv fr N n body ds = if ds.length = n then fin fr (body (en0 N ds)) else .stuck := rfl
@[simp] theorem u_fin_rt {fr : Bool} : fin fr (.rt d en) = .ok d (bagOf en) := rfl
@[simp] theorem u_fin_nx : fin false (.nx en) = .ok .none (bagOf en) := rfl
@[simp] theorem u_fin_exc {fr : Bool} {x : XV} : fin fr (.exc x en) = .exc x (bagOf en) := rfl
end
section
variable {i j : Int} {p : Int → Int → Bool}
@[simp] theorem d_add : dAdd (.int i) (.int j) = some (.int (i + j)) := rfl
@[simp] theorem d_sub : dSub (.int i) (.int j) = some (.int (i - j)) := rfl
@[simp] theorem d_mul : dMul (.int i) (.int j) = if (-(2 ^ 64) < i ∧ i < 2 ^ 64) ∨ (-(2 ^ 64) < j ∧ j < 2 ^ 64) then some (.int (i * j)) else none := rfl
@[simp] theorem d_div : dDiv (.int i) (.int j) = if 0 < j ∧ j < 2 ^ 200 then some (.int (i / j)) else none := rfl
@[simp] theorem d_mod : dMod (.int i) (.int j) = if 0 < j then some (.int (i % j)) else none := rfl
@[simp] theorem d_pow : dPow (.int i) (.int j) = if 0 ≤ j ∧ j ≤ 100 ∧ i.natAbs < 2 ^ 1000 then some (.int (i ^ j.toNat)) else none := rfl
@[simp] theorem d_neg : dNeg (.int i) = some (.int (-i)) := rfl
@[simp] theorem d_cmp : dCmp p (.int i) (.int j) = some (.bool (p i j)) := rfl
@[simp] theorem d_min2 : gMin2 [.int i, .int j] = some (.int (if j < i then j else i)) := rfl
@[simp] theorem d_max2 : gMax2 [.int i, .int j] = some (.int (if j > i then j else i)) := rfl
@[simp] theorem d_lenL {l : List PyData} : gLen [.list l] = some (.int l.length) := rfl
@[simp] theorem d_lenT {l : List PyData} : gLen [.tuple l] = some (.int l.length) := rfl
@[simp] theorem d_lenS {l : List PyData} : gLen [scrD l] = some (.int l.length) := rfl
@[simp] theorem d_ixT {l : List PyData} : dIx (.tuple l) (.int i) = atI l i := rfl
@[simp] theorem d_ixL {l : List PyData} : dIx (.list l) (.int i) = atI l i := rfl
@[simp] theorem d_ixS {l : List PyData} : dIx (scrD l) (.int i) = atI l i := rfl
end
end VS

/-! VS21 -/
namespace VS
open PySem L2
/-! ### loops and comprehensions, by what stays -/
theorem forL_inv {g : PyData → En → Option En} {body : En → Out} (I : Nat → En → Prop) : ∀ (ds : List PyData) (k : Nat) (en : En), I k en →
    (∀ i d en, ds[i]? = some d → I (k + i) en → ∃ en1 en2, g d en = some en1 ∧ (body en1 = .nx en2 ∨ body en1 = .ct en2) ∧ I (k + i + 1) en2) → ∃ en', forL g body ds en = .nx en' ∧ I (k + ds.length) en'
  | [], k, en, h, _ => ⟨en, rfl, h⟩
  | d :: ds, k, en, h, st => by
    obtain ⟨en1, en2, h1, h2, h3⟩ := st 0 d en rfl h
    obtain ⟨en', q1, q2⟩ := forL_inv I ds (k + 1) en2 h3 fun i d' en3 hd hi => by
      have e : k + 1 + i = k + (i + 1) := by omega
      rw [e] at hi
      obtain ⟨a, b, c1, c2, c3⟩ := st (i + 1) d' en3 (by simpa using hd) hi
      rw [← e] at c3
      exact ⟨a, b, c1, c2, c3⟩
    have ek : k + (d :: ds).length = k + 1 + ds.length := by
      rw [List.length_cons]
      omega
    refine ⟨en', ?_, by rw [ek]; exact q2⟩
    unfold forL
    rw [h1]
    rcases h2 with h2 | h2
    · simp only [h2]; exact q1
    · simp only [h2]; exact q1
theorem sFor_inv {ev : En → R (List PyData)} {g : PyData → En → Option En} {body : En → Out} {ds : List PyData} {en en1 : En} (he : ev en = .ok ds en1) (I : Nat → En → Prop) (h0 : I 0 en1)
    (st : ∀ i d en, ds[i]? = some d → I i en → ∃ en1 en2, g d en = some en1 ∧ (body en1 = .nx en2 ∨ body en1 = .ct en2) ∧ I (i + 1) en2) : ∃ en', sFor ev g body en = .nx en' ∧ I ds.length en' := by
  obtain ⟨en', q1, q2⟩ := forL_inv (g := g) (body := body) I ds 0 en1 h0 fun i d en hd hi => by
    rw [Nat.zero_add] at hi ⊢
    exact st i d en hd hi
  rw [Nat.zero_add] at q2
  refine ⟨en', ?_, q2⟩
  unfold sFor
  rw [he]
  exact q1
theorem lcL_inv {vs : List Nat} {g : PyData → En → Option En} {te : En → R PyData} (I : Nat → En → Prop) (O : Nat → PyData → Prop) : ∀ (ds : List PyData) (k : Nat) (en : En) (acc : List PyData), I k en → acc.length + ds.length ≤ 1000000 →
    (∀ i d en, ds[i]? = some d → I (k + i) en → ∃ e1 y e2, g d en = some e1 ∧ te e1 = .ok y e2 ∧ I (k + i + 1) (wipeE e2 vs) ∧ O (k + i) y) →
    ∃ ys en', lcL vs g eYes te ds en acc = .ok (acc ++ ys) en' ∧ ys.length = ds.length ∧ (∀ i y, ys[i]? = some y → O (k + i) y) ∧ I (k + ds.length) en'
  | [], k, en, acc, h, _, _ => ⟨[], en, by rw [List.append_nil]; rfl, rfl, fun i y e => by simp at e, h⟩
  | d :: ds, k, en, acc, h, hl, st => by
    obtain ⟨e1, y, e2, h1, h2, h3, h4⟩ := st 0 d en rfl h
    rw [List.length_cons] at hl
    obtain ⟨ys, en', q1, q2, q3, q4⟩ := lcL_inv I O ds (k + 1) (wipeE e2 vs) (acc ++ [y]) h3 (by rw [List.length_append, List.length_singleton]; omega) fun i d' en3 hd hi => by
      have e : k + 1 + i = k + (i + 1) := by omega
      rw [e] at hi
      obtain ⟨a, b, c, c1, c2, c3, c4⟩ := st (i + 1) d' en3 (by simpa using hd) hi
      rw [← e] at c3 c4
      exact ⟨a, b, c, c1, c2, c3, c4⟩
    refine ⟨y :: ys, en', ?_, by rw [List.length_cons, List.length_cons, q2], fun i z hz => ?_, ?_⟩
    · unfold lcL
      rw [h1]
      simp only [eYes, h2]
      rw [if_pos (by omega), q1, List.append_assoc]
      rfl
    · cases i with
      | zero =>
        have : y = z := by simpa using hz
        rw [← this]
        exact h4
      | succ i =>
        have := q3 i z (by simpa using hz)
        have e : k + 1 + i = k + (i + 1) := by omega
        rw [e] at this
        exact this
    · rw [List.length_cons]
      have : k + (ds.length + 1) = k + 1 + ds.length := by omega
      rw [this]
      exact q4
theorem back_wipe (en : En) (vs : List Nat) : backE en (wipeE en vs) vs = en := by
  apply List.ext_getElem?
  intro i
  have hl : en.length = (wipeE en vs).length := by rw [wipeE_len]
  by_cases hi : i ∈ vs
  · exact (backE_at en (wipeE en vs) i vs hl).1 hi
  · rw [(backE_at en (wipeE en vs) i vs hl).2 hi, (wipeE_at en i vs).2 hi]
theorem lcL_pure {vs : List Nat} {g : PyData → En → Option En} {te : En → R PyData} {F : PyData → PyData} {ew : En} : ∀ (ds : List PyData) (acc : List PyData), acc.length + ds.length ≤ 1000000 →
    (∀ d ∈ ds, ∃ e1, g d ew = some e1 ∧ te e1 = .ok (F d) e1 ∧ wipeE e1 vs = ew) → lcL vs g eYes te ds ew acc = .ok (acc ++ ds.map F) ew
  | [], acc, _, _ => by rw [List.map_nil, List.append_nil]; rfl
  | d :: ds, acc, hl, h => by
    obtain ⟨e1, h1, h2, h3⟩ := h d List.mem_cons_self
    rw [List.length_cons] at hl
    unfold lcL
    rw [h1]
    simp only [eYes, h2]
    rw [if_pos (by omega), h3, lcL_pure ds (acc ++ [F d]) (by rw [List.length_append, List.length_singleton]; omega) fun d' hd => h d' (List.mem_cons_of_mem _ hd), List.append_assoc]
    rfl
theorem eLc_pure {vs : List Nat} {ev : En → R (List PyData)} {g : PyData → En → Option En} {te : En → R PyData} {ds : List PyData} {en en1 : En} (F : PyData → PyData) (he : ev en = .ok ds en1)
    (h : ∀ d ∈ ds, ∃ e1, g d (wipeE en1 vs) = some e1 ∧ te e1 = .ok (F d) e1 ∧ wipeE e1 vs = wipeE en1 vs) (hl : ds.length ≤ 1000000 := by decide) : eLc vs ev g eYes te en = .ok (.list (ds.map F)) en1 := by
  unfold eLc
  rw [he]
  simp only [R.bind]
  rw [lcL_pure ds [] (by simpa using hl) h]
  simp only [List.nil_append]
  rw [back_wipe]
theorem eLc_inv {vs : List Nat} {ev : En → R (List PyData)} {g : PyData → En → Option En} {te : En → R PyData} {ds : List PyData} {en en1 : En} (I : Nat → En → Prop) (O : Nat → PyData → Prop) (he : ev en = .ok ds en1) (h0 : I 0 (wipeE en1 vs)) (hl : ds.length ≤ 1000000)
    (st : ∀ i d en, ds[i]? = some d → I i en → ∃ e1 y e2, g d en = some e1 ∧ te e1 = .ok y e2 ∧ I (i + 1) (wipeE e2 vs) ∧ O i y) :
    ∃ ys en', eLc vs ev g eYes te en = .ok (.list ys) (backE en1 en' vs) ∧ ys.length = ds.length ∧ (∀ i y, ys[i]? = some y → O i y) ∧ I ds.length en' := by
  obtain ⟨ys, en', q1, q2, q3, q4⟩ := lcL_inv (vs := vs) (g := g) (te := te) I O ds 0 (wipeE en1 vs) [] h0 (by simpa using hl) fun i d en hd hi => by
    rw [Nat.zero_add] at hi ⊢
    exact st i d en hd hi
  refine ⟨ys, en', ?_, q2, fun i y hy => by have := q3 i y hy; rwa [Nat.zero_add] at this, by rwa [Nat.zero_add] at q4⟩
  unfold eLc
  rw [he]
  simp only [R.bind]
  rw [q1]
  rfl
theorem atI_nn {t : Type} {l : List t} {i : Int} (h : 0 ≤ i) : atI l i = l[i.toNat]? := by
  unfold atI ixN
  rw [if_pos h]
  by_cases c : i < l.length
  · rw [if_pos c]; rfl
  · rw [if_neg c]
    show none = _
    rw [List.getElem?_eq_none (by omega)]
theorem atI_m1 {t : Type} {l : List t} : atI l (-1) = l.getLast? := by
  unfold atI ixN
  rw [if_neg (by decide)]
  rw [List.getLast?_eq_getElem?]
  cases l with
  | nil => rfl
  | cons a l =>
    rw [if_pos (by rw [List.length_cons]; omega)]
    show (a :: l)[((-1 : Int) + ((a :: l).length : Nat)).toNat]? = _
    congr 1
    rw [List.length_cons]
    omega
theorem bools_true : ∀ {l : List PyData}, (∀ d ∈ l, d = .bool true) → bools? l = some (List.replicate l.length true)
  | [], _ => rfl
  | d :: l, h => by
    rw [h d List.mem_cons_self]
    unfold bools?
    rw [bools_true fun d' hd => h d' (List.mem_cons_of_mem _ hd)]
    rfl
theorem all_true {l : List PyData} (h : ∀ d ∈ l, d = .bool true) : gAll [.list l] = some (.bool true) := by
  unfold gAll
  simp only [bools_true h, Option.map_some]
  congr 2
  simp
theorem inR_nat {j : Nat} (h : j < 1000000) : inR (j : Int) = true := by
  unfold inR
  rw [decide_eq_true (by omega), decide_eq_true (by omega)]
  rfl
theorem gR1_ok {j : Nat} (h : j < 1000000) : gR1 [.int (j : Int)] = some (rangeL 0 1 j) := by
  show (if inR (j : Int) then some (rangeL 0 1 (j : Int).toNat) else none) = _
  rw [if_pos (inR_nat h), Int.toNat_natCast]
theorem gR1_ok1 {j : Nat} (h : j < 1000000) : gR1 [.int ((j : Int) + 1)] = some (rangeL 0 1 (j + 1)) := by
  have e : ((j : Int) + 1) = ((j + 1 : Nat) : Int) := by omega
  show (if inR ((j : Int) + 1) then some (rangeL 0 1 ((j : Int) + 1).toNat) else none) = _
  have hi : inR ((j : Int) + 1) = true := by
    unfold inR
    rw [decide_eq_true (by omega), decide_eq_true (by omega)]
    rfl
  rw [if_pos hi, e, Int.toNat_natCast]
theorem gR2_ok {i j : Nat} (hi : i < 1000000) (hj : j < 1000000) : gR2 [.int (i : Int), .int (j : Int)] = some (rangeL (i : Int) 1 (j - i)) := by
  show (if (inR (i : Int) && inR (j : Int)) then some (rangeL (i : Int) 1 ((j : Int) - (i : Int)).toNat) else none) = _
  rw [inR_nat hi, inR_nat hj, Bool.and_true, if_pos rfl]
  congr 2
  omega
theorem mul_ok {i j : Int} (h : -(2 ^ 64) < i ∧ i < 2 ^ 64) : dMul (.int i) (.int j) = some (.int (i * j)) := by
  rw [d_mul, if_pos (.inl h)]
theorem mul_ok2 {i j : Int} (h : -(2 ^ 64) < j ∧ j < 2 ^ 64) : dMul (.int i) (.int j) = some (.int (i * j)) := by
  rw [d_mul, if_pos (.inr h)]
theorem pow_ok {i j : Int} (h0 : 0 ≤ j) (h1 : j ≤ 100) (h : i.natAbs < 10 ^ 100) : dPow (.int i) (.int j) = some (.int (i ^ j.toNat)) := by
  rw [d_pow, if_pos ⟨h0, h1, Nat.lt_trans h (by decide +kernel)⟩]
theorem mod_ok {i j : Int} (h : 0 < j) : dMod (.int i) (.int j) = some (.int (i % j)) := by
  rw [d_mod, if_pos h]
theorem div_ok {i j : Int} (h : 0 < j) (h1 : j < 2 ^ 200) : dDiv (.int i) (.int j) = some (.int (i / j)) := by
  rw [d_div, if_pos ⟨h, h1⟩]
end VS

/-! Sh1 -/
namespace VS
open PySem L2
/-! ### rows of numbers into which customers are put: told by what is asked of the heap -/
namespace Shp
abbrev rGtI : R2 := rI0 fun i j => .bl (decide (j < i))
def rNotNo : R2 := fun x y H Q => y = .non ∧ Q (.bl (!decide (x = .non))) H
def rLenSq (K : PySem.W.Frag) : List V → Hp → VK → Prop := fun xs H Q => ∃ p ys, xs = [.ref p] ∧ (SqL K H p ys ∨ SqT K H p ys) ∧ Q (.int ys.length) H
def tSpots (K : PySem.W.Frag) : TE := tLc (iEnum K (tCons (tVar 8) tNil)) (gTup K 2 (gCons (gName 10) (gCons (gName 11) gNil))) (tTest (tOp rGtI (tVar 11) (tVar 7))) (tVar 10) [10, 11]
def tAt0 (K : PySem.W.Frag) : TE := tOp (rIxL K) (tVar 9) (tC (.int 0))
def tIn (K : PySem.W.Frag) : TS := tFor (iList K (tVar 2)) (gName 8) (tSeq (tAsg (tSpots K) (gName 9))
  (tSeq (tIfS (tTest (tOp (rEqD K) (tVar 9) (tLst tNil))) (tSeq (tDrop (tBM K "list" rAppend (tVar 8) (tCons (tVar 7) tNil))) (tSeq (tAsg (tC .non) (gName 7)) tBreak)) tNext)
    (tAsg (tTup (tCons (tVar 7) (tCons (tOp (rIxL K) (tVar 8) (tAt0 K)) tNil))) (gTup K 2 (gCons (gSub (tVar 8) (tAt0 K) rSetL) (gCons (gName 7) gNil))))))
def tOne (K : PySem.W.Frag) : TS := tSeq (tAsg (tVar 4) (gName 7)) (tSeq (tIn K) (tIfS (tTest (tOp rNotNo (tVar 7) (tC .non))) (tDrop (tBM K "list" rAppend (tVar 2) (tCons (tLst (tCons (tVar 7) tNil)) tNil))) tNext))
abbrev m12 : List Bool := List.replicate 12 false
def tAll (K : PySem.W.Frag) (mg : Str → Option Value) : TS := tSeq (tAsg (tLst tNil) (gName 2))
  (tSeq (tFor (tiv K mg false m12 WF (evI itemsD (eV 0))) (tgt K mg false m12 (m12.set 3 false) [3] (gN 3))
    (tFor (tiv K mg false m12 WF (evA gEn (eCons (eSl (eV 3) pNo (pYes (eV 1))) eNil))) (tgt K mg false m12 ((m12.set 4 false).set 5 false) [4, 5] (gT (gsC (gN 4) (gsC (gN 5) gsN))))
      (tFor (tiv K mg false m12 WF (evA gR1 (eCons (eV 5) eNil))) (tgt K mg false m12 (m12.set 6 false) [6] (gN 6)) (tOne K))))
  (tRet (tLc (iList K (tVar 2)) (gName 8) tYes (tCB (rLenSq K) (tCons (tVar 8) tNil)) [8])))
/-! the numbers -/
def spotsN (r : List Int) (x : Int) : List Nat := (List.range r.length).filter fun k => decide (x < r.getD k 0)
/-- one number put into one row: the row behind it, and what goes on -/
def ins1 (r : List Int) (x : Int) : List Int × Option Int := match spotsN r x with
  | [] => (r ++ [x], none)
  | j :: _ => (r.set j x, some (r.getD j 0))
def insR : List (List Int) → Int → List (List Int)
  | [], x => [[x]]
  | r :: rs, x => match ins1 r x with
    | (r', none) => r' :: rs
    | (r', some y) => r' :: insR rs y
theorem spots_lt {r : List Int} {x : Int} {j : Nat} {t : List Nat} (h : spotsN r x = j :: t) : j < r.length := by
  have hm : j ∈ spotsN r x := by rw [h]; exact List.mem_cons_self
  unfold spotsN at hm
  rw [List.mem_filter] at hm
  exact List.mem_range.mp hm.1
/-- the heap's part: the rows at R -/
structure Nst (H : Hp) (R : Addr) (qs : List Addr) (rows : List (List Int)) : Prop where
  top : H R = some (.lst (qs.map V.ref))
  nd : (R :: qs).Nodup
  len : qs.length = rows.length
  row : ∀ (j : Nat) (q : Addr) (r : List Int), qs[j]? = some q → rows[j]? = some r → H q = some (.lst (r.map V.int))
theorem Nst.keep {H H' : Hp} {R : Addr} {qs : List Addr} {rows : List (List Int)} (n : Nst H R qs rows) (k : ∀ a o, a ∈ R :: qs → H a = some o → H' a = some o) : Nst H' R qs rows :=
  ⟨k _ _ List.mem_cons_self n.top, n.nd, n.len, fun j q r h1 h2 => k _ _ (List.mem_cons_of_mem _ (List.mem_of_getElem? h1)) (n.row j q r h1 h2)⟩
theorem Nst.put {H : Hp} {R : Addr} {qs : List Addr} {rows : List (List Int)} (n : Nst H R qs rows) {i : Nat} {q : Addr} {r' : List Int} (h : qs[i]? = some q) : Nst (upd H q (.lst (r'.map V.int))) R qs (rows.set i r') := by
  have hq : q ∈ qs := List.mem_of_getElem? h
  have nd := List.nodup_cons.mp n.nd
  have nR : R ≠ q := fun e => nd.1 (by rw [e]; exact hq)
  refine ⟨by rw [upd_ne nR]; exact n.top, n.nd, by rw [List.length_set]; exact n.len, fun j p r h1 h2 => ?_⟩
  by_cases hij : i = j
  · subst hij
    rw [h] at h1
    cases h1
    have hl : i < rows.length := by
      have := (List.getElem?_eq_some_iff.mp h).1
      rw [← n.len]
      exact this
    rw [List.getElem?_set_self hl] at h2
    cases h2
    exact upd_same
  · rw [List.getElem?_set_ne hij] at h2
    have np : p ≠ q := fun e => by
      subst e
      obtain ⟨a1, a2⟩ := List.getElem?_eq_some_iff.mp h
      obtain ⟨b1, b2⟩ := List.getElem?_eq_some_iff.mp h1
      exact hij ((List.getElem_inj nd.2).mp (a2.trans b2.symm))
    rw [upd_ne np]
    exact n.row j p r h1 h2
theorem Nst.push {H : Hp} {R q : Addr} {qs : List Addr} {rows : List (List Int)} (n : Nst H R qs rows) {r : List Int} (hq : H q = some (.lst (r.map V.int))) (hn : q ∉ R :: qs) : Nst (upd H R (.lst ((qs ++ [q]).map V.ref))) R (qs ++ [q]) (rows ++ [r]) := by
  have nR : q ≠ R := fun e => hn (by rw [e]; exact List.mem_cons_self)
  have nq : q ∉ qs := fun e => hn (List.mem_cons_of_mem _ e)
  have nd := List.nodup_cons.mp n.nd
  refine ⟨upd_same, ?_, by simp [n.len], fun j p r' h1 h2 => ?_⟩
  · rw [List.nodup_cons]
    refine ⟨fun hm => ?_, ?_⟩
    · rcases List.mem_append.mp hm with hm | hm
      · exact nd.1 hm
      · exact nR (List.mem_singleton.mp hm).symm
    · rw [List.nodup_append]
      refine ⟨nd.2, by simp, fun a ha b hb e => ?_⟩
      rw [List.mem_singleton.mp hb] at e
      exact nq (by rw [← e]; exact ha)
  · by_cases hj : j < qs.length
    · rw [List.getElem?_append_left hj] at h1
      rw [List.getElem?_append_left (by rw [← n.len]; exact hj)] at h2
      have np : p ≠ R := fun e => nd.1 (by rw [← e]; exact List.mem_of_getElem? h1)
      rw [upd_ne np]
      exact n.row j p r' h1 h2
    · have hl := (List.getElem?_eq_some_iff.mp h1).1
      rw [List.length_append, List.length_singleton] at hl
      have ej : j = qs.length := by omega
      subst ej
      rw [List.getElem?_append_right (Nat.le_refl _), Nat.sub_self] at h1
      rw [List.getElem?_append_right (by rw [n.len]; exact Nat.le_refl _), n.len, Nat.sub_self] at h2
      cases h1
      cases h2
      rw [upd_ne nR]
      exact hq
end Shp
end VS

/-! Sh2 -/
namespace VS
open PySem L2
namespace Shp
def accN (r : List Int) (x : Int) (i : Nat) : List Nat := (List.range i).filter fun k => decide (x < r.getD k 0)
theorem accN_succ (r : List Int) (x : Int) (i : Nat) : accN r x (i + 1) = if decide (x < r.getD i 0) = true then accN r x i ++ [i] else accN r x i := by
  unfold accN
  rw [List.range_succ, List.filter_append]
  by_cases h : decide (x < r.getD i 0) = true
  · rw [if_pos h]
    simp only [List.filter_cons, List.filter_nil, h, if_true]
  · rw [if_neg h]
    have h' : decide (x < r.getD i 0) = false := by simpa using h
    simp only [List.filter_cons, List.filter_nil, h', if_false, List.append_nil, Bool.false_eq_true]
theorem accN_len (r : List Int) (x : Int) (i : Nat) : (accN r x i).length ≤ i := by
  unfold accN
  refine Nat.le_trans (List.length_filter_le _ _) ?_
  rw [List.length_range]
  exact Nat.le_refl _
def natV (l : List Nat) : List V := l.map fun (k : Nat) => V.int (Int.ofNat k)
theorem set_at {l : L2.St} {i : Nat} {v : Option V} (h : i < l.length) : (l.set i v)[i]? = some v := List.getElem?_set_self h
theorem set_off {l : L2.St} {i j : Nat} {v : Option V} (h : i ≠ j) : (l.set i v)[j]? = l[j]? := List.getElem?_set_ne h
theorem t_spots {K : PySem.W.Frag} {σ : L2.St} {H : Hp} {Q : VK} {q : Addr} {r : List Int} {x : Int} (hl : σ.length = 12) (h8 : σ[8]? = some (some (.ref q))) (h7 : σ[7]? = some (some (.int x))) (hq : H q = some (.lst (r.map V.int))) (cap : r.length < 1000000)
    (k : ∀ S H', H S = none → H' S = some (.lst (natV (spotsN r x))) → Same H H' → Q (.ref S) H') : tSpots K σ H Q := by
  refine ⟨.ref q, h8, q, r.map V.int, rfl, .of hq, fun D hD => ?_⟩
  refine ⟨fun i m H2 => m = r.length - i ∧ i ≤ r.length ∧ Same H H2 ∧ H2 D = some (.lst (natV (accN r x i))), ⟨r.length, by simp, Nat.zero_le _, same_updN hD, upd_same⟩, ?_⟩
  rintro i m H2 ⟨rfl, hle, sm, eD⟩
  have hA : SqL K H2 q (r.map V.int) := .of (sm _ _ hq)
  by_cases hi : i < r.length
  · have gi : (r.map V.int)[i]? = some (.int r[i]) := by simp [hi]
    refine .inr ⟨⟨_, _, hA, gi⟩, fun H3 => Same H H3 ∧ H3 D = some (.lst (natV (accN r x (i + 1)))), fun H' hN => ⟨r.length - (i + 1), by omega, rfl, hi, hN⟩, fun v H3 hy => ?_⟩
    obtain ⟨T, x1, rfl, nT, rfl, f1⟩ := hy
    have e1 : x1 = .int r[i] := Option.some.inj ((f1 _ hA).symm.trans gi)
    subst e1
    have sT : Same H2 (upd H2 T (.tup [.int (i : Nat), .int r[i]])) := same_updN nT
    have hw : (wipe σ [10, 11]).length = 12 := by rw [wipe_length, hl]
    refine ⟨T, [.int (i : Nat), .int r[i]], rfl, .inl (.inl upd_same), rfl, _, _, rfl, _, _, rfl, rfl, ?_⟩
    generalize hs2 : ((wipe σ [10, 11]).set 10 (some (V.int (i : Nat)))).set 11 (some (.int r[i])) = σ2
    have l2 : σ2.length = 12 := by rw [← hs2, List.length_set, List.length_set, hw]
    have a11 : σ2[11]? = some (some (.int r[i])) := by rw [← hs2]; exact set_at (by rw [List.length_set, hw]; decide)
    have a10 : σ2[10]? = some (some (.int (i : Nat))) := by rw [← hs2, set_off (by decide)]; exact set_at (by rw [hw]; decide)
    have off : ∀ k, k ∉ [10, 11] → σ2[k]? = σ[k]? := fun k hk => by
      have k1 : 10 ≠ k := fun e => hk (by rw [← e]; decide)
      have k2 : 11 ≠ k := fun e => hk (by rw [← e]; decide)
      rw [← hs2, set_off k2, set_off k1, (wipeS_at σ k [10, 11]).2 hk]
    refine ⟨wipe_eq (by rw [l2, hl]) off, ?_⟩
    refine ⟨_, a11, _, (off 7 (by decide)).trans h7, _, _, rfl, rfl, _, rfl, ?_⟩
    have ed : r.getD i 0 = r[i] := by rw [List.getD_eq_getElem?_getD, List.getElem?_eq_getElem hi]; rfl
    by_cases hc : x < r[i]
    · refine (if_pos (decide_eq_true hc)).mpr ?_
      have cl : (natV (accN r x i)).length < 1000000 := by
        unfold natV
        rw [List.length_map]
        have := accN_len r x i
        omega
      refine ⟨_, a10, natV (accN r x i), sT _ _ eD, Nat.lt_of_lt_of_le cl (by decide), ?_, ?_⟩
      · intro a o e
        have e2 := sT _ _ (sm _ _ e)
        have na : a ≠ D := ne_of_none e hD
        rw [upd_ne na]
        exact e2
      · rw [upd_same, accN_succ, ed, if_pos (decide_eq_true hc)]
        simp [natV]
    · refine (if_neg (by rw [decide_eq_false hc]; exact Bool.false_ne_true)).mpr ?_
      refine ⟨sm.trans sT, ?_⟩
      rw [accN_succ, ed, if_neg (by rw [decide_eq_false hc]; exact Bool.false_ne_true)]
      exact sT _ _ eD
  · have ei : i = r.length := by omega
    subst ei
    exact .inl ⟨⟨_, hA, by simp⟩, k D H2 hD eD sm⟩
def Kp (H H' : Hp) (C : List Addr) : Prop := ∀ a o, a ∉ C → H a = some o → H' a = some o
def capR (rows : List (List Int)) : Prop := rows.length < 100000 ∧ ∀ r ∈ rows, r.length < 100000
theorem spots_nil {r : List Int} {x : Int} (h : spotsN r x = []) : ins1 r x = (r ++ [x], none) := by
  unfold ins1
  rw [h]
theorem spots_cons {r : List Int} {x : Int} {j : Nat} {t : List Nat} (h : spotsN r x = j :: t) : ins1 r x = (r.set j x, some (r.getD j 0)) := by
  unfold ins1
  rw [h]
theorem insR_none {r r' : List Int} {rs : List (List Int)} {x : Int} (h : ins1 r x = (r', none)) : insR (r :: rs) x = r' :: rs := by
  rw [insR, h]
theorem insR_some {r r' : List Int} {rs : List (List Int)} {x y : Int} (h : ins1 r x = (r', some y)) : insR (r :: rs) x = r' :: insR rs y := by
  rw [insR, h]
theorem lay_ints : ∀ l : List Int, PyData.canLayAll0 (l.map PyData.int) = true ∧ PyData.depthAll (l.map PyData.int) = 0
  | [] => ⟨rfl, rfl⟩
  | a :: l => by
    obtain ⟨h1, h2⟩ := lay_ints l
    rw [List.map_cons, PyData.canLayAll0, PyData.depthAll, h1, h2]
    exact ⟨rfl, rfl⟩
theorem shaped_ints (l : List Int) : SeqAt.shaped (.list (l.map PyData.int)) = true := by
  obtain ⟨h1, h2⟩ := lay_ints l
  unfold SeqAt.shaped
  rw [PyData.canLay0, PyData.depth, h1, h2]
  rfl
theorem natV_ints (l : List Nat) : natV l = (l.map Int.ofNat).map V.int := by
  unfold natV
  rw [List.map_map]
  rfl
theorem dp_ints {K : PySem.W.Frag} {H : Hp} {p : Addr} {l : List Int} (h : H p = some (.lst (l.map V.int))) : Dp K H (.ref p) (.list (l.map PyData.int)) :=
  .lst (.of h) (by
    clear h
    induction l with
    | nil => exact .nil
    | cons a l ih => exact .cons (.int a) ih)
theorem set_rows {cur : List (List Int)} {i : Nat} (h : i < cur.length) (r' : List Int) : (cur.set i r').take (i + 1) = cur.take i ++ [r'] ∧ (cur.set i r').drop (i + 1) = cur.drop (i + 1) := by
  refine ⟨?_, ?_⟩
  · rw [List.take_set, List.take_succ_eq_append_getElem h, List.set_append_right]
    · simp [List.length_take, Nat.min_eq_left (Nat.le_of_lt h)]
    · simp [List.length_take]
      omega
  · rw [List.drop_set]
    simp
theorem ixN_nat0 {n j : Nat} (hj : j < n) : ixN n (j : Int) = some j := by
  unfold ixN
  simp [hj]
/-- the loop among the rows -/
theorem t_in {K : PySem.W.Frag} {mg : Str → Option Value} {D : Ends} {σ : L2.St} {H : Hp} {R : Addr} {qs : List Addr} {rows : List (List Int)} {g : Int} (hl : σ.length = 12) (h2 : σ[2]? = some (some (.ref R))) (h7 : σ[7]? = some (some (.int g))) (n : Nst H R qs rows) (cap : ∀ r ∈ rows, r.length < 100000)
    (kn : ∀ σ' H' cur y, σ'.length = 12 → (∀ k, k ∉ [7, 8, 9] → σ'[k]? = σ[k]?) → σ'[7]? = some (some (.int y)) → Nst H' R qs cur → Kp H H' (R :: qs) → cur ++ [[y]] = insR rows g → D.nx σ' H')
    (kb : ∀ σ' H' cur, σ'.length = 12 → (∀ k, k ∉ [7, 8, 9] → σ'[k]? = σ[k]?) → σ'[7]? = some (some .non) → Nst H' R qs cur → Kp H H' (R :: qs) → cur = insR rows g → D.nx σ' H') : tIn K D σ H := by
  have RL : ∀ {H'}, (∃ cur, Nst H' R qs cur) → SqL K H' R (qs.map V.ref) := fun ⟨cur, n⟩ => .of n.top
  refine ⟨.ref R, h2, R, rfl, ⟨_, RL ⟨_, n⟩⟩, ?_⟩
  refine ⟨fun i m σ1 H1 => m = qs.length - i ∧ i ≤ qs.length ∧ ∃ cur y, σ1.length = 12 ∧ (∀ k, k ∉ [7, 8, 9] → σ1[k]? = σ[k]?) ∧ σ1[7]? = some (some (.int y)) ∧ Nst H1 R qs cur ∧ Kp H H1 (R :: qs) ∧ (∀ r ∈ cur, r.length < 100000) ∧ cur.take i ++ insR (cur.drop i) y = insR rows g,
    ⟨qs.length, by simp, Nat.zero_le _, rows, g, hl, fun _ _ => rfl, h7, n, fun _ _ _ e => e, cap, by simp⟩, ?_⟩
  rintro i m σ1 H1 ⟨rfl, hle, cur, y, l1, off1, a7, n1, kp1, cap1, tgt1⟩
  by_cases hi : i < qs.length
  · have hic : i < cur.length := by rw [← n1.len]; exact hi
    have hA := RL ⟨cur, n1⟩
    have gi : (qs.map V.ref)[i]? = some (.ref qs[i]) := by simp [hi]
    refine .inr ⟨⟨_, _, hA, gi⟩, fun σ' H' => ∃ cur y, σ'.length = 12 ∧ (∀ k, k ∉ [7, 8, 9] → σ'[k]? = σ[k]?) ∧ σ'[7]? = some (some (.int y)) ∧ Nst H' R qs cur ∧ Kp H H' (R :: qs) ∧ (∀ r ∈ cur, r.length < 100000) ∧ cur.take (i + 1) ++ insR (cur.drop (i + 1)) y = insR rows g,
      fun σ' H' hN => ⟨qs.length - (i + 1), by omega, rfl, hi, hN⟩, fun v H2 hy => ?_⟩
    obtain ⟨rfl, f1⟩ := hy
    have ev : v = .ref qs[i] := Option.some.inj ((f1 _ hA).symm.trans gi)
    subst ev
    have hq : H2 qs[i] = some (.lst (cur[i].map V.int)) := n1.row i _ _ (by simp [hi]) (by simp [hic])
    have lq : (σ1.set 8 (some (V.ref qs[i]))).length = 12 := by rw [List.length_set, l1]
    have off2 : ∀ k, k ∉ [7, 8, 9] → (σ1.set 8 (some (V.ref qs[i])))[k]? = σ[k]? := fun k hk => by
      have k8 : 8 ≠ k := fun e => hk (by rw [← e]; decide)
      rw [set_off k8]
      exact off1 k hk
    have capi : cur[i].length < 100000 := cap1 _ (List.getElem_mem hic)
    have dropi : cur.drop i = cur[i] :: cur.drop (i + 1) := List.drop_eq_getElem_cons hic
    rw [dropi] at tgt1
    unfold gName tSeq tAsg
    refine t_spots (q := qs[i]) (r := cur[i]) (x := y) lq (set_at (by rw [l1]; decide)) (by rw [set_off (by decide)]; exact a7) hq (by omega) fun S H3 nS eS sm => ?_
    have n3 : Nst H3 R qs cur := n1.keep fun a o _ e => sm a o e
    have kp3 : Kp H H3 (R :: qs) := fun a o ha e => sm _ _ (kp1 a o ha e)
    have nSR : S ∉ R :: qs := fun hm => by
      rcases List.mem_cons.mp hm with e | hm
      · rw [e, n1.top] at nS
        cases nS
      · obtain ⟨j, hj, ej⟩ := List.getElem_of_mem hm
        have := n1.row j S _ (by rw [← ej]; simp [hj]) (by rw [List.getElem?_eq_getElem (by rw [← n1.len]; exact hj)])
        rw [this] at nS
        cases nS
    -- spots in its slot
    dsimp only
    generalize hs3 : (σ1.set 8 (some (V.ref qs[i]))).set 9 (some (V.ref S)) = σ3
    have l3 : σ3.length = 12 := by rw [← hs3, List.length_set, lq]
    have b8 : σ3[8]? = some (some (.ref qs[i])) := by rw [← hs3, set_off (by decide)]; exact set_at (by rw [l1]; decide)
    have b9 : σ3[9]? = some (some (.ref S)) := by rw [← hs3]; exact set_at (by rw [lq]; decide)
    have b7 : σ3[7]? = some (some (.int y)) := by rw [← hs3, set_off (by decide), set_off (by decide)]; exact a7
    have off3 : ∀ k, k ∉ [7, 8, 9] → σ3[k]? = σ[k]? := fun k hk => by
      have k9 : 9 ≠ k := fun e => hk (by rw [← e]; decide)
      rw [← hs3, set_off k9]
      exact off2 k hk
    have hq3 : H3 qs[i] = some (.lst (cur[i].map V.int)) := sm _ _ hq
    -- if spots == []
    refine ⟨.ref S, b9, Nat.zero_le _, fun p np => ?_⟩
    have sp : Same H3 (upd H3 p (.lst [])) := same_updN np
    have eSp : upd H3 p (.lst []) S = some (.lst (((spotsN cur[i] y).map Int.ofNat).map V.int)) := by
      rw [upd_ne (ne_of_none eS np), eS, natV_ints]
    refine ⟨.list (((spotsN cur[i] y).map Int.ofNat).map PyData.int), .list ([].map PyData.int), dp_ints eSp, dp_ints upd_same, shaped_ints _, shaped_nilL, _, rfl, ?_⟩
    rw [show PyData.list (([] : List Int).map PyData.int) = .list [] from rfl, eqv_nilL]
    have n4 : Nst (upd H3 p (.lst [])) R qs cur := n3.keep fun a o _ e => sp a o e
    have kp4 : Kp H (upd H3 p (.lst [])) (R :: qs) := fun a o ha e => sp _ _ (kp3 a o ha e)
    have hq4 : upd H3 p (.lst []) qs[i] = some (.lst (cur[i].map V.int)) := sp _ _ hq3
    have iq : qs[i]? = some qs[i] := by simp [hi]
    have mq : qs[i] ∈ R :: qs := List.mem_cons_of_mem _ (List.getElem_mem hi)
    generalize upd H3 p (.lst []) = H4 at eSp n4 kp4 hq4
    cases hsp : spotsN cur[i] y with
    | nil =>
      refine (if_pos rfl).mpr ?_
      have e1 := spots_nil hsp
      -- numbers.append(one)
      refine ⟨.ref qs[i], b8, .inl ⟨rfl, _, .of hq4⟩, .int y, b7, qs[i], cur[i].map V.int, .int y, rfl, rfl, hq4, ?_, ?_⟩
      · rw [List.length_map]
        exact Nat.lt_of_lt_of_le capi (by decide)
      · -- one = None, break
        have n5 := n4.put (r' := cur[i] ++ [y]) iq
        have em : cur[i].map V.int ++ [V.int y] = (cur[i] ++ [y]).map V.int := by simp
        rw [em]
        refine kb (σ3.set 7 (some .non)) _ (cur.set i (cur[i] ++ [y])) (by rw [List.length_set, l3]) (fun k hk => ?_) (set_at (by rw [l3]; decide)) n5 (fun a o ha e => ?_) ?_
        · have k7 : 7 ≠ k := fun e => hk (by rw [← e]; decide)
          rw [set_off k7]
          exact off3 k hk
        · have na : a ≠ qs[i] := fun z => ha (by rw [z]; exact mq)
          rw [upd_ne na]
          exact kp4 a o ha e
        · rw [insR_none e1] at tgt1
          obtain ⟨t1, t2⟩ := set_rows hic (cur[i] ++ [y])
          rw [← List.take_append_drop (i + 1) (cur.set i (cur[i] ++ [y])), t1, t2, List.append_assoc]
          exact tgt1
    | cons j t =>
      refine (if_neg Bool.false_ne_true).mpr ?_
      have e1 := spots_cons hsp
      have hj := spots_lt hsp
      have at0 : atI (((spotsN cur[i] y).map Int.ofNat).map V.int) 0 = some (.int (j : Int)) := by
        rw [hsp]
        exact atI_nat (j := 0) rfl
      have atj : atI (cur[i].map V.int) (j : Int) = some (.int (cur[i].getD j 0)) := by
        refine atI_nat (j := j) ?_
        rw [List.getElem?_map, List.getElem?_eq_getElem hj, List.getD_eq_getElem?_getD, List.getElem?_eq_getElem hj]
        rfl
      have a9 : tAt0 K σ3 H4 = fun Q => tAt0 K σ3 H4 Q := rfl
      have at9 : ∀ {H5 : Hp} {Q : VK}, H5 S = some (.lst (((spotsN cur[i] y).map Int.ofNat).map V.int)) → Q (.int (j : Int)) H5 → tAt0 K σ3 H5 Q := fun {H5 Q} h q => ⟨.ref S, b9, S, _, 0, _, rfl, rfl, .of h, at0, q⟩
      refine ⟨.int y, b7, .ref qs[i], b8, at9 eSp ⟨qs[i], _, (j : Int), _, rfl, rfl, .of hq4, atj, (show (2 : Nat) ≤ sizeLine by decide), fun p2 np2 => ?_⟩⟩
      have sp2 : Same H4 (upd H4 p2 (.tup [.int y, .int (cur[i].getD j 0)])) := same_updN np2
      have n5 : Nst (upd H4 p2 (.tup [.int y, .int (cur[i].getD j 0)])) R qs cur := n4.keep fun a o _ e => sp2 a o e
      refine ⟨p2, _, rfl, .inl (.inl upd_same), rfl, _, _, rfl, .ref qs[i], b8, at9 (sp2 _ _ eSp) ⟨qs[i], cur[i].map V.int, (j : Int), j, rfl, rfl, sp2 _ _ hq4, ?_, ?_⟩⟩
      · exact ixN_nat0 (by rw [List.length_map]; exact hj)
      · have n6 := n5.put (r' := cur[i].set j y) iq
        have em : (cur[i].map V.int).set j (V.int y) = (cur[i].set j y).map V.int := by rw [List.map_set]
        rw [em]
        obtain ⟨t1, t2⟩ := set_rows hic (cur[i].set j y)
        refine ⟨_, _, rfl, rfl, cur.set i (cur[i].set j y), cur[i].getD j 0, by show (σ3.set 7 _).length = 12; rw [List.length_set, l3], fun k hk => ?_, set_at (by rw [l3]; decide), n6, fun a o ha e => ?_, fun r hr => ?_, ?_⟩
        · have k7 : 7 ≠ k := fun e => hk (by rw [← e]; decide)
          show (σ3.set 7 _)[k]? = _
          rw [set_off k7]
          exact off3 k hk
        · have na : a ≠ qs[i] := fun z => ha (by rw [z]; exact mq)
          rw [upd_ne na]
          exact sp2 _ _ (kp4 a o ha e)
        · rcases List.mem_or_eq_of_mem_set hr with hr | rfl
          · exact cap1 r hr
          · rw [List.length_set]
            exact capi
        · rw [insR_some e1] at tgt1
          rw [t1, t2, List.append_assoc]
          exact tgt1
  · have ei : i = qs.length := by omega
    subst ei
    refine .inl ⟨⟨_, RL ⟨cur, n1⟩, by simp⟩, kn σ1 H1 cur y l1 off1 a7 n1 kp1 ?_⟩
    rw [n1.len, List.take_length, List.drop_length] at tgt1
    exact tgt1
end Shp
end VS

/-! Sh3 -/
namespace VS
open PySem L2
namespace Shp
theorem t_one {K : PySem.W.Frag} {D : Ends} {σ : L2.St} {H : Hp} {R : Addr} {qs : List Addr} {rows : List (List Int)} {g : Int} (hl : σ.length = 12) (h2 : σ[2]? = some (some (.ref R))) (h4 : σ[4]? = some (some (.int g))) (n : Nst H R qs rows) (cap : capR rows)
    (k : ∀ σ' H' qs', σ'.length = 12 → (∀ k, k ∉ [7, 8, 9] → σ'[k]? = σ[k]?) → Nst H' R qs' (insR rows g) → Kp H H' (R :: qs) → (∀ a ∈ qs', a ∈ qs ∨ H a = none) → D.nx σ' H') : tOne K D σ H := by
  refine ⟨.int g, h4, ?_⟩
  have off7 : ∀ k, k ∉ [7, 8, 9] → (σ.set 7 (some (V.int g)))[k]? = σ[k]? := fun k hk => set_off fun e => hk (by rw [← e]; decide)
  refine t_in (mg := fun _ => none) (g := g) (by rw [List.length_set, hl]) ((set_off (by decide)).trans h2) (set_at (by rw [hl]; decide)) n cap.2 (fun σ1 H1 cur y l1 off1 a7 n1 kp1 tgt => ?_) (fun σ1 H1 cur l1 off1 a7 n1 kp1 tgt => ?_)
  · have b2 : σ1[2]? = some (some (.ref R)) := ((off1 2 (by decide)).trans (off7 2 (by decide))).trans h2
    refine ⟨.int y, a7, rfl, _, rfl, (if_pos rfl).mpr ?_⟩
    refine ⟨.ref R, b2, .inl ⟨rfl, _, .of n1.top⟩, .int y, a7, (show (1 : Nat) ≤ sizeLine by decide), fun q nq => ?_⟩
    have sq : Same H1 (upd H1 q (.lst [.int y])) := same_updN nq
    have n2 : Nst (upd H1 q (.lst [.int y])) R qs cur := n1.keep fun a o _ e => sq a o e
    have hn : q ∉ R :: qs := fun hm => by
      rcases List.mem_cons.mp hm with e | hm
      · rw [e, n1.top] at nq
        cases nq
      · obtain ⟨j, hj, ej⟩ := List.getElem_of_mem hm
        have := n1.row j q _ (by rw [← ej]; simp [hj]) (by rw [List.getElem?_eq_getElem (by rw [← n1.len]; exact hj)])
        rw [this] at nq
        cases nq
    have n3 := n2.push (r := [y]) upd_same hn
    have em : qs.map V.ref ++ [V.ref q] = (qs ++ [q]).map V.ref := by simp
    refine ⟨R, qs.map V.ref, .ref q, rfl, rfl, n2.top, ?_, ?_⟩
    · rw [List.length_map, n.len]
      exact Nat.lt_of_lt_of_le cap.1 (by decide)
    · rw [em]
      rw [tgt] at n3
      have hq0 : H q = none := by
        cases e : H q with
        | none => rfl
        | some o =>
          have := kp1 q o hn e
          rw [this] at nq
          cases nq
      refine k σ1 _ (qs ++ [q]) l1 (fun k hk => (off1 k hk).trans (off7 k hk)) n3 (fun a o ha e => ?_) fun a ha => ?_
      · have na : a ≠ R := fun z => ha (by rw [z]; exact List.mem_cons_self)
        rw [upd_ne na]
        exact sq _ _ (kp1 a o ha e)
      · rcases List.mem_append.mp ha with ha | ha
        · exact .inl ha
        · rw [List.mem_singleton.mp ha]
          exact .inr hq0
  · refine ⟨.non, a7, rfl, _, rfl, (if_neg (by decide)).mpr ?_⟩
    rw [tgt] at n1
    exact k σ1 H1 qs l1 (fun k hk => (off1 k hk).trans (off7 k hk)) n1 kp1 fun a ha => .inl ha
/-! ### the loops around -/
theorem t_forR {K : PySem.W.Frag} {mg : Str → Option Value} {b : Bool} {m m' : List Bool} {W : WX} {ev : En → R (List PyData)} {g : PyData → En → Option En} {ts : List Nat} {tb : TS} {D : Ends} {σ : L2.St} {H : Hp} {ds : List PyData} {f : Fr} {Hs : Hp} {en en' : En}
    (r : Rl K mg b m f Hs en σ H) (he : ev en = .ok ds en') (P : Hp → Nat → L2.St → Hp → Prop) (h0 : ∀ H' Hs', Rl K mg b m f Hs' en' σ H' → Same Hs Hs' → P Hs' 0 σ H')
    (inv : ∀ Hs' i σ1 H1, Same Hs Hs' → i ≤ ds.length → P Hs' i σ1 H1 → ∃ f1 Hs1 en1, Rl K mg b m f1 Hs1 en1 σ1 H1 ∧ Same Hs' Hs1 ∧ (∀ d, ds[i]? = some d → ∃ en2, g d en1 = some en2 ∧ ∀ σ2 H2 Hs2, Rl K mg b m' f1 Hs2 en2 σ2 H2 → Same Hs1 Hs2 → (∀ k, k ∉ ts → σ2[k]? = σ1[k]?) →
      tb { D with nx := P Hs' (i + 1), ct := P Hs' (i + 1), bk := D.nx } σ2 H2) ∧ (i = ds.length → D.nx σ1 H1)) : tFor (tiv K mg b m W ev) (tgt K mg b m m' ts g) tb D σ H := by
  refine ⟨f, Hs, en, r, ?_⟩
  rw [he]
  intro J H1 Hs1 r1 s1 wk1
  refine ⟨fun i n σ2 H2 => n = ds.length - i ∧ i ≤ ds.length ∧ P Hs1 i σ2 H2, ⟨ds.length, by simp, Nat.zero_le _, h0 H1 Hs1 r1 s1⟩, ?_⟩
  rintro i n σ2 H2 ⟨rfl, hle, p⟩
  obtain ⟨f1, Hs2, en1, r2, s2, st, fi⟩ := inv Hs1 i σ2 H2 s1 hle p
  by_cases hlt : i < ds.length
  · refine .inr ⟨wk1.go i Hs2 H2 s2 r2.sub hlt, P Hs1 (i + 1), fun σ' H' q => ⟨ds.length - (i + 1), by omega, rfl, hlt, q⟩, fun x H3 y => ?_⟩
    obtain ⟨d, Hs3, ed, al, p3⟩ := wk1.yld i Hs2 H2 x H3 s2 r2.sub hlt y
    obtain ⟨r3, s3⟩ := r2.al al
    obtain ⟨en2, eg, q⟩ := st d ed
    refine ⟨f1, Hs3, en1, d, r3, p3, ?_⟩
    rw [eg]
    exact fun σ4 H4 Hs4 r4 s4 k4 => q σ4 H4 Hs4 r4 (s3.trans s4) k4
  · exact .inl ⟨by
      have ei : i = ds.length := by omega
      subst ei
      exact wk1.stop Hs2 H2 s2 r2.sub, fi (by omega)⟩
def _root_.VS.Fr.wC (f : Fr) (H : Hp) (C : List Addr) : Fr := { f with H0 := fun a => if a ∈ C then H a else f.H0 a }
/-- private cells: not shared, not of the entry -/
def Prv (f : Fr) (Hs : Hp) (C : List Addr) : Prop := ∀ a ∈ C, Hs a = none ∧ f.H0 a = none
section
variable {K : PySem.W.Frag} {mg : Str → Option Value} {m : List Bool} {f : Fr} {Hs H H' : Hp} {en en' : En} {σ σ' : L2.St} {C : List Addr}
theorem gC (hm : ∀ i, ownAt m i = false) (r : Rl K mg false m f Hs en σ H) (p : Prv f Hs C) : Rl K mg false m (f.wC H C) Hs en σ H := by
  have no : ∀ {i}, ownAt m i = true → False := fun {i} h => by rw [hm i] at h; cases h
  refine ⟨r.sub, r.base, fun a o e => ?_, fun a o e ni => ?_, (fun h => nomatch h), r.nobag, r.len, r.sh, fun i d h => (no h).elim, fun i j d e q _ h => (no h).elim⟩
  · by_cases ha : a ∈ C
    · obtain ⟨h1, _⟩ := p a ha
      rw [h1]
      exact (r.base.free h1).symm
    · exact r.ext a o (by rw [← e]; exact (if_neg ha).symm)
  · by_cases ha : a ∈ C
    · rw [← e]
      exact (if_pos ha).symm
    · exact r.keep a o (by rw [← e]; exact (if_neg ha).symm) ni
theorem uC {H0' : Hp} (hm : ∀ i, ownAt m i = false) (r : Rl K mg false m (f.wC H0' C) Hs en σ H) (p : Prv f f.Hc C) (hx : ∀ a ∈ C, H0' a ≠ none) : Rl K mg false m f Hs en σ H ∧ Prv f Hs C ∧ (∀ a ∈ C, H a = H0' a) := by
  have no : ∀ {i}, ownAt m i = true → False := fun {i} h => by rw [hm i] at h; cases h
  have io : f.io = none := r.nobag rfl
  have q : ∀ a o, f.H0 a = some o → (f.wC H0' C).H0 a = some o := fun a o e => by
    have ha : a ∉ C := fun z => by
      rw [(p a z).2] at e
      cases e
    rw [← e]
    exact if_neg ha
  have inC : ∀ a ∈ C, ∃ o, (f.wC H0' C).H0 a = some o ∧ H0' a = some o := fun a ha => by
    cases e : H0' a with
    | none => exact absurd e (hx a ha)
    | some o => exact ⟨o, (if_pos ha).trans e, rfl⟩
  refine ⟨⟨r.sub, r.base, fun a o e => r.ext a o (q a o e), fun a o e ni => r.keep a o (q a o e) ni, (fun h => nomatch h), r.nobag, r.len, r.sh, fun i d h => (no h).elim, fun i j d e q _ h => (no h).elim⟩, fun a ha => ?_, fun a ha => ?_⟩
  · obtain ⟨o, e1, _⟩ := inC a ha
    exact ⟨(r.ext a o e1).trans (p a ha).1, (p a ha).2⟩
  · obtain ⟨o, e1, e2⟩ := inC a ha
    rw [e2]
    exact r.keep a o e1 (by show f.io ≠ some a; rw [io]; exact fun z => nomatch z)
theorem jump (hm : ∀ i, ownAt m i = false) (r : Rl K mg false m f Hs en σ H) (p : Prv f Hs C) (kp : Kp H H' C) (hl : en'.length = σ'.length) (he : ∀ (i : Nat) (d : PyData), en'[i]? = some (some d) → en[i]? = some (some d) ∧ σ'[i]? = σ[i]?) : Rl K mg false m f Hs en' σ' H' := by
  have no : ∀ {i}, ownAt m i = true → False := fun {i} h => by rw [hm i] at h; cases h
  refine ⟨fun a o e => kp a o (fun z => by rw [(p a z).1] at e; cases e) (r.sub a o e), r.base, r.ext, fun a o e ni => kp a o (fun z => by rw [(p a z).2] at e; cases e) (r.keep a o e ni), (fun h => nomatch h), r.nobag, hl, fun i d h1 h2 => ?_, fun i d h => (no h).elim, fun i j d e q _ h => (no h).elim⟩
  obtain ⟨h3, h4⟩ := he i d h2
  rw [h4]
  exact r.sh i d h1 h3
end
end Shp
end VS

/-! Sh4 -/
namespace VS
open PySem L2
namespace Shp
/-! ### numbers -/
def rows? : List PyData → Option (List (List Int))
  | [] => some []
  | .tuple xs :: r => match ints? xs, rows? r with
    | some ns, some rs => some (ns :: rs)
    | _, _ => none
  | _ => none
def puts (rows : List (List Int)) (g : Int) : Nat → List (List Int)
  | 0 => rows
  | n + 1 => insR (puts rows g n) g
def rowPut (rows : List (List Int)) : List Int → Nat → List (List Int)
  | [], _ => rows
  | m :: ms, c => rowPut (puts rows (c : Int) m.toNat) ms (c + 1)
def shp (hh : List (List Int)) (e : Nat) : List (List Int) := hh.foldl (fun rows row => rowPut rows (row.take e) 0) []
def tot (hh : List (List Int)) : Nat := (hh.map fun r => (r.map Int.toNat).sum).sum
def shF : List PyData → Fv
  | [.tuple hs, .int e] => match rows? hs with
    | some hh => if 0 ≤ e ∧ (hh.all fun r => r.all inR) = true ∧ tot hh < 100000 then .ok (.list ((shp hh e.toNat).map fun r => .int (r.length : Int))) .none else .stuck
    | none => .stuck
  | _ => .stuck
/-! sizes -/
def size (rows : List (List Int)) : Nat := (rows.map List.length).sum
def good (rows : List (List Int)) (n : Nat) : Prop := size rows = n ∧ ∀ r ∈ rows, r ≠ []
theorem ins1_len (r : List Int) (x : Int) : (ins1 r x).1.length = r.length + (match (ins1 r x).2 with | none => 1 | some _ => 0) := by
  unfold ins1
  cases spotsN r x with
  | nil => simp
  | cons j t => simp
theorem insR_good : ∀ (rows : List (List Int)) (x : Int) (n : Nat), good rows n → good (insR rows x) (n + 1)
  | [], x, n, h => by
    obtain ⟨h1, h2⟩ := h
    have : n = 0 := by rw [← h1]; rfl
    subst this
    exact ⟨rfl, fun r hr => by simp [insR] at hr; rw [hr]; simp⟩
  | r :: rs, x, n, h => by
    obtain ⟨h1, h2⟩ := h
    have l := ins1_len r x
    have hr : r ≠ [] := h2 r List.mem_cons_self
    have hrl : 0 < r.length := List.length_pos_iff.mpr hr
    have e1 : size (r :: rs) = r.length + size rs := by simp [size]
    rcases e : ins1 r x with ⟨r', o⟩
    rw [e] at l
    cases o with
    | none =>
      rw [insR_none e]
      simp only at l
      refine ⟨by simp [size] at h1 ⊢; omega, fun q hq => ?_⟩
      rcases List.mem_cons.mp hq with rfl | hq
      · exact List.length_pos_iff.mp (by omega)
      · exact h2 q (List.mem_cons_of_mem _ hq)
    | some y =>
      rw [insR_some e]
      simp only at l
      obtain ⟨g1, g2⟩ := insR_good rs y (size rs) ⟨rfl, fun q hq => h2 q (List.mem_cons_of_mem _ hq)⟩
      refine ⟨?_, fun q hq => ?_⟩
      · have : size (r' :: insR rs y) = r'.length + size (insR rs y) := by simp [size]
        rw [this, g1]
        omega
      · rcases List.mem_cons.mp hq with rfl | hq
        · exact List.length_pos_iff.mp (by omega)
        · exact g2 q hq
theorem puts_good (rows : List (List Int)) (g : Int) (n : Nat) (h : good rows n) : ∀ k, good (puts rows g k) (n + k)
  | 0 => h
  | k + 1 => insR_good _ g _ (puts_good rows g n h k)
theorem good_cap {rows : List (List Int)} {n : Nat} (h : good rows n) (hn : n < 100000) : capR rows := by
  obtain ⟨h1, h2⟩ := h
  have key : ∀ rows : List (List Int), (∀ r ∈ rows, r ≠ []) → rows.length ≤ size rows ∧ ∀ r ∈ rows, r.length ≤ size rows := by
    intro rows
    induction rows with
    | nil => intro _; exact ⟨Nat.zero_le _, fun r hr => by simp at hr⟩
    | cons r rs ih =>
      intro h
      obtain ⟨i1, i2⟩ := ih fun q hq => h q (List.mem_cons_of_mem _ hq)
      have hrl : 0 < r.length := List.length_pos_iff.mpr (h r List.mem_cons_self)
      have e : size (r :: rs) = r.length + size rs := by simp [size]
      refine ⟨by rw [e, List.length_cons]; omega, fun q hq => ?_⟩
      rcases List.mem_cons.mp hq with rfl | hq
      · omega
      · have := i2 q hq
        omega
  obtain ⟨k1, k2⟩ := key rows h2
  exact ⟨by omega, fun r hr => by have := k2 r hr; omega⟩
theorem rowPut_good : ∀ (ms : List Int) (rows : List (List Int)) (c n : Nat), good rows n → good (rowPut rows ms c) (n + (ms.map Int.toNat).sum)
  | [], rows, c, n, h => by simpa [rowPut] using h
  | m :: ms, rows, c, n, h => by
    have := rowPut_good ms _ (c + 1) _ (puts_good rows (c : Int) n h m.toNat)
    rw [List.map_cons, List.sum_cons, ← Nat.add_assoc]
    exact this
theorem rowPut_snoc : ∀ (ms : List Int) (rows : List (List Int)) (c : Nat) (m : Int), rowPut rows (ms ++ [m]) c = puts (rowPut rows ms c) ((c + ms.length : Nat) : Int) m.toNat
  | [], rows, c, m => by simp [rowPut]
  | a :: ms, rows, c, m => by
    rw [List.cons_append, rowPut, rowPut, rowPut_snoc ms _ (c + 1) m, List.length_cons]
    congr 2
    omega
theorem take_sum_le (r : List Int) (e : Nat) : ((r.take e).map Int.toNat).sum ≤ (r.map Int.toNat).sum := by
  induction r generalizing e with
  | nil => simp
  | cons a r ih =>
    cases e with
    | zero => simp
    | succ e =>
      have := ih e
      simp only [List.take_succ_cons, List.map_cons, List.sum_cons]
      omega
theorem fold_good : ∀ (hh : List (List Int)) (e : Nat) (rows : List (List Int)) (n : Nat), good rows n → ∃ k, k ≤ tot hh ∧ good (hh.foldl (fun rows row => rowPut rows (row.take e) 0) rows) (n + k)
  | [], e, rows, n, h => ⟨0, Nat.zero_le _, h⟩
  | r :: hh, e, rows, n, h => by
    obtain ⟨k, h1, h2⟩ := fold_good hh e _ _ (rowPut_good (r.take e) rows 0 n h)
    have := take_sum_le r e
    refine ⟨((r.take e).map Int.toNat).sum + k, ?_, by rw [← Nat.add_assoc]; exact h2⟩
    show _ ≤ ((r :: hh).map fun r => (r.map Int.toNat).sum).sum
    rw [List.map_cons, List.sum_cons]
    have : k ≤ (hh.map fun r => (r.map Int.toNat).sum).sum := h1
    omega
theorem rows_eq : ∀ {hs : List PyData} {hh : List (List Int)}, rows? hs = some hh → hs = hh.map fun r => PyData.tuple (r.map PyData.int)
  | [], hh, h => by
    unfold rows? at h
    cases h
    rfl
  | d :: hs, hh, h => by
    cases d with
    | tuple xs =>
      unfold rows? at h
      cases e1 : ints? xs with
      | none => simp [e1] at h
      | some ns =>
        cases e2 : rows? hs with
        | none => simp [e1, e2] at h
        | some rs =>
          simp [e1, e2] at h
          subst h
          rw [ints_eq e1, rows_eq e2]
          rfl
    | none => cases h
    | bool _ => cases h
    | int _ => cases h
    | str _ => cases h
    | list _ => cases h
    | dict _ => cases h
end Shp
end VS

/-! Sh5 -/
namespace VS
open PySem L2
namespace Shp
/-- the state between turns -/
def PP (K : PySem.W.Frag) (mg : Str → Option Value) (f : Fr) (R : Addr) (m : List Bool) (en : En) (rows : List (List Int)) (Hb : Hp) (σ : L2.St) (H : Hp) : Prop :=
  ∃ Hs qs, Rl K mg false m f Hs en σ H ∧ Same Hb Hs ∧ Nst H R qs rows ∧ σ[2]? = some (some (.ref R)) ∧ Prv f Hs (R :: qs)
section
variable {K : PySem.W.Frag} {mg : Str → Option Value} {m m' : List Bool} {f : Fr} {R : Addr} {en en' : En} {rows : List (List Int)} {Hb Hb' Hs H : Hp} {σ : L2.St}
theorem PP.base (s : Same Hb Hb') (p : PP K mg f R m en rows Hb' σ H) : PP K mg f R m en rows Hb σ H := by
  obtain ⟨Hs, qs, r, s1, n, h2, pv⟩ := p
  exact ⟨Hs, qs, r, s.trans s1, n, h2, pv⟩
theorem Rl.mask (r : Rl K mg false m f Hs en σ H) (hm : ∀ i, ownAt m i = false) (hm' : ∀ i, ownAt m' i = false) : Rl K mg false m' f Hs en σ H :=
  ⟨r.sub, r.base, r.ext, r.keep, (fun h => nomatch h), r.nobag, r.len, fun i d _ h2 => r.sh i d (hm i) h2, (fun i d h1 => absurd h1 (by rw [hm' i]; exact Bool.false_ne_true)), (fun i j d e q _ h1 => absurd h1 (by rw [hm' i]; exact Bool.false_ne_true))⟩
theorem PP.mask (p : PP K mg f R m en rows Hb σ H) (hm : ∀ i, ownAt m i = false) (hm' : ∀ i, ownAt m' i = false) : PP K mg f R m' en rows Hb σ H := by
  obtain ⟨Hs, qs, r, s1, n, h2, pv⟩ := p
  exact ⟨Hs, qs, Rl.mask r hm hm', s1, n, h2, pv⟩
theorem PP.forget (p : PP K mg f R m en rows Hb σ H) (hm : ∀ i, ownAt m i = false) (hl : en'.length = en.length) (he : ∀ (i : Nat) (d : PyData), en'[i]? = some (some d) → en[i]? = some (some d)) : PP K mg f R m en' rows Hb σ H := by
  obtain ⟨Hs, qs, r, s1, n, h2, pv⟩ := p
  exact ⟨Hs, qs, jump (C := []) hm r (fun a ha => by simp at ha) (fun a o _ e => e) (hl.trans r.len) fun i d h => ⟨he i d h, rfl⟩, s1, n, h2, pv⟩
theorem PP.guard (p : PP K mg f R m en rows Hb σ H) (hm : ∀ i, ownAt m i = false) : ∃ f1 Hs, Rl K mg false m f1 Hs en σ H ∧ Same Hb Hs ∧
    ∀ Hs2 en2 σ2 H2 m2, (∀ i, ownAt m2 i = false) → Rl K mg false m2 f1 Hs2 en2 σ2 H2 → Same Hs Hs2 → σ2[2]? = σ[2]? → PP K mg f R m2 en2 rows Hs2 σ2 H2 ∧ PP K mg f R m2 en2 rows Hb σ2 H2 := by
  obtain ⟨Hs, qs, r, s1, n, h2, pv⟩ := p
  refine ⟨f.wC H (R :: qs), Hs, gC hm r pv, s1, fun Hs2 en2 σ2 H2 m2 hm2 r2 s2 e2 => ?_⟩
  have hx : ∀ a ∈ R :: qs, H a ≠ none := fun a ha => by
    rcases List.mem_cons.mp ha with e | ha
    · rw [e, n.top]
      exact fun z => nomatch z
    · obtain ⟨j, hj, ej⟩ := List.getElem_of_mem ha
      have := n.row j a _ (by rw [← ej]; simp [hj]) (by rw [List.getElem?_eq_getElem (by rw [← n.len]; exact hj)])
      rw [this]
      exact fun z => nomatch z
  obtain ⟨r3, p3, k3⟩ := uC hm2 r2 (fun a ha => ⟨r.base.free (pv a ha).1, (pv a ha).2⟩) hx
  have n2 : Nst H2 R qs rows := n.keep fun a o ha e => by rw [k3 a ha]; exact e
  exact ⟨⟨Hs2, qs, r3, Same.refl _, n2, by rw [e2]; exact h2, p3⟩, ⟨Hs2, qs, r3, s1.trans s2, n2, by rw [e2]; exact h2, p3⟩⟩
theorem PP.loop {W : WX} {ev : En → VS.R (List PyData)} {g : PyData → En → Option En} {ts : List Nat} {tb : TS} {D : Ends} {ds : List PyData} (rowsF : Nat → List (List Int)) (p : PP K mg f R m en (rowsF 0) Hb σ H) (hm : ∀ i, ownAt m i = false) (hm' : ∀ i, ownAt m' i = false) (he : ev en = .ok ds en) (ht : 2 ∉ ts)
    (hg : ∀ d ∈ ds, ∃ en2, g d en = some en2)
    (step : ∀ Hb i d σ2 H2 en2 D, i < ds.length → ds[i]? = some d → g d en = some en2 → PP K mg f R m' en2 (rowsF i) Hb σ2 H2 → (∀ σ H, PP K mg f R m en (rowsF (i + 1)) Hb σ H → D.nx σ H) → tb D σ2 H2)
    (fi : ∀ σ H, PP K mg f R m en (rowsF ds.length) Hb σ H → D.nx σ H) : tFor (tiv K mg false m W ev) (tgt K mg false m m' ts g) tb D σ H := by
  obtain ⟨f1, Hs, r, s1, back⟩ := p.guard hm
  refine t_forR r he (fun Hs' i σ H => PP K mg f R m en (rowsF i) Hs' σ H) (fun H' Hs' r' s' => (back Hs' en σ H' m hm r' s' rfl).1) fun Hs' i σ1 H1 sb hi p1 => ?_
  obtain ⟨f2, Hs2, r2, s2, back2⟩ := p1.guard hm
  refine ⟨f2, Hs2, en, r2, s2, fun d hd => ?_, fun ei => ?_⟩
  · obtain ⟨en2, e2⟩ := hg d (List.mem_of_getElem? hd)
    refine ⟨en2, e2, fun σ2 H2 Hs3 r3 s3 k3 => ?_⟩
    exact step Hs' i d σ2 H2 en2 _ (List.getElem?_eq_some_iff.mp hd).1 hd e2 (back2 Hs3 en2 σ2 H2 m' hm' r3 s3 (k3 2 ht)).2 fun σ H q => q
  · subst ei
    exact fi σ1 H1 (p1.base (s1.trans sb))
theorem PP.one {D : Ends} {g : Int} (p : PP K mg f R m en rows Hb σ H) (hm : ∀ i, ownAt m i = false) (hl : en.length = 12) (h4 : en[4]? = some (some (.int g))) (cap : capR rows) (hl' : en'.length = 12) (he : ∀ (i : Nat) (d : PyData), en'[i]? = some (some d) → en[i]? = some (some d) ∧ i ∉ [7, 8, 9])
    (k : ∀ σ H, PP K mg f R m en' (insR rows g) Hb σ H → D.nx σ H) : tOne K D σ H := by
  obtain ⟨Hs, qs, r, s1, n, h2, pv⟩ := p
  obtain ⟨v, e1, e2⟩ := r.sh 4 _ (hm 4) h4
  rw [e2.int_inv] at e1
  refine t_one (by rw [← r.len]; exact hl) h2 e1 n cap fun σ' H' qs' l' off n' kp fr => k σ' H' ?_
  refine ⟨Hs, qs', jump hm r pv kp (by rw [hl', l']) (fun i d h => ⟨(he i d h).1, off i (he i d h).2⟩), s1, n', (off 2 (by decide)).trans h2, fun a ha => ?_⟩
  rcases List.mem_cons.mp ha with e | ha
  · exact pv a (by rw [e]; exact List.mem_cons_self)
  · rcases fr a ha with h | h
    · exact pv a (List.mem_cons_of_mem _ h)
    · refine ⟨r.sub.free h, ?_⟩
      cases e : f.H0 a with
      | none => rfl
      | some u =>
        obtain ⟨o', e'⟩ := r.there e
        rw [h] at e'
        cases e'
end
theorem cut_take {ds : List PyData} {e : Int} (h : 0 ≤ e) : cutD ds none (some e) = ds.take e.toNat := by
  have e1 : HT.sIx ds.length 0 none = 0 := rfl
  have e2 : HT.sIx ds.length ds.length (some e) = min e.toNat ds.length := by
    show (if e < 0 then (e + (ds.length : Int)).toNat else min e.toNat ds.length) = _
    rw [if_neg (by omega)]
  unfold cutD
  rw [e1, e2, List.drop_zero, Nat.sub_zero, List.take_eq_take_iff]
  omega
theorem tot_take : ∀ (hh : List (List Int)) (n : Nat), tot (hh.take n) ≤ tot hh
  | [], n => by simp [tot]
  | r :: hh, 0 => by simp [tot]
  | r :: hh, n + 1 => by
    have := tot_take hh n
    unfold tot at this ⊢
    simp only [List.take_succ_cons, List.map_cons, List.sum_cons]
    omega
def enA (h e : PyData) : En := [some h, some e, none, none, none, none, none, none, none, none, none, none]
def enB (h e r : PyData) : En := [some h, some e, none, some r, none, none, none, none, none, none, none, none]
def enC (h e r g m : PyData) : En := [some h, some e, none, some r, some g, some m, none, none, none, none, none, none]
def enD (h e r g m t : PyData) : En := [some h, some e, none, some r, some g, some m, some t, none, none, none, none, none]
theorem at12 {o : Nat → Option PyData} (p : Nat → Prop) (h : ∀ i, i < 12 → p i) (i : Nat) (hi : i < 12) : p i := h i hi
theorem m12f : ∀ i, ownAt m12 i = false := fun i => by
  unfold ownAt m12
  rw [List.getD_eq_getElem?_getD, List.getElem?_replicate]
  split <;> rfl
theorem m12s (j : Nat) : ∀ i, ownAt (m12.set j false) i = false := fun i => by
  by_cases hj : j < m12.length
  · rw [ownAt_set m12 j i false hj]
    split
    · rfl
    · exact m12f i
  · rw [List.set_eq_of_length_le (by omega)]
    exact m12f i
theorem m12ss : ∀ i, ownAt ((m12.set 4 false).set 5 false) i = false := fun i => by
  rw [ownAt_set _ 5 i false (by decide)]
  split
  · rfl
  · exact m12s 4 i
section
variable {K : PySem.W.Frag} {mg : Str → Option Value} {f : Fr} {R : Addr} {rows : List (List Int)} {Hb H : Hp} {σ : L2.St} {h e : PyData} {D : Ends}
theorem dc (q : Nat → Bool) (hq : (List.range 12).all q = true) {i : Nat} (hi : i < 12) : q i = true := List.all_eq_true.mp hq i (List.mem_range.mpr hi)
theorem lev3 {r : PyData} {c m : Int} {n : Nat} (p : PP K mg f R m12 (enC h e r (.int c) (.int m)) rows Hb σ H) (hi : inR m = true) (g : good rows n) (hn : n + m.toNat < 100000)
    (k : ∀ σ H, PP K mg f R m12 (enC h e r (.int c) (.int m)) (puts rows c m.toNat) Hb σ H → D.nx σ H) :
    tFor (tiv K mg false m12 WF (evA gR1 (eCons (eV 5) eNil))) (tgt K mg false m12 (m12.set 6 false) [6] (gN 6)) (tOne K) D σ H := by
  have he : evA gR1 (eCons (eV 5) eNil) (enC h e r (.int c) (.int m)) = .ok (rangeL 0 1 m.toNat) (enC h e r (.int c) (.int m)) := by
    show VS.R.ofO (if inR m = true then some (rangeL 0 1 m.toNat) else none) _ = _
    rw [if_pos hi]
    rfl
  refine PP.loop (fun j => puts rows c j) p m12f (m12s 6) he (by decide) (fun d hd => ⟨_, rfl⟩) (fun Hb j d σ2 H2 en2 D hj hd hg p2 kD => ?_) (fun σ3 H3 p3 => k σ3 H3 (by rw [rangeL_len] at p3; exact p3))
  rw [rangeL_len] at hj
  have ee : en2 = enD h e r (.int c) (.int m) d := (Option.some.inj hg).symm
  subst ee
  refine p2.one (m12s 6) rfl rfl (good_cap (puts_good rows c n g j) (by omega)) rfl (fun i z hz => ?_) fun σ H q => kD σ H (q.mask (m12s 6) m12f)
  have hi12 : i < 12 := (List.getElem?_eq_some_iff.mp hz).1
  have : i = 0 ∨ i = 1 ∨ i = 2 ∨ i = 3 ∨ i = 4 ∨ i = 5 ∨ i = 6 ∨ i = 7 ∨ i = 8 ∨ i = 9 ∨ i = 10 ∨ i = 11 := by omega
  rcases this with rfl | rfl | rfl | rfl | rfl | rfl | rfl | rfl | rfl | rfl | rfl | rfl <;> first | exact ⟨hz, by decide⟩ | (exact absurd hz (fun z => nomatch z))
theorem lev2 {row : List Int} {n : Nat} {ee : Int} (he0 : 0 ≤ ee) (p : PP K mg f R m12 (enB h (.int ee) (.tuple (row.map PyData.int))) rows Hb σ H) (hin : row.all inR = true) (g : good rows n) (hn : n + (row.map Int.toNat).sum < 100000)
    (k : ∀ σ H, PP K mg f R m12 (enB h (.int ee) (.tuple (row.map PyData.int))) (rowPut rows (row.take ee.toNat) 0) Hb σ H → D.nx σ H) :
    tFor (tiv K mg false m12 WF (evA gEn (eCons (eSl (eV 3) pNo (pYes (eV 1))) eNil))) (tgt K mg false m12 ((m12.set 4 false).set 5 false) [4, 5] (gT (gsC (gN 4) (gsC (gN 5) gsN))))
      (tFor (tiv K mg false m12 WF (evA gR1 (eCons (eV 5) eNil))) (tgt K mg false m12 (m12.set 6 false) [6] (gN 6)) (tOne K)) D σ H := by
  have he : evA gEn (eCons (eSl (eV 3) pNo (pYes (eV 1))) eNil) (enB h (.int ee) (.tuple (row.map PyData.int))) = .ok (enumD 0 ((row.take ee.toNat).map PyData.int)) (enB h (.int ee) (.tuple (row.map PyData.int))) := by
    show VS.R.ofO (gEn [.tuple (cutD (row.map PyData.int) none (some ee))]) _ = _
    rw [cut_take he0, ← List.map_take]
    rfl
  refine PP.loop (fun j => rowPut rows ((row.take ee.toNat).take j) 0) (by simpa [rowPut] using p) m12f m12ss he (by decide) (fun d hd => ?_) (fun Hb j d σ2 H2 en2 D hj hd hg p2 kD => ?_) (fun σ3 H3 p3 => k σ3 H3 ?_)
  · obtain ⟨j, hj, ej⟩ := List.getElem_of_mem hd
    rw [enumD_len] at hj
    have := enumD_get 0 ((row.take ee.toNat).map PyData.int) j (List.getElem?_eq_getElem hj)
    rw [List.getElem?_eq_getElem (by rw [enumD_len]; exact hj), ej] at this
    cases this
    exact ⟨_, rfl⟩
  · rw [enumD_len, List.length_map] at hj
    have e1 : ((row.take ee.toNat).map PyData.int)[j]? = some (.int ((row.take ee.toNat)[j])) := by
      rw [List.getElem?_map, List.getElem?_eq_getElem hj]
      rfl
    rw [enumD_get 0 _ j e1, Nat.zero_add] at hd
    cases hd
    generalize hx : (row.take ee.toNat)[j] = x at *
    have eq2 : en2 = enC h (.int ee) (.tuple (row.map PyData.int)) (.int (j : Int)) (.int x) := (Option.some.inj hg).symm
    subst eq2
    have xin : inR x = true := by
      have hm : x ∈ row := List.mem_of_mem_take (by rw [← hx]; exact List.getElem_mem hj)
      exact List.all_eq_true.mp hin x hm
    have step := rowPut_snoc ((row.take ee.toNat).take j) rows 0 x
    have tk : (row.take ee.toNat).take (j + 1) = (row.take ee.toNat).take j ++ [x] := by rw [List.take_succ_eq_append_getElem hj, hx]
    have gj := rowPut_good ((row.take ee.toNat).take j) rows 0 n g
    have sum1 : (((row.take ee.toNat).take (j + 1)).map Int.toNat).sum ≤ (row.map Int.toNat).sum := Nat.le_trans (take_sum_le _ _) (take_sum_le _ _)
    rw [tk, List.map_append, List.sum_append] at sum1
    simp only [List.map_cons, List.map_nil, List.sum_cons, List.sum_nil] at sum1
    refine lev3 (p2.mask m12ss m12f) xin gj (by omega) fun σ H q => kD σ H ?_
    have jl : ((row.take ee.toNat).take j).length = j := by rw [List.length_take]; omega
    rw [tk, step, jl, Nat.zero_add]
    refine q.forget m12f rfl fun i z hz => ?_
    have hi12 : i < 12 := (List.getElem?_eq_some_iff.mp hz).1
    have : i = 0 ∨ i = 1 ∨ i = 2 ∨ i = 3 ∨ i = 4 ∨ i = 5 ∨ i = 6 ∨ i = 7 ∨ i = 8 ∨ i = 9 ∨ i = 10 ∨ i = 11 := by omega
    rcases this with rfl | rfl | rfl | rfl | rfl | rfl | rfl | rfl | rfl | rfl | rfl | rfl <;> first | exact hz | (exact absurd hz (fun z => nomatch z))
  · rw [enumD_len, List.length_map, List.take_length] at p3
    exact p3
end
def lensV (rows : List (List Int)) : List V := rows.map fun r => V.int (r.length : Int)
/-- the whole def's body -/
theorem t_all {K : PySem.W.Frag} {mg : Str → Option Value} {Hc H : Hp} {Q : VK} {E : XK} {vs : List V} {ds : List PyData} (s : Same Hc H) (p : RpAll K mg Hc vs ds) (h : Post K mg false none Hc H (shF ds) Q E) (N : List Str) (hN : N.length = 12) :
    tAll K mg { nx := fun _ H' => Q .non H', rt := Q } (L2.start N vs) H := by
  have go : ∃ hs hh e, ds = [.tuple hs, .int e] ∧ rows? hs = some hh ∧ (0 ≤ e ∧ (hh.all fun r => r.all inR) = true ∧ tot hh < 100000) := by
    unfold shF at h
    split at h
    · rename_i hs e
      cases e1 : rows? hs with
      | none => rw [e1] at h; exact h.elim
      | some hh =>
        rw [e1] at h
        simp only at h
        split at h
        · rename_i c
          exact ⟨hs, hh, e, rfl, e1, c⟩
        · exact h.elim
    · exact h.elim
  obtain ⟨hs, hh, e, rfl, er, he0, hin, htot⟩ := go
  have h' : Post K mg false none Hc H (.ok (.list ((shp hh e.toNat).map fun r => .int (r.length : Int))) .none) Q E := by
    unfold shF at h
    simp only [er] at h
    rw [if_pos ⟨he0, hin, htot⟩] at h
    exact h
  have hl := p.length
  have r0 : Rl K mg false m12 ⟨Hc, H, none⟩ Hc (en0 12 [.tuple hs, .int e]) (L2.start N vs) H := by
    have := rl_start (K := K) (mg := mg) (b := false) (N := 12) (io := none) s (by rw [if_neg Bool.false_ne_true]; exact ⟨rfl, p⟩) hl
    unfold L2.start
    rw [hN]
    exact this
  have ls : (L2.start N vs).length = 12 := by rw [← r0.len]; rfl
  -- rows = []
  refine ⟨Nat.zero_le _, fun R nR => ?_⟩
  have pv0 : Prv ⟨Hc, H, none⟩ Hc [R] := fun a ha => by
    rw [List.mem_singleton.mp ha]
    exact ⟨s.free nR, nR⟩
  have pp0 : PP K mg ⟨Hc, H, none⟩ R m12 (en0 12 [.tuple hs, .int e]) [] Hc ((L2.start N vs).set 2 (some (.ref R))) (upd H R (.lst [])) := by
    refine ⟨Hc, [], jump (C := [R]) m12f r0 pv0 (fun a o ha e => ?_) (by rw [List.length_set, ls]; rfl) (fun i d e => ⟨e, ?_⟩), Same.refl _, ⟨upd_same, by simp, rfl, fun j q r h1 => by simp at h1⟩, set_at (by rw [ls]; decide), pv0⟩
    · rw [upd_ne (fun z => ha (by rw [z]; exact List.mem_cons_self))]
      exact e
    · refine set_off fun z => ?_
      subst z
      cases e
  have hseq := rows_eq er
  subst hseq
  have pp1 : PP K mg ⟨Hc, H, none⟩ R m12 (enA (.tuple (hh.map fun r => PyData.tuple (r.map PyData.int))) (.int e)) (shp (hh.take 0) e.toNat) Hc ((L2.start N vs).set 2 (some (.ref R))) (upd H R (.lst [])) := pp0
  refine PP.loop (en := enA (.tuple (hh.map fun r => PyData.tuple (r.map PyData.int))) (.int e)) (fun i => shp (hh.take i) e.toNat) pp1 m12f (m12s 3) rfl (by decide) (fun d _ => ⟨_, rfl⟩) (fun Hb i d σ2 H2 en2 D hi hd hg p2 kD => ?_) (fun σ3 H3 p3 => ?_)
  · rw [List.length_map] at hi
    have hd' : d = .tuple (hh[i].map PyData.int) := by
      rw [List.getElem?_map, List.getElem?_eq_getElem hi] at hd
      exact (Option.some.inj hd).symm
    subst hd'
    have eq2 : en2 = enB (.tuple (hh.map fun r => PyData.tuple (r.map PyData.int))) (.int e) (.tuple (hh[i].map PyData.int)) := (Option.some.inj hg).symm
    subst eq2
    have hgood : ∃ k, k + (hh[i].map Int.toNat).sum ≤ tot hh ∧ good (shp (hh.take i) e.toNat) k := by
      obtain ⟨k, h1, h2⟩ := fold_good (hh.take i) e.toNat [] 0 ⟨rfl, fun r hr => by simp at hr⟩
      rw [Nat.zero_add] at h2
      have h3 := tot_take hh (i + 1)
      rw [List.take_succ_eq_append_getElem hi] at h3
      unfold tot at h3 h1 ⊢
      rw [List.map_append, List.sum_append] at h3
      simp only [List.map_cons, List.map_nil, List.sum_cons, List.sum_nil] at h3
      exact ⟨k, by omega, h2⟩
    obtain ⟨k, hk, gk⟩ := hgood
    refine lev2 he0 (p2.mask (m12s 3) m12f) (List.all_eq_true.mp hin _ (List.getElem_mem hi)) gk (by omega) fun σ H q => kD σ H ?_
    have step : shp (hh.take (i + 1)) e.toNat = rowPut (shp (hh.take i) e.toNat) (hh[i].take e.toNat) 0 := by
      unfold shp
      rw [List.take_succ_eq_append_getElem hi, List.foldl_append]
      rfl
    rw [step]
    refine q.forget m12f rfl fun i z hz => ?_
    have hi12 : i < 12 := (List.getElem?_eq_some_iff.mp hz).1
    have : i = 0 ∨ i = 1 ∨ i = 2 ∨ i = 3 ∨ i = 4 ∨ i = 5 ∨ i = 6 ∨ i = 7 ∨ i = 8 ∨ i = 9 ∨ i = 10 ∨ i = 11 := by omega
    rcases this with rfl | rfl | rfl | rfl | rfl | rfl | rfl | rfl | rfl | rfl | rfl | rfl <;> first | exact hz | (exact absurd hz (fun z => nomatch z))
  · -- return
    rw [List.length_map, List.take_length] at p3
    obtain ⟨Hs, qs, r, s1, n, h2, pv⟩ := p3
    refine ⟨.ref R, h2, R, rfl, ⟨_, .of n.top⟩, fun L nL => ?_⟩
    have cap : (shp hh e.toNat).length < 100000 := by
      obtain ⟨k, h1, h2⟩ := fold_good hh e.toNat [] 0 ⟨rfl, fun r hr => by simp at hr⟩
      exact (good_cap h2 (by omega)).1
    have hl3 : σ3.length = 12 := by rw [← r.len]; rfl
    have nR' : R ≠ L := ne_of_none n.top nL
    refine ⟨fun i m H4 => m = qs.length - i ∧ i ≤ qs.length ∧ H4 = upd H3 L (.lst (lensV ((shp hh e.toNat).take i))), ⟨qs.length, by simp, Nat.zero_le _, by simp [lensV]⟩, ?_⟩
    rintro i m H4 ⟨rfl, hle, rfl⟩
    have topA : SqL K (upd H3 L (.lst (lensV ((shp hh e.toNat).take i)))) R (qs.map V.ref) := .of (by rw [upd_ne nR']; exact n.top)
    by_cases hi : i < qs.length
    · have gi : (qs.map V.ref)[i]? = some (.ref qs[i]) := by simp [hi]
      have hic : i < (shp hh e.toNat).length := by rw [← n.len]; exact hi
      refine .inr ⟨⟨_, _, topA, gi⟩, fun H5 => H5 = upd H3 L (.lst (lensV ((shp hh e.toNat).take (i + 1)))), fun H' q => ⟨qs.length - (i + 1), by omega, rfl, hi, q⟩, fun v H5 hy => ?_⟩
      obtain ⟨rfl, f1⟩ := hy
      have ev : v = .ref qs[i] := Option.some.inj ((f1 _ topA).symm.trans gi)
      subst ev
      have hq := n.row i qs[i] (shp hh e.toNat)[i] (by simp [hi]) (by simp [hic])
      have nq : qs[i] ≠ L := ne_of_none hq nL
      refine ⟨?_, ?_⟩
      · refine wipe_eq (by rw [List.length_set, wipe_length]) fun k hk => ?_
        have k8 : 8 ≠ k := fun z => hk (by rw [← z]; decide)
        rw [set_off k8]
        exact (wipeS_at σ3 k [8]).2 hk
      · unfold tYes
        refine (if_pos rfl).mpr ?_
        refine ⟨.ref qs[i], set_at (by rw [wipe_length, hl3]; decide), qs[i], (shp hh e.toNat)[i].map V.int, rfl, .inl (.of (by rw [upd_ne nq]; exact hq)), ?_⟩
        refine ⟨lensV ((shp hh e.toNat).take i), upd_same, ?_, ?_⟩
        · unfold lensV
          rw [List.length_map, List.length_take]
          exact Nat.lt_of_le_of_lt (Nat.min_le_right _ _) (Nat.lt_of_lt_of_le cap (by decide))
        · funext a
          by_cases ha : a = L
          · subst ha
            rw [upd_same, upd_same, List.take_succ_eq_append_getElem hic]
            unfold lensV
            rw [List.map_append]
            simp only [List.map_cons, List.map_nil, List.length_map]
          · rw [upd_ne ha, upd_ne ha, upd_ne ha]
    · have ei : i = qs.length := by omega
      subst ei
      refine .inl ⟨⟨_, topA, by simp⟩, ?_⟩
      rw [n.len, List.take_length]
      obtain ⟨r4, s4⟩ := r.alloc (o := .lst (lensV (shp hh e.toNat))) nL
      have af := r4.fo.aft fun _ => rfl
      refine h' (.ref L) _ _ ⟨af.sub, af.base, af.ext, af.keep, fun _ z => nomatch z⟩ ?_
      unfold Ret
      rw [if_neg Bool.false_ne_true]
      refine .lst upd_same ?_
      have : lensV (shp hh e.toNat) = ((shp hh e.toNat).map fun r => (r.length : Int)).map V.int := by
        unfold lensV
        rw [List.map_map]
        rfl
      rw [this, show ((shp hh e.toNat).map fun r => PyData.int (r.length : Int)) = ((shp hh e.toNat).map fun r => (r.length : Int)).map PyData.int by rw [List.map_map]; rfl]
      exact rpAll_of_ints _
end Shp
end VS

/-! M1 -/
namespace VS
namespace Shp
/-! ### one number into one row -/
def insL : List Int → Int → List Int × Option Int
  | [], x => ([x], none)
  | y :: r, x => if x < y then (x :: r, some y) else (y :: (insL r x).1, (insL r x).2)
theorem spots_cons0 (y : Int) (r : List Int) (x : Int) : spotsN (y :: r) x = (if x < y then [0] else []) ++ (spotsN r x).map (· + 1) := by
  unfold spotsN
  rw [List.length_cons, List.range_succ_eq_map, List.filter_cons]
  have e : ((List.range r.length).map Nat.succ).filter (fun k => decide (x < (y :: r).getD k 0)) = ((List.range r.length).filter fun k => decide (x < r.getD k 0)).map (· + 1) := by
    rw [List.filter_map]
    congr 1
  rw [e]
  by_cases h : x < y
  · simp [h]
  · simp [h]
theorem ins1_insL : ∀ (r : List Int) (x : Int), ins1 r x = insL r x
  | [], x => by simp [ins1, spotsN, insL]
  | y :: r, x => by
    have ih := ins1_insL r x
    unfold ins1 at ih ⊢
    rw [spots_cons0]
    unfold insL
    by_cases h : x < y
    · rw [if_pos h, if_pos h]
      simp
    · rw [if_neg h, if_neg h, ← ih]
      cases e : spotsN r x with
      | nil => simp
      | cons j t => simp
def Srt (l : List Int) : Prop := l.Pairwise (· ≤ ·)
def cnt (l : List Int) (d : Int) : Nat := l.countP fun z => decide (z < d)
theorem cnt_nil (d : Int) : cnt [] d = 0 := rfl
theorem cnt_cons (y : Int) (l : List Int) (d : Int) : cnt (y :: l) d = cnt l d + (if y < d then 1 else 0) := by
  unfold cnt
  rw [List.countP_cons]
  by_cases h : y < d <;> simp [h]
theorem cnt_app (l k : List Int) (d : Int) : cnt (l ++ k) d = cnt l d + cnt k d := by
  unfold cnt
  rw [List.countP_append]
theorem cnt_mono {l : List Int} {d e : Int} (h : d ≤ e) : cnt l d ≤ cnt l e := by
  induction l with
  | nil => exact Nat.le_refl _
  | cons y l ih =>
    rw [cnt_cons, cnt_cons]
    by_cases h1 : y < d
    · rw [if_pos h1, if_pos (by omega)]
      omega
    · rw [if_neg h1]
      omega
theorem cnt_le_all {l : List Int} {d : Int} (h : ∀ z ∈ l, z < d) : cnt l d = l.length := by
  induction l with
  | nil => rfl
  | cons y l ih =>
    rw [cnt_cons, if_pos (h y List.mem_cons_self), ih fun z hz => h z (List.mem_cons_of_mem _ hz), List.length_cons]
theorem cnt_zero {l : List Int} {d : Int} (h : ∀ z ∈ l, d ≤ z) : cnt l d = 0 := by
  induction l with
  | nil => rfl
  | cons y l ih =>
    rw [cnt_cons, if_neg (by have := h y List.mem_cons_self; omega), ih fun z hz => h z (List.mem_cons_of_mem _ hz)]
theorem ins_mem : ∀ {r : List Int} {x z : Int}, z ∈ (insL r x).1 → z = x ∨ z ∈ r
  | [], x, z, h => by simp [insL] at h; exact .inl h
  | y :: r, x, z, h => by
    unfold insL at h
    by_cases c : x < y
    · rw [if_pos c] at h
      rcases List.mem_cons.mp h with h | h
      · exact .inl h
      · exact .inr (List.mem_cons_of_mem _ h)
    · rw [if_neg c] at h
      rcases List.mem_cons.mp h with h | h
      · exact .inr (by rw [h]; exact List.mem_cons_self)
      · rcases ins_mem h with h | h
        · exact .inl h
        · exact .inr (List.mem_cons_of_mem _ h)
theorem ins_srt : ∀ {r : List Int} {x : Int}, Srt r → Srt (insL r x).1
  | [], x, _ => by simp [insL, Srt]
  | y :: r, x, h => by
    obtain ⟨h1, h2⟩ := List.pairwise_cons.mp h
    unfold insL
    by_cases c : x < y
    · rw [if_pos c]
      exact List.pairwise_cons.mpr ⟨fun z hz => by have := h1 z hz; omega, h2⟩
    · rw [if_neg c]
      refine List.pairwise_cons.mpr ⟨fun z hz => ?_, ins_srt h2⟩
      rcases ins_mem hz with e | e
      · omega
      · exact h1 z e
def cntO : Option Int → Int → Nat
  | none, _ => 0
  | some y, d => if y < d then 1 else 0
theorem ins_keep : ∀ (r : List Int) (x d : Int), cnt (insL r x).1 d + cntO (insL r x).2 d = cnt r d + (if x < d then 1 else 0)
  | [], x, d => by simp [insL, cnt_cons, cnt_nil, cntO]
  | y :: r, x, d => by
    unfold insL
    by_cases c : x < y
    · rw [if_pos c]
      simp only [cnt_cons, cntO]
      omega
    · rw [if_neg c]
      have ih := ins_keep r x d
      simp only [cnt_cons]
      omega
theorem ins_out : ∀ {r : List Int} {x y : Int}, Srt r → (insL r x).2 = some y → x < y ∧ y ∈ r ∧ ∀ z ∈ r, x < z → y ≤ z
  | [], x, y, _, h => by simp [insL] at h
  | a :: r, x, y, h, e => by
    obtain ⟨h1, h2⟩ := List.pairwise_cons.mp h
    unfold insL at e
    by_cases c : x < a
    · rw [if_pos c] at e
      cases e
      refine ⟨c, List.mem_cons_self, fun z hz _ => ?_⟩
      rcases List.mem_cons.mp hz with rfl | hz
      · exact Int.le_refl _
      · exact h1 z hz
    · rw [if_neg c] at e
      obtain ⟨q1, q2, q3⟩ := ins_out h2 e
      refine ⟨q1, List.mem_cons_of_mem _ q2, fun z hz hx => ?_⟩
      rcases List.mem_cons.mp hz with rfl | hz
      · omega
      · exact q3 z hz hx
theorem ins_none : ∀ {r : List Int} {x : Int}, (insL r x).2 = none → ∀ z ∈ r, z ≤ x
  | [], x, _, z, hz => by simp at hz
  | a :: r, x, e, z, hz => by
    unfold insL at e
    by_cases c : x < a
    · rw [if_pos c] at e; cases e
    · rw [if_neg c] at e
      rcases List.mem_cons.mp hz with rfl | hz
      · omega
      · exact ins_none e z hz
theorem ins_low {r : List Int} {x d : Int} (h : Srt r) (hd : d ≤ x) : cnt (insL r x).1 d = cnt r d := by
  have k := ins_keep r x d
  rw [if_neg (by omega)] at k
  have : cntO (insL r x).2 d = 0 := by
    cases e : (insL r x).2 with
    | none => rfl
    | some y =>
      obtain ⟨q1, _⟩ := ins_out h e
      show (if y < d then 1 else 0) = 0
      rw [if_neg (by omega)]
  omega
theorem ins_high {r : List Int} {x d : Int} (h : Srt r) (hd : x < d) : cnt (insL r x).1 d = max (cnt r (x + 1) + 1) (cnt r d) := by
  have k := ins_keep r x d
  rw [if_pos hd] at k
  have mono : cnt r (x + 1) ≤ cnt r d := cnt_mono (by omega)
  cases e : (insL r x).2 with
  | none =>
    rw [e] at k
    have all := ins_none e
    have e1 : cnt r (x + 1) = r.length := cnt_le_all fun z hz => by have := all z hz; omega
    have e2 : cnt r d = r.length := cnt_le_all fun z hz => by have := all z hz; omega
    simp only [cntO] at k
    omega
  | some y =>
    rw [e] at k
    obtain ⟨q1, q2, q3⟩ := ins_out h e
    have k2 : cntO (some y) d = if y < d then 1 else 0 := rfl
    rw [k2] at k
    by_cases c : y < d
    · rw [if_pos c] at k
      have : cnt r (x + 1) + 1 ≤ cnt r d := by
        have e1 : cnt r (x + 1) = cnt r y := by
          have le : cnt r (x + 1) ≤ cnt r y := cnt_mono (by omega)
          have ge : cnt r y ≤ cnt r (x + 1) := by
            unfold cnt
            refine List.countP_mono_left fun z hz hzy => ?_
            simp only [decide_eq_true_eq] at hzy ⊢
            by_cases hxz : x < z
            · have := q3 z hz hxz
              omega
            · omega
          omega
        have e2 : cnt r y + 1 ≤ cnt r d := by
          have := cnt_lt_of_mem (r := r) q2 c
          exact this
        omega
      omega
    · rw [if_neg c] at k
      have : cnt r d = cnt r (x + 1) := by
        refine Nat.le_antisymm ?_ mono
        unfold cnt
        refine List.countP_mono_left fun z hz hzd => ?_
        simp only [decide_eq_true_eq] at hzd ⊢
        by_cases hxz : x < z
        · have := q3 z hz hxz
          omega
        · omega
      omega
where
  cnt_lt_of_mem {r : List Int} {y d : Int} (h : y ∈ r) (hd : y < d) : cnt r y + 1 ≤ cnt r d := by
    induction r with
    | nil => simp at h
    | cons a r ih =>
      rw [cnt_cons, cnt_cons]
      rcases List.mem_cons.mp h with rfl | h
      · rw [if_neg (by omega), if_pos hd]
        have := cnt_mono (l := r) (show y ≤ d by omega)
        omega
      · have := ih h
        by_cases c : a < y
        · rw [if_pos c, if_pos (by omega)]
          omega
        · rw [if_neg c]
          omega
/-! ### a rising sequence into one row -/
def feed : List Int → List Int → List Int × List Int
  | r, [] => (r, [])
  | r, x :: xs => ((feed (insL r x).1 xs).1, (insL r x).2.toList ++ (feed (insL r x).1 xs).2)
theorem feed_app : ∀ (r xs ys : List Int), feed r (xs ++ ys) = ((feed (feed r xs).1 ys).1, (feed r xs).2 ++ (feed (feed r xs).1 ys).2)
  | r, [], ys => by simp [feed]
  | r, x :: xs, ys => by
    rw [List.cons_append, feed, feed, feed_app]
    simp
theorem feed_srt : ∀ {r : List Int} (xs : List Int), Srt r → Srt (feed r xs).1
  | r, [], h => h
  | r, x :: xs, h => feed_srt xs (ins_srt h)
theorem feed_keep : ∀ (r xs : List Int) (d : Int), cnt (feed r xs).1 d + cnt (feed r xs).2 d = cnt r d + cnt xs d
  | r, [], d => rfl
  | r, x :: xs, d => by
    have h1 := feed_keep (insL r x).1 xs d
    have h2 := ins_keep r x d
    rw [feed]
    simp only [cnt_app, cnt_cons]
    have h3 : cnt (insL r x).2.toList d = cntO (insL r x).2 d := by
      cases (insL r x).2 with
      | none => rfl
      | some y => simp [cnt_cons, cnt_nil, cntO]
    rw [h3]
    omega
theorem feed_out : ∀ {xs r : List Int} {x0 l : Int}, Srt xs → Srt r → (∀ x ∈ xs, x0 ≤ x) → (∀ z ∈ r, x0 < z → l ≤ z) → Srt (feed r xs).2 ∧ ∀ y ∈ (feed r xs).2, l ≤ y ∧ x0 < y
  | [], r, x0, l, _, _, _, _ => ⟨List.Pairwise.nil, fun y hy => by simp [feed] at hy⟩
  | x :: xs, r, x0, l, hx, hr, h0, hl => by
    obtain ⟨hx1, hx2⟩ := List.pairwise_cons.mp hx
    have hx0 := h0 x List.mem_cons_self
    rw [feed]
    cases e : (insL r x).2 with
    | none =>
      have all := ins_none e
      have hl' : ∀ z ∈ (insL r x).1, x < z → l ≤ z := by
        intro z hz hxz
        rcases ins_mem hz with q | q
        · omega
        · have := all z q
          omega
      obtain ⟨s1, s2⟩ := feed_out (x0 := x) (l := l) hx2 (ins_srt hr) hx1 hl'
      refine ⟨by simpa using s1, fun y hy => ?_⟩
      have := s2 y (by simpa using hy)
      exact ⟨this.1, by omega⟩
    | some y =>
      obtain ⟨q1, q2, q3⟩ := ins_out hr e
      have hly := hl y q2 (by omega)
      have hl' : ∀ z ∈ (insL r x).1, x < z → y ≤ z := by
        intro z hz hxz
        rcases ins_mem hz with q | q
        · omega
        · exact q3 z q hxz
      obtain ⟨s1, s2⟩ := feed_out (x0 := x) (l := y) hx2 (ins_srt hr) hx1 hl'
      refine ⟨?_, fun z hz => ?_⟩
      · show Srt ([y] ++ _)
        rw [List.singleton_append]
        exact List.pairwise_cons.mpr ⟨fun z hz => (s2 z hz).1, s1⟩
      · rcases List.mem_cons.mp (show z ∈ y :: _ from hz) with rfl | hz
        · exact ⟨hly, by omega⟩
        · have := s2 z hz
          exact ⟨by omega, by omega⟩
end Shp
end VS

/-! M2 -/
namespace VS
namespace Shp
theorem rep_feed : ∀ (a : Nat) (r : List Int) (c : Int), Srt r → (∀ d, d ≤ c → cnt (feed r (List.replicate a c)).1 d = cnt r d) ∧ ∀ d, c < d → cnt (feed r (List.replicate a c)).1 d = max (cnt r (c + 1) + a) (cnt r d)
  | 0, r, c, h => ⟨fun d _ => rfl, fun d hd => by
    have : cnt r (c + 1) ≤ cnt r d := cnt_mono (by omega)
    show cnt r d = _
    omega⟩
  | a + 1, r, c, h => by
    obtain ⟨h1, h2⟩ := rep_feed a (insL r c).1 c (ins_srt h)
    rw [List.replicate_succ]
    refine ⟨fun d hd => ?_, fun d hd => ?_⟩
    · show cnt (feed (insL r c).1 (List.replicate a c)).1 d = _
      rw [h1 d hd]
      exact ins_low h hd
    · show cnt (feed (insL r c).1 (List.replicate a c)).1 d = _
      rw [h2 d hd, ins_high h (by omega : c < c + 1), ins_high h hd]
      have : cnt r (c + 1) ≤ cnt r d := cnt_mono (by omega)
      omega
theorem feed_low : ∀ (xs r : List Int) (d : Int), Srt r → (∀ x ∈ xs, d ≤ x) → cnt (feed r xs).1 d = cnt r d
  | [], r, d, _, _ => rfl
  | x :: xs, r, d, h, hx => by
    show cnt (feed (insL r x).1 xs).1 d = _
    rw [feed_low xs _ d (ins_srt h) fun z hz => hx z (List.mem_cons_of_mem _ hz)]
    exact ins_low h (hx x List.mem_cons_self)
def below (xs : List Int) (c : Int) : List Int := xs.filter fun x => decide (x < c)
theorem below_all {xs : List Int} {c : Int} (h : ∀ x ∈ xs, c ≤ x) : below xs c = [] := by
  unfold below
  rw [List.filter_eq_nil_iff]
  intro x hx
  have := h x hx
  simp
  omega
theorem below_split {xs : List Int} (h : Srt xs) (c : Int) : ∃ ys, xs = below xs c ++ ys ∧ ∀ y ∈ ys, c ≤ y := by
  induction xs with
  | nil => exact ⟨[], rfl, fun y hy => by simp at hy⟩
  | cons x xs ih =>
    obtain ⟨h1, h2⟩ := List.pairwise_cons.mp h
    by_cases hc : x < c
    · obtain ⟨ys, e1, e2⟩ := ih h2
      refine ⟨ys, ?_, e2⟩
      unfold below at e1 ⊢
      rw [List.filter_cons, if_pos (by simpa using hc), List.cons_append, ← e1]
    · have ge : ∀ z ∈ x :: xs, c ≤ z := fun z hz => by
        rcases List.mem_cons.mp hz with rfl | hz
        · omega
        · have := h1 z hz
          omega
      exact ⟨x :: xs, by rw [below_all ge]; rfl, ge⟩
theorem below_succ {xs : List Int} (h : Srt xs) (c : Int) : below xs (c + 1) = below xs c ++ List.replicate (cnt xs (c + 1) - cnt xs c) c := by
  induction xs with
  | nil => rfl
  | cons x xs ih =>
    obtain ⟨h1, h2⟩ := List.pairwise_cons.mp h
    have ih := ih h2
    by_cases hc : x < c
    · have e1 : below (x :: xs) (c + 1) = x :: below xs (c + 1) := by
        unfold below
        rw [List.filter_cons, if_pos (by simp; omega)]
      have e2 : below (x :: xs) c = x :: below xs c := by
        unfold below
        rw [List.filter_cons, if_pos (by simpa using hc)]
      rw [e1, e2, ih, cnt_cons, cnt_cons, if_pos (by omega), if_pos hc, Nat.add_sub_add_right]
      rfl
    · have ge : ∀ z ∈ x :: xs, c ≤ z := fun z hz => by
        rcases List.mem_cons.mp hz with rfl | hz
        · omega
        · have := h1 z hz
          omega
      have gex : ∀ z ∈ xs, c ≤ z := fun z hz => ge z (List.mem_cons_of_mem _ hz)
      rw [below_all gex] at ih
      rw [below_all ge, cnt_cons, cnt_cons, if_neg hc]
      have z0 : cnt xs c = 0 := cnt_zero gex
      rw [z0] at ih ⊢
      by_cases he : x < c + 1
      · have ex : x = c := by omega
        subst ex
        have e1 : below (x :: xs) (x + 1) = x :: below xs (x + 1) := by
          unfold below
          rw [List.filter_cons, if_pos (decide_eq_true he)]
        rw [e1, ih, if_pos he]
        simp [List.replicate_succ]
      · have e1 : below (x :: xs) (c + 1) = below xs (c + 1) := by
          unfold below
          rw [List.filter_cons, if_neg (by simpa using he)]
        rw [e1, ih, if_neg he]
        simp
/-- the rule of one row -/
theorem feed_rule {xs r : List Int} (hx : Srt xs) (hr : Srt r) (px : ∀ x ∈ xs, 0 ≤ x) (pr : ∀ x ∈ r, 0 ≤ x) (n : Nat) :
    cnt (feed r xs).1 ((n : Int) + 1) = max (cnt (feed r xs).1 (n : Int)) (cnt r ((n : Int) + 1)) + (cnt xs ((n : Int) + 1) - cnt xs (n : Int)) := by
  have Q : ∀ m : Nat, ∀ d : Int, (m : Int) ≤ d → cnt (feed r (below xs m)).1 d = max (cnt (feed r (below xs m)).1 m) (cnt r d) := by
    intro m
    induction m with
    | zero =>
      intro d hd
      rw [below_all (c := ((0 : Nat) : Int)) fun x hx => by simpa using px x hx]
      show cnt r d = max (cnt r _) (cnt r d)
      have : cnt r ((0 : Nat) : Int) = 0 := cnt_zero fun z hz => by simpa using pr z hz
      omega
    | succ m ih =>
      intro d hd
      have e := below_succ hx (m : Int)
      have cst : ((m + 1 : Nat) : Int) = (m : Int) + 1 := by omega
      rw [cst] at hd ⊢
      rw [e, feed_app]
      obtain ⟨_, h2⟩ := rep_feed (cnt xs ((m : Int) + 1) - cnt xs (m : Int)) (feed r (below xs m)).1 (m : Int) (feed_srt _ hr)
      show cnt (feed (feed r (below xs m)).1 (List.replicate _ _)).1 d = max (cnt (feed (feed r (below xs m)).1 (List.replicate _ _)).1 _) _
      rw [h2 d (by omega), h2 ((m : Int) + 1) (by omega)]
      have i1 := ih d (by omega)
      have i2 := ih ((m : Int) + 1) (by omega)
      omega
  have B : ∀ m : Nat, cnt (feed r xs).1 m = cnt (feed r (below xs m)).1 m := by
    intro m
    obtain ⟨ys, e1, e2⟩ := below_split hx (m : Int)
    have : (feed r xs).1 = (feed (feed r (below xs m)).1 ys).1 := by
      conv => lhs; rw [e1, feed_app]
    rw [this]
    exact feed_low ys _ _ (feed_srt _ hr) e2
  have b1 := B (n + 1)
  have cst : ((n + 1 : Nat) : Int) = (n : Int) + 1 := by omega
  rw [cst] at b1
  rw [b1, below_succ hx, feed_app]
  obtain ⟨_, h2⟩ := rep_feed (cnt xs ((n : Int) + 1) - cnt xs (n : Int)) (feed r (below xs n)).1 (n : Int) (feed_srt _ hr)
  show cnt (feed (feed r (below xs n)).1 (List.replicate _ _)).1 _ = _
  rw [h2 ((n : Int) + 1) (by omega), B n]
  have i2 := Q n ((n : Int) + 1) (by omega)
  omega
theorem out_rule {xs r : List Int} (hx : Srt xs) (hr : Srt r) (px : ∀ x ∈ xs, 0 ≤ x) (pr : ∀ x ∈ r, 0 ≤ x) (n : Nat) :
    cnt (feed r xs).2 ((n : Int) + 1) - cnt (feed r xs).2 (n : Int) = min (cnt r ((n : Int) + 1)) (cnt (feed r xs).1 (n : Int)) - cnt r (n : Int) := by
  have k1 := feed_keep r xs (n : Int)
  have k2 := feed_keep r xs ((n : Int) + 1)
  have rl := feed_rule hx hr px pr n
  have m1 : cnt xs (n : Int) ≤ cnt xs ((n : Int) + 1) := cnt_mono (by omega)
  omega
/-! ### all rows -/
def inc (R : Nat → List Int) (v : List Int) : Nat → List Int
  | 0 => v
  | i + 1 => (feed (R i) (inc R v i)).2
def newR (R : Nat → List Int) (v : List Int) (i : Nat) : List Int := (feed (R i) (inc R v i)).1
def asF (rows : List (List Int)) (i : Nat) : List Int := rows.getD i []
theorem inc_nil (R : Nat → List Int) : ∀ i, inc R [] i = []
  | 0 => rfl
  | i + 1 => by rw [inc, inc_nil R i]; rfl
theorem newR_nil (R : Nat → List Int) (i : Nat) : newR R [] i = R i := by
  unfold newR
  rw [inc_nil]
  rfl
theorem inc_app (R : Nat → List Int) (u v : List Int) : ∀ i, inc R (u ++ v) i = inc R u i ++ inc (newR R u) v i
  | 0 => rfl
  | i + 1 => by
    rw [inc, inc_app R u v i, feed_app]
    rfl
theorem newR_app (R : Nat → List Int) (u v : List Int) (i : Nat) : newR R (u ++ v) i = newR (newR R u) v i := by
  unfold newR
  rw [inc_app, feed_app]
  rfl
theorem inc_shift (r : List Int) (rs : List (List Int)) (v : List Int) : ∀ i, inc (asF (r :: rs)) v (i + 1) = inc (asF rs) (feed r v).2 i
  | 0 => rfl
  | i + 1 => by
    rw [inc, inc_shift r rs v i]
    rfl
theorem asF_one : ∀ (rows : List (List Int)) (x : Int) (i : Nat), asF (insR rows x) i = newR (asF rows) [x] i
  | [], x, i => by
    have e : asF [] = fun _ => [] := by funext i; simp [asF]
    rw [e]
    cases i with
    | zero => rfl
    | succ i =>
      have : ∀ j, inc (fun _ => []) [x] (j + 1) = [] := fun j => by
        induction j with
        | zero => rfl
        | succ j ih => rw [inc, ih]; rfl
      unfold newR
      rw [this i]
      simp [asF, insR, feed]
  | r :: rs, x, i => by
    have e1 := ins1_insL r x
    cases eo : ins1 r x with
    | mk r' o =>
      rw [eo] at e1
      cases o with
      | none =>
        rw [insR_none eo]
        cases i with
        | zero =>
          show r' = (feed r [x]).1
          simp [feed, ← e1]
        | succ i =>
          unfold newR
          rw [inc_shift]
          have : (feed r [x]).2 = [] := by simp [feed, ← e1]
          rw [this, inc_nil]
          rfl
      | some y =>
        rw [insR_some eo]
        cases i with
        | zero =>
          show r' = (feed r [x]).1
          simp [feed, ← e1]
        | succ i =>
          have ih := asF_one rs y i
          unfold newR at ih ⊢
          rw [inc_shift]
          have : (feed r [x]).2 = [y] := by simp [feed, ← e1]
          rw [this]
          exact ih
theorem asF_fold : ∀ (xs : List Int) (rows : List (List Int)), asF (xs.foldl insR rows) = newR (asF rows) xs
  | [], rows => by funext i; rw [newR_nil]; rfl
  | x :: xs, rows => by
    rw [List.foldl_cons, asF_fold xs]
    have e : asF (insR rows x) = newR (asF rows) [x] := funext fun i => asF_one rows x i
    rw [e]
    funext i
    rw [← newR_app]
    rfl
/-! letters of a hall's row -/
def lett : List Int → Nat → List Int
  | [], _ => []
  | m :: ms, c => List.replicate m.toNat (c : Int) ++ lett ms (c + 1)
theorem puts_fold (rows : List (List Int)) (g : Int) : ∀ n, puts rows g n = (List.replicate n g).foldl insR rows
  | 0 => rfl
  | n + 1 => by
    rw [puts, puts_fold rows g n, List.replicate_succ', List.foldl_append]
    rfl
theorem rowPut_fold : ∀ (ms : List Int) (rows : List (List Int)) (c : Nat), rowPut rows ms c = (lett ms c).foldl insR rows
  | [], rows, c => rfl
  | m :: ms, rows, c => by rw [rowPut, rowPut_fold ms, lett, List.foldl_append, puts_fold]
theorem lett_ge : ∀ (ms : List Int) (c : Nat), ∀ x ∈ lett ms c, (c : Int) ≤ x
  | [], c, x, h => by simp [lett] at h
  | m :: ms, c, x, h => by
    rw [lett] at h
    rcases List.mem_append.mp h with h | h
    · rw [List.eq_of_mem_replicate h]
      exact Int.le_refl _
    · have := lett_ge ms (c + 1) x h
      omega
theorem lett_srt : ∀ (ms : List Int) (c : Nat), Srt (lett ms c)
  | [], c => List.Pairwise.nil
  | m :: ms, c => by
    rw [lett]
    refine List.pairwise_append.mpr ⟨List.pairwise_replicate.mpr (.inr (Int.le_refl _)), lett_srt ms (c + 1), fun a ha b hb => ?_⟩
    rw [List.eq_of_mem_replicate ha]
    have := lett_ge ms (c + 1) b hb
    omega
theorem cnt_rep (n : Nat) (c d : Int) : cnt (List.replicate n c) d = if c < d then n else 0 := by
  induction n with
  | zero => simp [cnt_nil]
  | succ n ih =>
    rw [List.replicate_succ, cnt_cons, ih]
    by_cases h : c < d
    · simp [h]
    · simp [h]
theorem lett_cnt : ∀ (ms : List Int) (c n : Nat), cnt (lett ms c) ((c + n : Nat) + 1 : Int) - cnt (lett ms c) ((c + n : Nat) : Int) = (ms.getD n 0).toNat
  | [], c, n => by simp [lett, cnt_nil]
  | m :: ms, c, 0 => by
    rw [lett, cnt_app, cnt_app, cnt_rep, cnt_rep]
    have z1 : cnt (lett ms (c + 1)) ((c + 0 : Nat) + 1 : Int) = 0 := cnt_zero fun z hz => by
      have := lett_ge ms (c + 1) z hz
      omega
    have z2 : cnt (lett ms (c + 1)) ((c + 0 : Nat) : Int) = 0 := cnt_zero fun z hz => by
      have := lett_ge ms (c + 1) z hz
      omega
    rw [z1, z2, if_pos (by omega), if_neg (by omega)]
    simp
  | m :: ms, c, n + 1 => by
    have ih := lett_cnt ms (c + 1) n
    rw [lett, cnt_app, cnt_app, cnt_rep, cnt_rep, if_pos (by omega), if_pos (by omega)]
    have e : ((c + 1 + n : Nat) : Int) = ((c + (n + 1) : Nat) : Int) := by omega
    rw [e] at ih
    rw [List.getD_cons_succ, ← ih]
    omega
end Shp
end VS

/-! M3 -/
namespace VS
namespace Shp
/-- the numbers that the program's own rule tells: first r counters, first d customers, row i -/
def more (a : Nat → Nat → Int) (X : Nat → Nat → Nat → Int) (r d : Nat) : Nat → Int
  | 0 => a r d
  | i + 1 => min (X r (d + 1) i) (X (r + 1) d i) - X r d i
structure Rule (a : Nat → Nat → Int) (X : Nat → Nat → Nat → Int) (e : Nat) : Prop where
  r0 : ∀ d i, X 0 d i = 0
  d0 : ∀ r i, X r 0 i = 0
  st : ∀ r d i, d < e → X (r + 1) (d + 1) i = max (X r (d + 1) i) (X (r + 1) d i) + more a X r d i
theorem rule_uniq {a b : Nat → Nat → Int} {X Y : Nat → Nat → Nat → Int} {e n : Nat} (h : Rule a X e) (k : Rule b Y e) (hab : ∀ r d, r < n → d < e → a r d = b r d) : ∀ r d i, r ≤ n → d ≤ e → X r d i = Y r d i := by
  intro r
  induction r with
  | zero => intro d i _ _; rw [h.r0, k.r0]
  | succ r ih =>
    intro d
    induction d with
    | zero => intro i _ _; rw [h.d0, k.d0]
    | succ d ihd =>
      intro i hr hd
      rw [h.st r d i (by omega), k.st r d i (by omega), ih (d + 1) i (by omega) hd, ihd i hr (by omega)]
      congr 1
      cases i with
      | zero => exact hab r d (by omega) (by omega)
      | succ i => simp only [more]; rw [ih (d + 1) i (by omega) hd, ihd i hr (by omega), ih d i (by omega) (by omega)]
/-! what the rows hold -/
def Rw (hh : List (List Int)) (e r : Nat) : Nat → List Int := asF (shp (hh.take r) e)
theorem shp_succ {hh : List (List Int)} {e r : Nat} (h : r < hh.length) : Rw hh e (r + 1) = newR (Rw hh e r) (lett (hh[r].take e) 0) := by
  unfold Rw
  have : shp (hh.take (r + 1)) e = rowPut (shp (hh.take r) e) (hh[r].take e) 0 := by
    unfold shp
    rw [List.take_succ_eq_append_getElem h, List.foldl_append]
    rfl
  rw [this, rowPut_fold, asF_fold]
theorem shp_past {hh : List (List Int)} {e r : Nat} (h : hh.length ≤ r) : Rw hh e (r + 1) = Rw hh e r := by
  unfold Rw
  rw [List.take_of_length_le h, List.take_of_length_le (by omega)]
def Ok (l : List Int) : Prop := Srt l ∧ ∀ x ∈ l, 0 ≤ x
theorem feed_ok {xs r : List Int} (hx : Ok xs) (hr : Ok r) : Ok (feed r xs).1 ∧ Ok (feed r xs).2 := by
  have o := feed_out (x0 := -1) (l := 0) hx.1 hr.1 (fun x h => by have := hx.2 x h; omega) (fun z h _ => hr.2 z h)
  refine ⟨⟨feed_srt xs hr.1, ?_⟩, ⟨o.1, fun y h => (o.2 y h).1⟩⟩
  have : ∀ (xs r : List Int), (∀ x ∈ xs, 0 ≤ x) → (∀ x ∈ r, 0 ≤ x) → ∀ z ∈ (feed r xs).1, 0 ≤ z := by
    intro xs
    induction xs with
    | nil => intro r _ h z hz; exact h z hz
    | cons x xs ih =>
      intro r h1 h2 z hz
      refine ih (insL r x).1 (fun z h => h1 z (List.mem_cons_of_mem _ h)) (fun z h => ?_) z hz
      rcases ins_mem h with e | e
      · rw [e]; exact h1 x List.mem_cons_self
      · exact h2 z e
  exact this xs r hx.2 hr.2
theorem inc_ok {R : Nat → List Int} {v : List Int} (hR : ∀ i, Ok (R i)) (hv : Ok v) : ∀ i, Ok (inc R v i)
  | 0 => hv
  | i + 1 => (feed_ok (inc_ok hR hv i) (hR i)).2
theorem lett_ok (ms : List Int) : Ok (lett ms 0) := ⟨lett_srt ms 0, fun x h => by have := lett_ge ms 0 x h; omega⟩
theorem Rw_ok (hh : List (List Int)) (e : Nat) : ∀ r i, Ok (Rw hh e r i) := by
  intro r
  induction r with
  | zero => intro i; unfold Rw asF shp; simp [Ok, Srt]
  | succ r ih =>
    intro i
    by_cases h : r < hh.length
    · rw [shp_succ h]
      exact (feed_ok (inc_ok ih (lett_ok _) i) (ih i)).1
    · rw [shp_past (by omega)]
      exact ih i
def XR (hh : List (List Int)) (e r d i : Nat) : Int := (cnt (Rw hh e r i) (d : Int) : Nat)
def aR (hh : List (List Int)) (e r d : Nat) : Int := (((hh.getD r []).take e).getD d 0).toNat
theorem XR_rule (hh : List (List Int)) (e e' : Nat) : Rule (aR hh e) (XR hh e) e' where
  r0 := fun d i => by unfold XR Rw asF shp; simp [cnt_nil]
  d0 := fun r i => by
    unfold XR
    have : cnt (Rw hh e r i) ((0 : Nat) : Int) = 0 := cnt_zero fun z hz => by
      have := (Rw_ok hh e r i).2 z hz
      simpa using this
    rw [this]
    rfl
  st := fun r d i _ => by
    have cst : ((d + 1 : Nat) : Int) = (d : Int) + 1 := by omega
    by_cases h : r < hh.length
    · have e1 := shp_succ (e := e) h
      have oks := Rw_ok hh e r
      have oi := inc_ok oks (lett_ok (hh[r].take e))
      have rl := feed_rule (oi i).1 (oks i).1 (oi i).2 (oks i).2 d
      have hX : XR hh e (r + 1) (d + 1) i = (cnt (feed (Rw hh e r i) (inc (Rw hh e r) (lett (hh[r].take e) 0) i)).1 ((d : Int) + 1) : Nat) := by
        unfold XR
        rw [e1, cst]
        rfl
      have hX2 : XR hh e (r + 1) d i = (cnt (feed (Rw hh e r i) (inc (Rw hh e r) (lett (hh[r].take e) 0) i)).1 (d : Int) : Nat) := by
        unfold XR
        rw [e1]
        rfl
      have hX3 : XR hh e r (d + 1) i = (cnt (Rw hh e r i) ((d : Int) + 1) : Nat) := by
        unfold XR
        rw [cst]
      have mo : more (aR hh e) (XR hh e) r d i = ((cnt (inc (Rw hh e r) (lett (hh[r].take e) 0) i) ((d : Int) + 1) - cnt (inc (Rw hh e r) (lett (hh[r].take e) 0) i) (d : Int) : Nat) : Int) := by
        cases i with
        | zero =>
          have lc := lett_cnt (hh[r].take e) 0 d
          simp only [Nat.zero_add] at lc
          show aR hh e r d = _
          have gd : hh.getD r [] = hh[r] := by
            rw [List.getD_eq_getElem?_getD, List.getElem?_eq_getElem h]
            rfl
          unfold aR
          rw [gd]
          show _ = ((cnt (lett (hh[r].take e) 0) _ - cnt (lett (hh[r].take e) 0) _ : Nat) : Int)
          rw [lc]
        | succ i =>
          have ol := out_rule (oi i).1 (oks i).1 (oi i).2 (oks i).2 d
          show min (XR hh e r (d + 1) i) (XR hh e (r + 1) d i) - XR hh e r d i = _
          have hX2 : XR hh e (r + 1) d i = (cnt (feed (Rw hh e r i) (inc (Rw hh e r) (lett (hh[r].take e) 0) i)).1 (d : Int) : Nat) := by
            unfold XR
            rw [e1]
            rfl
          have hX3 : XR hh e r (d + 1) i = (cnt (Rw hh e r i) ((d : Int) + 1) : Nat) := by
            unfold XR
            rw [cst]
          have hX4 : XR hh e r d i = (cnt (Rw hh e r i) (d : Int) : Nat) := rfl
          rw [hX2, hX3, hX4, show inc (Rw hh e r) (lett (hh[r].take e) 0) (i + 1) = (feed (Rw hh e r i) (inc (Rw hh e r) (lett (hh[r].take e) 0) i)).2 from rfl, ol]
          have m1 : cnt (Rw hh e r i) (d : Int) ≤ cnt (Rw hh e r i) ((d : Int) + 1) := cnt_mono (by omega)
          have m2 : cnt (Rw hh e r i) (d : Int) ≤ cnt (feed (Rw hh e r i) (inc (Rw hh e r) (lett (hh[r].take e) 0) i)).1 (d : Int) := by
            have mono : ∀ n : Nat, cnt (Rw hh e r i) (n : Int) ≤ cnt (feed (Rw hh e r i) (inc (Rw hh e r) (lett (hh[r].take e) 0) i)).1 (n : Int) := by
              intro n
              cases n with
              | zero =>
                rw [cnt_zero fun z hz => by have := (oks i).2 z hz; simpa using this]
                exact Nat.zero_le _
              | succ n =>
                have rl := feed_rule (oi i).1 (oks i).1 (oi i).2 (oks i).2 n
                have : ((n + 1 : Nat) : Int) = (n : Int) + 1 := by omega
                rw [this]
                omega
            exact mono d
          omega
      rw [hX, hX2, hX3, mo, rl]
      have m1 : cnt (inc (Rw hh e r) (lett (hh[r].take e) 0) i) (d : Int) ≤ cnt (inc (Rw hh e r) (lett (hh[r].take e) 0) i) ((d : Int) + 1) := cnt_mono (by omega)
      omega
    · have e1 := shp_past (e := e) (hh := hh) (r := r) (by omega)
      have a0 : aR hh e r d = 0 := by
        have gd : hh.getD r [] = [] := by
          rw [List.getD_eq_getElem?_getD, List.getElem?_eq_none (Nat.le_of_not_lt h)]
          rfl
        unfold aR
        rw [gd]
        simp
      have eX : ∀ d i, XR hh e (r + 1) d i = XR hh e r d i := fun d i => by unfold XR; rw [e1]
      have m1 : ∀ i, XR hh e r d i ≤ XR hh e r (d + 1) i := fun i => by
        unfold XR
        rw [cst]
        have : cnt (Rw hh e r i) (d : Int) ≤ cnt (Rw hh e r i) ((d : Int) + 1) := cnt_mono (by omega)
        omega
      rw [eX, eX]
      have := m1 i
      cases i with
      | zero => simp only [more, a0]; omega
      | succ i =>
        have := m1 i
        simp only [more, eX]
        omega
/-! letters stay below -/
theorem feed_lt {c : Int} : ∀ (xs r : List Int), (∀ x ∈ xs, x < c) → (∀ x ∈ r, x < c) → Srt r → (∀ z ∈ (feed r xs).1, z < c) ∧ ∀ z ∈ (feed r xs).2, z < c
  | [], r, _, h, _ => ⟨h, fun z hz => by simp [feed] at hz⟩
  | x :: xs, r, h1, h2, h3 => by
    obtain ⟨i1, i2⟩ := feed_lt xs (insL r x).1 (fun z h => h1 z (List.mem_cons_of_mem _ h)) (fun z h => by
      rcases ins_mem h with e | e
      · rw [e]; exact h1 x List.mem_cons_self
      · exact h2 z e) (ins_srt h3)
    refine ⟨i1, fun z hz => ?_⟩
    rcases List.mem_append.mp (show z ∈ (insL r x).2.toList ++ _ from hz) with hz | hz
    · cases e : (insL r x).2 with
      | none => rw [e] at hz; simp at hz
      | some y =>
        rw [e] at hz
        have : z = y := by simpa using hz
        rw [this]
        exact h2 y (ins_out h3 e).2.1
    · exact i2 z hz
theorem lett_lt : ∀ (ms : List Int) (c : Nat), ∀ x ∈ lett ms c, x < ((c + ms.length : Nat) : Int)
  | [], c, x, h => by simp [lett] at h
  | m :: ms, c, x, h => by
    rw [lett] at h
    rw [List.length_cons]
    rcases List.mem_append.mp h with h | h
    · rw [List.eq_of_mem_replicate h]
      omega
    · have := lett_lt ms (c + 1) x h
      omega
theorem Rw_lt (hh : List (List Int)) (e : Nat) : ∀ r i, ∀ x ∈ Rw hh e r i, x < (e : Int) := by
  intro r
  induction r with
  | zero => intro i x h; unfold Rw asF shp at h; simp at h
  | succ r ih =>
    by_cases h : r < hh.length
    · rw [shp_succ h]
      have hl : ∀ x ∈ lett (hh[r].take e) 0, x < (e : Int) := fun x hx => by
        have := lett_lt (hh[r].take e) 0 x hx
        have : (hh[r].take e).length ≤ e := by rw [List.length_take]; omega
        omega
      have hi : ∀ i, ∀ x ∈ inc (Rw hh e r) (lett (hh[r].take e) 0) i, x < (e : Int) := by
        intro i
        induction i with
        | zero => exact hl
        | succ i ihi => exact (feed_lt _ _ ihi (ih i) (Rw_ok hh e r i).1).2
      intro i
      exact (feed_lt _ _ (hi i) (ih i) (Rw_ok hh e r i).1).1
    · rw [shp_past (by omega)]
      exact ih
/-- the lengths of the rows, by the rule -/
theorem len_rule (hh : List (List Int)) (e i : Nat) : ((shp hh e).getD i []).length = cnt (Rw hh e hh.length i) (e : Int) := by
  rw [cnt_le_all (Rw_lt hh e hh.length i)]
  unfold Rw asF
  rw [List.take_length]
end Shp
end VS

/-! M4 -/
namespace VS
namespace Shp
def G (a : Nat → Nat → Int) : Nat → Nat → Nat → Int
  | 0, _, _ => 0
  | _ + 1, 0, _ => 0
  | r + 1, d + 1, 0 => max (G a r (d + 1) 0) (G a (r + 1) d 0) + a r d
  | r + 1, d + 1, j + 1 => max (G a r (d + 1) (j + 1)) (G a (r + 1) d (j + 1)) + (min (G a r (d + 1) j) (G a (r + 1) d j) - G a r d j)
termination_by r d => (r, d)
theorem G_0 (a : Nat → Nat → Int) (d i : Nat) : G a 0 d i = 0 := by unfold G; rfl
theorem G_d0 (a : Nat → Nat → Int) (r i : Nat) : G a r 0 i = 0 := by
  cases r with
  | zero => exact G_0 a 0 i
  | succ r => unfold G; rfl
theorem G_st (a : Nat → Nat → Int) (r d i : Nat) : G a (r + 1) (d + 1) i = max (G a r (d + 1) i) (G a (r + 1) d i) + more a (G a) r d i := by
  cases i with
  | zero => rw [G]; rfl
  | succ i => rw [G]; rfl
theorem G_rule (a : Nat → Nat → Int) (e : Nat) : Rule a (G a) e := ⟨G_0 a, G_d0 a, fun r d i _ => G_st a r d i⟩
section
variable {a : Nat → Nat → Int} (ha : ∀ r d, 0 ≤ a r d)
include ha in
theorem G_mono : ∀ r d, (∀ i, G a r d i ≤ G a (r + 1) d i) ∧ ∀ i, G a r d i ≤ G a r (d + 1) i := by
  have more0 : ∀ r d, ((∀ i, G a r d i ≤ G a (r + 1) d i) ∧ ∀ i, G a r d i ≤ G a r (d + 1) i) → ∀ i, 0 ≤ more a (G a) r d i := by
    intro r d h i
    cases i with
    | zero => exact ha r d
    | succ i =>
      have h1 := h.1 i
      have h2 := h.2 i
      simp only [more]
      omega
  intro r
  induction r with
  | zero =>
    intro d
    induction d with
    | zero => exact ⟨fun i => by rw [G_d0, G_d0]; exact Int.le_refl _, fun i => by rw [G_0, G_0]; exact Int.le_refl _⟩
    | succ d ih =>
      refine ⟨fun i => ?_, fun i => by rw [G_0, G_0]; exact Int.le_refl _⟩
      have m := more0 0 d ih i
      rw [G_st a 0 d i]
      omega
  | succ r ihr =>
    intro d
    induction d with
    | zero =>
      refine ⟨fun i => by rw [G_d0, G_d0]; exact Int.le_refl _, fun i => ?_⟩
      have m := more0 r 0 (ihr 0) i
      rw [G_st a r 0 i]
      omega
    | succ d ihd =>
      refine ⟨fun i => ?_, fun i => ?_⟩
      · have m := more0 (r + 1) d ihd i
        rw [G_st a (r + 1) d i]
        omega
      · have m := more0 r (d + 1) (ihr (d + 1)) i
        rw [G_st a r (d + 1) i]
        omega
include ha in
theorem G_nn : ∀ r d i, 0 ≤ G a r d i := by
  intro r
  induction r with
  | zero => intro d i; rw [G_0]; exact Int.le_refl _
  | succ r ih =>
    intro d i
    have := (G_mono ha r d).1 i
    have := ih d i
    omega
include ha in
theorem G_zero : ∀ r d i, (r ≤ i ∨ d ≤ i) → G a r d i = 0 := by
  intro r
  induction r with
  | zero => intro d i _; exact G_0 a d i
  | succ r ihr =>
    intro d
    induction d with
    | zero => intro i _; exact G_d0 a (r + 1) i
    | succ d ihd =>
      intro i h
      rw [G_st]
      cases i with
      | zero => omega
      | succ j =>
        simp only [more]
        rw [ihr (d + 1) (j + 1) (by omega), ihd (j + 1) (by omega)]
        have nn1 := G_nn ha (r + 1) d j
        have nn2 := G_nn ha r (d + 1) j
        rcases h with h | h
        · rw [ihr (d + 1) j (by omega), ihr d j (by omega)]
          omega
        · rw [ihd j (by omega), ihr d j (by omega)]
          omega
def SG (a : Nat → Nat → Int) (r d n : Nat) : Int := ((List.range n).map fun i => G a r d i).sum
theorem sum_range_succ (f : Nat → Int) (n : Nat) : ((List.range (n + 1)).map f).sum = ((List.range n).map f).sum + f n := by
  rw [List.range_succ, List.map_append, List.sum_append]
  simp
theorem SG_step (r d : Nat) : ∀ n, SG a (r + 1) (d + 1) (n + 1) = SG a r (d + 1) (n + 1) + SG a (r + 1) d (n + 1) - SG a r d (n + 1) + a r d - more a (G a) r d (n + 1)
  | 0 => by
    have e : ∀ r d, SG a r d (0 + 1) = G a r d 0 := fun r d => by simp [SG]
    rw [e, e, e, e, G_st]
    simp only [more]
    omega
  | n + 1 => by
    have ih := SG_step r d n
    have e : ∀ r d, SG a r d (n + 1 + 1) = SG a r d (n + 1) + G a r d (n + 1) := fun r d => sum_range_succ _ _
    rw [e, e, e, e, ih, G_st a r d (n + 1)]
    have m1 : more a (G a) r d (n + 1 + 1) = min (G a r (d + 1) (n + 1)) (G a (r + 1) d (n + 1)) - G a r d (n + 1) := rfl
    rw [m1]
    omega
/-- all the minutes of the first r counters and d customers -/
def TT (a : Nat → Nat → Int) (r d : Nat) : Int := ((List.range r).map fun r' => ((List.range d).map fun d' => a r' d').sum).sum
theorem TT_step (r d : Nat) : TT a (r + 1) (d + 1) = TT a r (d + 1) + TT a (r + 1) d - TT a r d + a r d := by
  have e : ∀ d, TT a (r + 1) d = TT a r d + ((List.range d).map fun d' => a r d').sum := fun d => sum_range_succ _ _
  rw [e (d + 1), e d, sum_range_succ]
  omega
theorem TT_0 (d : Nat) : TT a 0 d = 0 := rfl
theorem TT_d0 : ∀ r, TT a r 0 = 0
  | 0 => rfl
  | r + 1 => by
    have : TT a (r + 1) 0 = TT a r 0 + ((List.range 0).map fun d' => a r d').sum := sum_range_succ _ _
    rw [this, TT_d0 r]
    rfl
include ha in
theorem SG_all (n : Nat) : ∀ r d, (r ≤ n + 1 ∨ d ≤ n + 1) → SG a r d (n + 1) = TT a r d := by
  intro r
  induction r with
  | zero =>
    intro d _
    rw [TT_0]
    unfold SG
    have : (fun i => G a 0 d i) = fun _ => (0 : Int) := funext fun i => G_0 a d i
    rw [this]
    induction (n + 1) with
    | zero => rfl
    | succ k ih => rw [sum_range_succ, ih]; rfl
  | succ r ihr =>
    intro d
    induction d with
    | zero =>
      intro _
      rw [TT_d0]
      unfold SG
      have : (fun i => G a (r + 1) 0 i) = fun _ => (0 : Int) := funext fun i => G_d0 a (r + 1) i
      rw [this]
      induction (n + 1) with
      | zero => rfl
      | succ k ih => rw [sum_range_succ, ih]; rfl
    | succ d ihd =>
      intro h
      have z1 := G_st a r d (n + 1)
      rw [G_zero ha (r + 1) (d + 1) (n + 1) (by omega), G_zero ha r (d + 1) (n + 1) (by omega), G_zero ha (r + 1) d (n + 1) (by omega)] at z1
      rw [SG_step, TT_step, ihr (d + 1) (by omega), ihd (by omega), ihr d (by omega)]
      omega
end
theorem G_scale {a : Nat → Nat → Int} {c : Int} (hc : 0 ≤ c) : ∀ r d i, G (fun r d => c * a r d) r d i = c * G a r d i := by
  have mx : ∀ x y : Int, max (c * x) (c * y) = c * max x y := fun x y => by
    rcases Int.le_total x y with h | h
    · have := Int.mul_le_mul_of_nonneg_left h hc
      rw [Int.max_eq_right h, Int.max_eq_right this]
    · have := Int.mul_le_mul_of_nonneg_left h hc
      rw [Int.max_eq_left h, Int.max_eq_left this]
  have mn : ∀ x y : Int, min (c * x) (c * y) = c * min x y := fun x y => by
    rcases Int.le_total x y with h | h
    · have := Int.mul_le_mul_of_nonneg_left h hc
      rw [Int.min_eq_left h, Int.min_eq_left this]
    · have := Int.mul_le_mul_of_nonneg_left h hc
      rw [Int.min_eq_right h, Int.min_eq_right this]
  intro r
  induction r with
  | zero => intro d i; rw [G_0, G_0, Int.mul_zero]
  | succ r ihr =>
    intro d
    induction d with
    | zero => intro i; rw [G_d0, G_d0, Int.mul_zero]
    | succ d ihd =>
      intro i
      rw [G_st, G_st, ihr (d + 1) i, ihd i, mx, Int.mul_add]
      congr 1
      cases i with
      | zero => rfl
      | succ i =>
        simp only [more]
        rw [ihr (d + 1) i, ihd i, ihr d i, mn, Int.mul_sub]
/-- a hall's minutes -/
def aH (hh : List (List Int)) (r d : Nat) : Int := (hh.getD r []).getD d 0
theorem len_G (hh : List (List Int)) (hn : ∀ r ∈ hh, ∀ x ∈ r, 0 ≤ x) (e i : Nat) : (((shp hh e).getD i []).length : Int) = G (aH hh) hh.length e i := by
  have h1 := len_rule hh e i
  rw [h1]
  have : (cnt (Rw hh e hh.length i) (e : Int) : Int) = XR hh e hh.length e i := rfl
  rw [this]
  refine rule_uniq (XR_rule hh e e) (G_rule (aH hh) e) (n := hh.length) (fun r d hr hd => ?_) hh.length e i (Nat.le_refl _) (Nat.le_refl _)
  have gd : hh.getD r [] = hh[r] := by
    rw [List.getD_eq_getElem?_getD, List.getElem?_eq_getElem hr]
    rfl
  unfold aR aH
  rw [gd]
  have : (hh[r].take e).getD d 0 = hh[r].getD d 0 := by
    rw [List.getD_eq_getElem?_getD, List.getD_eq_getElem?_getD, List.getElem?_take_of_lt hd]
  rw [this]
  have nn : 0 ≤ hh[r].getD d 0 := by
    rw [List.getD_eq_getElem?_getD]
    cases e : hh[r][d]? with
    | none => exact Int.le_refl _
    | some x => exact hn _ (List.getElem_mem hr) x (List.mem_of_getElem? e)
  omega
end Shp
end VS

/-! Ev_k27 -/
namespace VS
open PySem L2
namespace K27
def F__law_shape : List PyData → Fv := Shp.shF
def ev__law_take : En → Out := sSeq (sIf (asB (e2 dGt (eIxV 0 (eC (.int 0))) (eC (.int 1)))) (sSeq (sSet 3 (e2 dMod (eIxV 0 (eC (.int 0))) (eV 1))) (sSeq (sPut 0 (eC (.int 0)) (e2 dDiv (eIxV 0 (eC (.int 0))) (eV 1))) (sRet (eV 3)))) (sNil)) (sSeq (sPut 0 (eC (.int 2)) (e2 dAdd (eIxV 0 (eC (.int 2))) (eC (.int 1)))) (sSeq (sSet 2 (e2 dMod (e2 dPow (e2 dAdd (eIxV 0 (eC (.int 1))) (e2 dMul (eC (.int 1299827)) (eIxV 0 (eC (.int 2))))) (eC (.int 3))) (eC (.int 162259276829213363391578010288127)))) (sSeq (sSet 2 (e2 dMod (e2 dPow (e2 dAdd (eV 2) (e2 dMul (eC (.int 15485917)) (eIxV 0 (eC (.int 2))))) (eC (.int 5))) (eC (.int 618970019642690137449562111)))) (sRet (e2 dMod (e2 dDiv (eV 2) (eC (.int 1048576))) (eV 1))))))
def F__law_take : List PyData → Fv := fnEv false 4 2 ev__law_take
def ev_is_whole : En → Out := sRet (ofB (eAndB (asB (eIsTy "int" (eV 0))) (eNotB (asB (eIsTy "bool" (eV 0))))))
def F_is_whole : List PyData → Fv := fnEv false 1 1 ev_is_whole
def ev_is_amount : En → Out := sRet (ofB (eAndB (asB (eCall F_is_whole (eCons (eV 0) (eNil)))) (asB (e2 dGe (eV 0) (eC (.int 0))))))
def F_is_amount : List PyData → Fv := fnEv false 1 1 ev_is_amount
def ev_is_row : En → Out := sRet (ofB (eAndB (asB (eIsTy "tuple" (eV 0))) (eAndB (asB (e2 dEq (eCb gLen (eCons (eV 0) (eNil))) (eV 1))) (asB (eCb gAll (eCons (eLc [2] (evI itemsD (eV 0)) (gN 2) (eYes) (eCall F_is_amount (eCons (eV 2) (eNil)))) (eNil)))))))
def F_is_row : List PyData → Fv := fnEv false 3 2 ev_is_row
def ev_is_hall : En → Out := sSeq (sIf (eOrB (eNotB (asB (eIsTy "tuple" (eV 0)))) (eOrB (eNotB (asB (eChain dLe dLe (eC (.int 1)) (eCb gLen (eCons (eV 0) (eNil))) (eC (.int 8))))) (eNotB (asB (eIsTy "tuple" (e2 dIx (eV 0) (eC (.int 0)))))))) (sRet (eC (.bool false))) (sNil)) (sRet (ofB (eAndB (asB (eChain dLe dLe (eC (.int 1)) (eCb gLen (eCons (e2 dIx (eV 0) (eC (.int 0))) (eNil))) (eC (.int 8)))) (asB (eCb gAll (eCons (eLc [1] (evI itemsD (eV 0)) (gN 1) (eYes) (eCall F_is_row (eCons (eV 1) (eCons (eCb gLen (eCons (e2 dIx (eV 0) (eC (.int 0))) (eNil))) (eNil))))) (eNil)))))))
def F_is_hall : List PyData → Fv := fnEv false 2 1 ev_is_hall
def ev_need_hall : En → Out := sIf (eNotB (asB (eCall F_is_hall (eCons (eV 0) (eNil))))) (sNever) (sNil)
def F_need_hall : List PyData → Fv := fnEv false 1 1 ev_need_hall
def ev_need_asking : En → Out := sSeq (sExpr (eCall F_need_hall (eCons (eV 0) (eNil)))) (sSeq (sIf (eOrB (eNotB (asB (eCall F_is_amount (eCons (eV 1) (eNil))))) (asB (e2 dGt (eV 1) (eCb gMin2 (eCons (eCb gLen (eCons (eV 0) (eNil))) (eCons (eCb gLen (eCons (e2 dIx (eV 0) (eC (.int 0))) (eNil))) (eNil))))))) (sNever) (sNil)) (sIf (eOrB (eNotB (asB (eCall F_is_amount (eCons (eV 2) (eNil))))) (asB (e2 dGt (eV 2) (eCb gLen (eCons (e2 dIx (eV 0) (eC (.int 0))) (eNil)))))) (sNever) (sNil)))
def F_need_asking : List PyData → Fv := fnEv false 3 3 ev_need_asking
def ev_next_shape : En → Out := sSeq (sSet 4 (eLst (eNil))) (sSeq (sSet 5 (eV 3)) (sSeq (sFor (evA gEz (eCons (eV 1) (eCons (eV 2) (eNil)))) (gT (gsC (gN 6) (gsC (gT (gsC (gN 7) (gsC (gN 8) (gsN)))) (gsN)))) (sSeq (sApp 4 (e2 dAdd (eCb gMax2 (eCons (eV 7) (eCons (eV 8) (eNil)))) (eV 5))) (sSet 5 (e2 dSub (eCb gMin2 (eCons (eV 7) (eCons (eV 8) (eNil)))) (e2 dIx (eV 0) (eV 6)))))) (sRetV 4)))
def F_next_shape : List PyData → Fv := fnEv false 9 4 ev_next_shape
def ev_shapes : En → Out := sSeq (sSet 1 (e2 dAdd (eCb gMin2 (eCons (eCb gLen (eCons (eV 0) (eNil))) (eCons (eCb gLen (eCons (e2 dIx (eV 0) (eC (.int 0))) (eNil))) (eNil)))) (eC (.int 1)))) (sSeq (sSet 2 (eLst (eCons (eLc [5] (evA gR1 (eCons (e2 dAdd (eCb gLen (eCons (e2 dIx (eV 0) (eC (.int 0))) (eNil))) (eC (.int 1))) (eNil))) (gN 5) (eYes) (e2 dMul (eLst (eCons (eC (.int 0)) (eNil))) (eV 1))) (eNil)))) (sSeq (sFor (evI itemsD (eV 0)) (gN 3) (sSeq (sSet 4 (eLst (eCons (e2 dMul (eLst (eCons (eC (.int 0)) (eNil))) (eV 1)) (eNil)))) (sSeq (sFor (evA gEn (eCons (eV 3) (eNil))) (gT (gsC (gN 5) (gsC (gN 6) (gsN)))) (sSeq (sPar 7 8 (e2 dIx (eIxV 2 (e1 dNeg (eC (.int 1)))) (eV 5)) (e2 dIx (eIxV 2 (e1 dNeg (eC (.int 1)))) (e2 dAdd (eV 5) (eC (.int 1))))) (sApp 4 (eCall F_next_shape (eCons (eV 7) (eCons (eV 8) (eCons (eIxV 4 (e1 dNeg (eC (.int 1)))) (eCons (eV 6) (eNil))))))))) (sApp 2 (eV 4))))) (sRetV 2)))
def F_shapes : List PyData → Fv := fnEv false 9 1 ev_shapes
def ev_covered : En → Out := sSeq (sExpr (eCall F_need_asking (eCons (eV 0) (eCons (eV 1) (eCons (eV 2) (eNil)))))) (sRet (eCb gSum (eCons (eSl (e2 dIx (e2 dIx (eCall F_shapes (eCons (eV 0) (eNil))) (e1 dNeg (eC (.int 1)))) (eV 2)) (pNo) (pYes (eV 1))) (eNil))))
def F_covered : List PyData → Fv := fnEv false 3 3 ev_covered
def ev__law_right : En → Out := sSeq (sAsg (eTup (eCons (e2 dAdd (eC (.int 1)) (eCallB F__law_take 0 (eCons (eV 1) (eNil)))) (eCons (e2 dAdd (eC (.int 1)) (eCallB F__law_take 0 (eCons (eV 1) (eNil)))) (eNil)))) (gT (gsC (gN 8) (gsC (gN 9) (gsN))))) (sSeq (sSet 2 (e2 dIx (eLst (eCons (eC (.int 2)) (eCons (eC (.int 3)) (eCons (eC (.int 4)) (eNil))))) (eCallB F__law_take 0 (eCons (eC (.int 3)) (eNil))))) (sSeq (sSet 3 (eCb gTuple (eCons (eLc [12] (evA gR1 (eCons (eV 8) (eNil))) (gN 12) (eYes) (eCb gTuple (eCons (eLc [14] (evA gR1 (eCons (eV 9) (eNil))) (gN 14) (eYes) (eCallB F__law_take 0 (eCons (eV 2) (eNil)))) (eNil)))) (eNil)))) (sSeq (sSet 4 (e2 dAdd (e2 dPow (eC (.int 10)) (eC (.int 9))) (eCallB F__law_take 0 (eCons (e2 dPow (eC (.int 10)) (eC (.int 12))) (eNil))))) (sSeq (sSet 5 (eCb gTuple (eCons (eLc [13] (evI itemsD (eV 3)) (gN 13) (eYes) (eCb gTuple (eCons (eLc [15] (evI itemsD (eV 13)) (gN 15) (eYes) (e2 dMul (eV 4) (eV 15))) (eNil)))) (eNil)))) (sSeq (sSet 6 (eCb gMin2 (eCons (eV 8) (eCons (eV 9) (eNil))))) (sSeq (sFor (evA gR2 (eCons (eC (.int 1)) (eCons (e2 dAdd (eV 9) (eC (.int 1))) (eNil)))) (gN 7) (sSeq (sSet 10 (eCall F__law_shape (eCons (eV 3) (eCons (eV 7) (eNil))))) (sSeq (sFor (evA gR1 (eCons (e2 dAdd (eV 6) (eC (.int 1))) (eNil))) (gN 11) (sIf (asB (e2 dNe (eCall F_covered (eCons (eV 3) (eCons (eV 11) (eCons (eV 7) (eNil))))) (eCb gSum (eCons (eSl (eV 10) (pNo) (pYes (eV 11))) (eNil))))) (sRet (eC (.bool false))) (sNil))) (sSeq (sSet 11 (eCallB F__law_take 0 (eCons (e2 dAdd (eV 6) (eC (.int 1))) (eNil)))) (sSeq (sIf (asB (e2 dNe (eCall F_covered (eCons (eV 5) (eCons (eV 11) (eCons (eV 7) (eNil))))) (e2 dMul (eV 4) (eCb gSum (eCons (eSl (eV 10) (pNo) (pYes (eV 11))) (eNil)))))) (sRet (eC (.bool false))) (sNil)) (sIf (asB (e2 dNe (eCall F_covered (eCons (eV 3) (eCons (eV 6) (eCons (eV 7) (eNil))))) (eCb gSum (eCons (eLc [13] (evI itemsD (eV 3)) (gN 13) (eYes) (eCb gSum (eCons (eSl (eV 13) (pNo) (pYes (eV 7))) (eNil)))) (eNil))))) (sRet (eC (.bool false))) (sNil))))))) (sRet (eC (.bool true)))))))))
def F__law_right : List PyData → Fv := fnEv false 16 2 ev__law_right
def ev__law_bag : En → Out := sRet (eLst (eCons (eCb gMax2 (eCons (eC (.int 0)) (eCons (e2 dSub (eV 0) (e2 dPow (eC (.int 10)) (eC (.int 18)))) (eNil)))) (eCons (e2 dAdd (e2 dMod (eV 0) (eC (.int 162259276829213363391578010288127))) (e2 dMul (eC (.int 4409)) (e2 dAdd (eV 1) (eC (.int 1))))) (eCons (eC (.int 0)) (eNil)))))
def F__law_bag : List PyData → Fv := fnEv true 2 2 ev__law_bag
def ev__law_cell_at : En → Out := sSeq (sIf (asB (e2 dLt (eV 1) (eCb gLen (eCons (eV 0) (eNil))))) (sRet (e2 dIx (eV 0) (eV 1))) (sNil)) (sRet (eC (.int 0)))
def F__law_cell_at : List PyData → Fv := fnEv false 2 2 ev__law_cell_at
def ev_law : En → Out := sRet (eCb gAll (eCons (eLc [1] (evA gR1 (eCons (eC (.int 3)) (eNil))) (gN 1) (eYes) (eCallBF F__law_right (eCall F__law_bag (eCons (eCall F__law_cell_at (eCons (eV 0) (eCons (eV 1) (eNil)))) (eCons (eV 1) (eNil)))) (eCons (e2 dIx (eLst (eCons (eC (.int 8)) (eCons (eC (.int 4)) (eCons (eC (.int 4)) (eNil))))) (eV 1)) (eNil)))) (eNil)))
def F_law : List PyData → Fv := fnEv false 2 1 ev_law
end K27
end VS

/-! V_k27 -/
namespace VS
open PySem L2
namespace K27
def top (i : Nat) : Stmt := PySem.Challenge.pw_movedminutes_k27_covered_by_rows_of_numb.main.body.getD i (.Pass ⟨0, 0, 0, 0⟩)
section
variable {P : Program} {w : World} {K : PySem.W.Frag} {mg : Str → Option Value} {base : Heap}
theorem sc__law_take : FnScope ["bag", "size", "mixed", "found"] ["bag", "size"] (defScope (top 21)) := ⟨rfl, rfl, rfl, by decide +kernel, rfl, by decide +kernel, by decide +kernel⟩
theorem v__law_take {fa : Addr} {fd : FuncData} (Fu : Fun K "_law_take" "_law_take" (top 21) fa fd) (Bi : Binds K fd ["bag", "size"] []) (hm : mg "_law_take" = some (.ref fa)) :
    FnV P w K mg base 1 "_law_take" true false 2 F__law_take := fnV_of (m2 := [false, false, false, false]) Fu sc__law_take Bi hm fun cdv A outer s H E hr =>
  css_cons (m1 := [true, false, false, false]) (cs_if (ct_cmp op_gt s_cmp (ce_ixV 0 (ce_int)) (ce_int) (by rfl)) (css_cons (m1 := [true, false, false, false]) (cs_set 3 (ce_op op_mod s_mod (ce_ixV 0 (ce_int)) (ce_v 1)) sc__law_take.nd)
  (css_cons (m1 := [true, false, false, false]) (cs_put 0 (ce_int) (ce_op op_fdivW s_div (ce_ixV 0 (ce_int)) (ce_v 1)))
  (css_one (cs_ret rfl (ce_v 3))))) (css_nil))
  (css_cons (m1 := [true, false, false, false]) (cs_put 0 (ce_int) (ce_op op_add4 s_add (ce_ixV 0 (ce_int)) (ce_int)))
  (css_cons (m1 := [true, false, false, false]) (cs_set 2 (ce_op op_mod s_mod (ce_op op_powW s_pow (ce_op op_add4 s_add (ce_ixV 0 (ce_int)) (ce_op op_mul2 s_mul (ce_int) (ce_ixV 0 (ce_int)))) (ce_int)) (ce_int)) sc__law_take.nd)
  (css_cons (m1 := [true, false, false, false]) (cs_set 2 (ce_op op_mod s_mod (ce_op op_powW s_pow (ce_op op_add4 s_add (ce_v 2) (ce_op op_mul2 s_mul (ce_int) (ce_ixV 0 (ce_int)))) (ce_int)) (ce_int)) sc__law_take.nd)
  (css_one (cs_ret rfl (ce_op op_mod s_mod (ce_op op_fdivW s_div (ce_v 2) (ce_int)) (ce_v 1)))))))
theorem sc_is_whole : FnScope ["thing"] ["thing"] (defScope (top 8)) := ⟨rfl, rfl, rfl, by decide +kernel, rfl, by decide +kernel, by decide +kernel⟩
theorem v_is_whole {fa : Addr} {fd : FuncData} (Fu : Fun K "is_whole" "is_whole" (top 8) fa fd) (Bi : Binds K fd ["thing"] []) (hm : mg "is_whole" = some (.ref fa)) (z_isinstance : mg "isinstance" = none) (z_int : mg "int" = none) (z_bool : mg "bool" = none) :
    FnV P w K mg base 1 "is_whole" false false 1 F_is_whole := fnV_of (m2 := [false]) Fu sc_is_whole Bi hm fun cdv A outer s H E hr =>
  css_one (cs_ret rfl (cb_and (cb_of (ce_isTy z_isinstance z_int bt_int (ce_v 0))) (cb_one (cb_not (cb_of (ce_isTy z_isinstance z_bool bt_bool (ce_v 0)))))))
theorem sc_is_amount : FnScope ["thing"] ["thing"] (defScope (top 9)) := ⟨rfl, rfl, rfl, by decide +kernel, rfl, by decide +kernel, by decide +kernel⟩
theorem v_is_amount {fa : Addr} {fd : FuncData} (Fu : Fun K "is_amount" "is_amount" (top 9) fa fd) (Bi : Binds K fd ["thing"] []) (hm : mg "is_amount" = some (.ref fa)) (G_is_whole : FnV P w K mg base 1 "is_whole" false false 1 F_is_whole) :
    FnV P w K mg base 2 "is_amount" false false 1 F_is_amount := fnV_of (m2 := [false]) Fu sc_is_amount Bi hm fun cdv A outer s H E hr =>
  css_one (cs_ret rfl (cb_and (cb_of (ce_call G_is_whole (hr.mono (by decide)) tk_body (ca_cons (ce_v 0) (ca_nil)))) (cb_one (cb_of (ce_cmp op_ge s_cmp (ce_v 0) (ce_int) (by rfl))))))
theorem sc_is_row : FnScope ["thing", "many", "one"] ["thing", "many"] (defScope (top 10)) := ⟨rfl, rfl, rfl, by decide +kernel, rfl, by decide +kernel, by decide +kernel⟩
theorem v_is_row {fa : Addr} {fd : FuncData} (Fu : Fun K "is_row" "is_row" (top 10) fa fd) (Bi : Binds K fd ["thing", "many"] []) (hm : mg "is_row" = some (.ref fa)) (z_isinstance : mg "isinstance" = none) (z_tuple : mg "tuple" = none) (z_len : mg "len" = none) (z_all : mg "all" = none) (G_is_amount : FnV P w K mg base 2 "is_amount" false false 1 F_is_amount) :
    FnV P w K mg base 3 "is_row" false false 2 F_is_row := fnV_of (m2 := [false, false, false]) Fu sc_is_row Bi hm fun cdv A outer s H E hr =>
  css_one (cs_ret rfl (cb_and (cb_of (ce_isTy z_isinstance z_tuple bt_tuple (ce_v 0))) (cb_and (cb_of (ce_cmp (op_eq2 (rm_eq hr)) s_eq (b_len z_len (ca_cons (ce_v 0) (ca_nil))) (ce_v 1) (by rfl))) (cb_one (cb_of (b_all rfl z_all (ca_cons (ce_of_cf (cf_lc [("one", 2)] rfl sc_is_row.nd (ci_seq (ce_v 0)) (fun _ _ _ _ _ => cg_n 2 sc_is_row.nd) (fun _ _ _ _ _ => pts_yes) (fun _ _ _ _ _ => ce_call G_is_amount (hr.mono (by decide)) tkF (ca_cons (ce_v 2) (ca_nil))) (kp_n 2))) (ca_nil))))))))
theorem sc_is_hall : FnScope ["thing", "row"] ["thing"] (defScope (top 11)) := ⟨rfl, rfl, rfl, by decide +kernel, rfl, by decide +kernel, by decide +kernel⟩
theorem v_is_hall {fa : Addr} {fd : FuncData} (Fu : Fun K "is_hall" "is_hall" (top 11) fa fd) (Bi : Binds K fd ["thing"] []) (hm : mg "is_hall" = some (.ref fa)) (z_isinstance : mg "isinstance" = none) (z_tuple : mg "tuple" = none) (z_len : mg "len" = none) {tk_MOST_COUNTERS : Tok} (z_MOST_COUNTERS : mg "MOST_COUNTERS" = some (.int 8 tk_MOST_COUNTERS)) {tk_MOST_CUSTOMERS : Tok} (z_MOST_CUSTOMERS : mg "MOST_CUSTOMERS" = some (.int 8 tk_MOST_CUSTOMERS)) (z_all : mg "all" = none) (G_is_row : FnV P w K mg base 3 "is_row" false false 2 F_is_row) :
    FnV P w K mg base 4 "is_hall" false false 1 F_is_hall := fnV_of (m2 := [false, false]) Fu sc_is_hall Bi hm fun cdv A outer s H E hr =>
  css_cons (m1 := [false, false]) (cs_if (ct_w (cw_or (ct_not (ct_val (ce_isTy z_isinstance z_tuple bt_tuple (ce_v 0)))) (cw_or (ct_not (ct_chain op_le s_cmp op_le s_cmp (ce_int) (b_len z_len (ca_cons (ce_v 0) (ca_nil))) (ce_glob z_MOST_COUNTERS))) (cw_or1 (ct_not (ct_val (ce_isTy z_isinstance z_tuple bt_tuple (ce_ix (ce_v 0) (ce_int))))))))) (css_one (cs_ret rfl (ce_bl))) (css_nil))
  (css_one (cs_ret rfl (cb_and (cb_of (ce_chain op_le s_cmp op_le s_cmp (ce_int) (b_len z_len (ca_cons (ce_ix (ce_v 0) (ce_int)) (ca_nil))) (ce_glob z_MOST_CUSTOMERS))) (cb_one (cb_of (b_all rfl z_all (ca_cons (ce_of_cf (cf_lc [("row", 1)] rfl sc_is_hall.nd (ci_seq (ce_v 0)) (fun _ _ _ _ _ => cg_n 1 sc_is_hall.nd) (fun _ _ _ _ _ => pts_yes) (fun _ _ _ _ _ => ce_call G_is_row (hr.mono (by decide)) tkF (ca_cons (ce_v 1) (ca_cons (b_len z_len (ca_cons (ce_ix (ce_v 0) (ce_int)) (ca_nil))) (ca_nil)))) (kp_n 1))) (ca_nil))))))))
theorem sc_need_hall : FnScope ["hall"] ["hall"] (defScope (top 12)) := ⟨rfl, rfl, rfl, by decide +kernel, rfl, by decide +kernel, by decide +kernel⟩
theorem v_need_hall {fa : Addr} {fd : FuncData} (Fu : Fun K "need_hall" "need_hall" (top 12) fa fd) (Bi : Binds K fd ["hall"] []) (hm : mg "need_hall" = some (.ref fa)) (G_is_hall : FnV P w K mg base 4 "is_hall" false false 1 F_is_hall) :
    FnV P w K mg base 5 "need_hall" false false 1 F_need_hall := fnV_of (m2 := [false]) Fu sc_need_hall Bi hm fun cdv A outer s H E hr =>
  css_one (cs_if (ct_not (ct_val (ce_call G_is_hall (hr.mono (by decide)) tk_body (ca_cons (ce_v 0) (ca_nil))))) (css_one (cs_never)) (css_nil))
theorem sc_need_asking : FnScope ["hall", "many", "customers"] ["hall", "many", "customers"] (defScope (top 16)) := ⟨rfl, rfl, rfl, by decide +kernel, rfl, by decide +kernel, by decide +kernel⟩
theorem v_need_asking {fa : Addr} {fd : FuncData} (Fu : Fun K "need_asking" "need_asking" (top 16) fa fd) (Bi : Binds K fd ["hall", "many", "customers"] []) (hm : mg "need_asking" = some (.ref fa)) (z_len : mg "len" = none) (z_min : mg "min" = none) (G_need_hall : FnV P w K mg base 5 "need_hall" false false 1 F_need_hall) (G_is_amount : FnV P w K mg base 2 "is_amount" false false 1 F_is_amount) :
    FnV P w K mg base 6 "need_asking" false false 3 F_need_asking := fnV_of (m2 := [false, false, false]) Fu sc_need_asking Bi hm fun cdv A outer s H E hr =>
  css_cons (m1 := [false, false, false]) (cs_expr (ce_call G_need_hall (hr.mono (by decide)) tk_body (ca_cons (ce_v 0) (ca_nil))))
  (css_cons (m1 := [false, false, false]) (cs_if (ct_w (cw_or (ct_not (ct_val (ce_call G_is_amount (hr.mono (by decide)) tk_body (ca_cons (ce_v 1) (ca_nil))))) (cw_or1 (ct_cmp op_gt s_cmp (ce_v 1) (b_min2 rfl z_min (ca_cons (b_len z_len (ca_cons (ce_v 0) (ca_nil))) (ca_cons (b_len z_len (ca_cons (ce_ix (ce_v 0) (ce_int)) (ca_nil))) (ca_nil)))) (by rfl))))) (css_one (cs_never)) (css_nil))
  (css_one (cs_if (ct_w (cw_or (ct_not (ct_val (ce_call G_is_amount (hr.mono (by decide)) tk_body (ca_cons (ce_v 2) (ca_nil))))) (cw_or1 (ct_cmp op_gt s_cmp (ce_v 2) (b_len z_len (ca_cons (ce_ix (ce_v 0) (ce_int)) (ca_nil))) (by rfl))))) (css_one (cs_never)) (css_nil))))
theorem sc_next_shape : FnScope ["ahead", "above", "beside", "minutes", "found", "more", "place", "one", "other"] ["ahead", "above", "beside", "minutes"] (defScope (top 14)) := ⟨rfl, rfl, rfl, by decide +kernel, rfl, by decide +kernel, by decide +kernel⟩
theorem v_next_shape {fa : Addr} {fd : FuncData} (Fu : Fun K "next_shape" "next_shape" (top 14) fa fd) (Bi : Binds K fd ["ahead", "above", "beside", "minutes"] []) (hm : mg "next_shape" = some (.ref fa)) (z_zip : mg "zip" = none) (z_enumerate : mg "enumerate" = none) (z_max : mg "max" = none) (z_min : mg "min" = none) :
    FnV P w K mg base 1 "next_shape" false false 4 F_next_shape := fnV_of (m2 := [false, false, false, false, false, false, false, false, false]) Fu sc_next_shape Bi hm fun cdv A outer s H E hr =>
  css_cons (m1 := [false, false, false, false, true, false, false, false, false]) (cs_setF 4 (cf_lst (ca_nil)) sc_next_shape.nd)
  (css_cons (m1 := [false, false, false, false, true, false, false, false, false]) (cs_set 5 (ce_v 3) sc_next_shape.nd)
  (css_cons (m1 := [false, false, false, false, true, false, false, false, false]) (cs_for po_body rfl (ci_ez (ca_cons (ce_v 1) (ca_cons (ce_v 2) (ca_nil))) z_zip (by rfl) z_enumerate) (cg_t rfl (cgs_cons (cg_n 6 sc_next_shape.nd) (cgs_cons (cg_t rfl (cgs_cons (cg_n 7 sc_next_shape.nd) (cgs_cons (cg_n 8 sc_next_shape.nd) (cgs_nil))) (gsC_len (gsC_len (gsN_len)))) (cgs_nil))) (gsC_len (gsC_len (gsN_len)))) (css_cons (m1 := [false, false, false, false, true, false, false, false, false]) (cs_app 4 (ce_op op_add4 s_add (b_max2 rfl z_max (ca_cons (ce_v 7) (ca_cons (ce_v 8) (ca_nil)))) (ce_v 5)))
  (css_one (cs_set 5 (ce_op op_sub s_sub (b_min2 rfl z_min (ca_cons (ce_v 7) (ca_cons (ce_v 8) (ca_nil)))) (ce_ix (ce_v 0) (ce_v 6))) sc_next_shape.nd))))
  (css_one (cs_retV 4))))
theorem sc_shapes : FnScope ["hall", "size", "found", "row", "here", "customer", "minutes", "ahead", "above"] ["hall"] (defScope (top 15)) := ⟨rfl, rfl, rfl, by decide +kernel, rfl, by decide +kernel, by decide +kernel⟩
theorem v_shapes {fa : Addr} {fd : FuncData} (Fu : Fun K "shapes" "shapes" (top 15) fa fd) (Bi : Binds K fd ["hall"] []) (hm : mg "shapes" = some (.ref fa)) (z_len : mg "len" = none) (z_min : mg "min" = none) (z_range : mg "range" = none) (z_enumerate : mg "enumerate" = none) (G_next_shape : FnV P w K mg base 1 "next_shape" false false 4 F_next_shape) :
    FnV P w K mg base 2 "shapes" false false 1 F_shapes := fnV_of (m2 := [false, false, false, false, false, false, false, false, false]) Fu sc_shapes Bi hm fun cdv A outer s H E hr =>
  css_cons (m1 := [false, false, false, false, false, false, false, false, false]) (cs_set 1 (ce_op op_add4 s_add (b_min2 rfl z_min (ca_cons (b_len z_len (ca_cons (ce_v 0) (ca_nil))) (ca_cons (b_len z_len (ca_cons (ce_ix (ce_v 0) (ce_int)) (ca_nil))) (ca_nil)))) (ce_int)) sc_shapes.nd)
  (css_cons (m1 := [false, false, true, false, false, false, false, false, false]) (cs_setF 2 (cf_lst (ca_cons (ce_of_cf (cf_lc [("customer", 5)] rfl sc_shapes.nd (ci_r1 (ca_cons (ce_op op_add4 s_add (b_len z_len (ca_cons (ce_ix (ce_v 0) (ce_int)) (ca_nil))) (ce_int)) (ca_nil)) z_range) (fun _ _ _ _ _ => cg_n 5 sc_shapes.nd) (fun _ _ _ _ _ => pts_yes) (fun _ _ _ _ _ => ce_op op_mul2 s_mul (ce_of_cf (cf_lst (ca_cons (ce_int) (ca_nil)))) (ce_v 1)) (kp_n 5))) (ca_nil))) sc_shapes.nd)
  (css_cons (m1 := [false, false, true, false, false, false, false, false, false]) (cs_for po_body rfl (ci_seq (ce_v 0)) (cg_n 3 sc_shapes.nd) (css_cons (m1 := [false, false, true, false, true, false, false, false, false]) (cs_setF 4 (cf_lst (ca_cons (ce_op op_mul2 s_mul (ce_of_cf (cf_lst (ca_cons (ce_int) (ca_nil)))) (ce_v 1)) (ca_nil))) sc_shapes.nd)
  (css_cons (m1 := [false, false, true, false, true, false, false, false, false]) (cs_for po_body rfl (ci_en (ca_cons (ce_v 3) (ca_nil)) z_enumerate) (cg_t rfl (cgs_cons (cg_n 5 sc_shapes.nd) (cgs_cons (cg_n 6 sc_shapes.nd) (cgs_nil))) (gsC_len (gsC_len (gsN_len)))) (css_cons (m1 := [false, false, true, false, true, false, false, false, false]) (cs_par 7 8 rfl sc_shapes.nd (ce_ix (ce_ixV 2 (ce_un un_neg s_neg (ce_int))) (ce_v 5)) (ce_ix (ce_ixV 2 (ce_un un_neg s_neg (ce_int))) (ce_op op_add4 s_add (ce_v 5) (ce_int))))
  (css_one (cs_app 4 (ce_call G_next_shape (hr.mono (by decide)) tk_body (ca_cons (ce_v 7) (ca_cons (ce_v 8) (ca_cons (ce_ixV 4 (ce_un un_neg s_neg (ce_int))) (ca_cons (ce_v 6) (ca_nil))))))))))
  (css_one (cs_weak (m1 := [false, false, true, false, false, false, false, false, false]) rfl (cs_app 2 (ce_v 4)))))))
  (css_one (cs_retV 2))))
theorem sc_covered : FnScope ["hall", "many", "customers"] ["hall", "many", "customers"] (defScope (top 17)) := ⟨rfl, rfl, rfl, by decide +kernel, rfl, by decide +kernel, by decide +kernel⟩
theorem v_covered {fa : Addr} {fd : FuncData} (Fu : Fun K "covered" "covered" (top 17) fa fd) (Bi : Binds K fd ["hall", "many", "customers"] []) (hm : mg "covered" = some (.ref fa)) (z_sum : mg "sum" = none) (G_need_asking : FnV P w K mg base 6 "need_asking" false false 3 F_need_asking) (G_shapes : FnV P w K mg base 2 "shapes" false false 1 F_shapes) :
    FnV P w K mg base 7 "covered" false false 3 F_covered := fnV_of (m2 := [false, false, false]) Fu sc_covered Bi hm fun cdv A outer s H E hr =>
  css_cons (m1 := [false, false, false]) (cs_expr (ce_call G_need_asking (hr.mono (by decide)) tk_body (ca_cons (ce_v 0) (ca_cons (ce_v 1) (ca_cons (ce_v 2) (ca_nil))))))
  (css_one (cs_ret rfl (b_sum rfl z_sum (ca_cons (ce_sl (ce_ix (ce_ix (ce_call G_shapes (hr.mono (by decide)) tk_body (ca_cons (ce_v 0) (ca_nil))) (ce_un un_neg s_neg (ce_int))) (ce_v 2)) (co_no) (co_yes (ce_v 1))) (ca_nil)))))
theorem sc__law_right : FnScope ["bag", "size_to", "few", "house", "by", "grown", "most", "end", "high", "wide", "rows", "size", "desk", "row", "guest", "minutes"] ["bag", "size_to"] (defScope (top 23)) := ⟨rfl, rfl, rfl, by decide +kernel, rfl, by decide +kernel, by decide +kernel⟩
theorem v__law_right {fa : Addr} {fd : FuncData} (Fu : Fun K "_law_right" "_law_right" (top 23) fa fd) (Bi : Binds K fd ["bag", "size_to"] []) (hm : mg "_law_right" = some (.ref fa)) (z_range : mg "range" = none) (z_tuple : mg "tuple" = none) (z_min : mg "min" = none) (z_sum : mg "sum" = none) (G__law_take : FnV P w K mg base 1 "_law_take" true false 2 F__law_take) (G__law_shape : FnV P w K mg base 1 "_law_shape" false false 2 F__law_shape) (G_covered : FnV P w K mg base 7 "covered" false false 3 F_covered) :
    FnV P w K mg base 8 "_law_right" true false 2 F__law_right := fnV_of (m2 := [false, false, false, false, false, false, false, false, false, false, false, false, false, false, false, false]) Fu sc__law_right Bi hm fun cdv A outer s H E hr =>
  css_cons (m1 := [true, false, false, false, false, false, false, false, false, false, false, false, false, false, false, false]) (cs_asg (ce_tup (ca_cons (ce_op op_add4 s_add (ce_int) (ce_callB 0 G__law_take (hr.mono (by decide)) tk_body (ca_cons (ce_v 1) (ca_nil)))) (ca_cons (ce_op op_add4 s_add (ce_int) (ce_callB 0 G__law_take (hr.mono (by decide)) tk_body (ca_cons (ce_v 1) (ca_nil)))) (ca_nil)))) (cg_t rfl (cgs_cons (cg_n 8 sc__law_right.nd) (cgs_cons (cg_n 9 sc__law_right.nd) (cgs_nil))) (gsC_len (gsC_len (gsN_len)))))
  (css_cons (m1 := [true, false, false, false, false, false, false, false, false, false, false, false, false, false, false, false]) (cs_set 2 (ce_ix (ce_of_cf (cf_lst (ca_cons (ce_int) (ca_cons (ce_int) (ca_cons (ce_int) (ca_nil)))))) (ce_callB 0 G__law_take (hr.mono (by decide)) tk_body (ca_cons (ce_int) (ca_nil)))) sc__law_right.nd)
  (css_cons (m1 := [true, false, false, false, false, false, false, false, false, false, false, false, false, false, false, false]) (cs_set 3 (b_tuple z_tuple (ca_cons (ce_of_cf (cf_lc [("desk", 12)] rfl sc__law_right.nd (ci_r1 (ca_cons (ce_v 8) (ca_nil)) z_range) (fun _ _ _ _ _ => cg_n 12 sc__law_right.nd) (fun _ _ _ _ _ => pts_yes) (fun _ _ _ _ _ => b_tuple z_tuple (ca_cons (ce_of_cf (cf_lc [("guest", 14)] rfl sc__law_right.nd (ci_r1 (ca_cons (ce_v 9) (ca_nil)) z_range) (fun _ _ _ _ _ => cg_n 14 sc__law_right.nd) (fun _ _ _ _ _ => pts_yes) (fun _ _ _ _ _ => ce_callB 0 G__law_take (hr.mono (by decide)) tkF (ca_cons (ce_v 2) (ca_nil))) (kp_n 14))) (ca_nil))) (kp_n 12))) (ca_nil))) sc__law_right.nd)
  (css_cons (m1 := [true, false, false, false, false, false, false, false, false, false, false, false, false, false, false, false]) (cs_set 4 (ce_op op_add4 s_add (ce_op op_powW s_pow (ce_int) (ce_int)) (ce_callB 0 G__law_take (hr.mono (by decide)) tk_body (ca_cons (ce_op op_powW s_pow (ce_int) (ce_int)) (ca_nil)))) sc__law_right.nd)
  (css_cons (m1 := [true, false, false, false, false, false, false, false, false, false, false, false, false, false, false, false]) (cs_set 5 (b_tuple z_tuple (ca_cons (ce_of_cf (cf_lc [("row", 13)] rfl sc__law_right.nd (ci_seq (ce_v 3)) (fun _ _ _ _ _ => cg_n 13 sc__law_right.nd) (fun _ _ _ _ _ => pts_yes) (fun _ _ _ _ _ => b_tuple z_tuple (ca_cons (ce_of_cf (cf_lc [("minutes", 15)] rfl sc__law_right.nd (ci_seq (ce_v 13)) (fun _ _ _ _ _ => cg_n 15 sc__law_right.nd) (fun _ _ _ _ _ => pts_yes) (fun _ _ _ _ _ => ce_op op_mul2 s_mul (ce_v 4) (ce_v 15)) (kp_n 15))) (ca_nil))) (kp_n 13))) (ca_nil))) sc__law_right.nd)
  (css_cons (m1 := [true, false, false, false, false, false, false, false, false, false, false, false, false, false, false, false]) (cs_set 6 (b_min2 rfl z_min (ca_cons (ce_v 8) (ca_cons (ce_v 9) (ca_nil)))) sc__law_right.nd)
  (css_cons (m1 := [true, false, false, false, false, false, false, false, false, false, false, false, false, false, false, false]) (cs_for po_body rfl (ci_r2 (ca_cons (ce_int) (ca_cons (ce_op op_add4 s_add (ce_v 9) (ce_int)) (ca_nil))) z_range) (cg_n 7 sc__law_right.nd) (css_cons (m1 := [true, false, false, false, false, false, false, false, false, false, false, false, false, false, false, false]) (cs_set 10 (ce_call G__law_shape (hr.mono (by decide)) tk_body (ca_cons (ce_v 3) (ca_cons (ce_v 7) (ca_nil)))) sc__law_right.nd)
  (css_cons (m1 := [true, false, false, false, false, false, false, false, false, false, false, false, false, false, false, false]) (cs_for po_body rfl (ci_r1 (ca_cons (ce_op op_add4 s_add (ce_v 6) (ce_int)) (ca_nil)) z_range) (cg_n 11 sc__law_right.nd) (css_one (cs_if (ct_cmp (op_ne2 (rm_eq hr)) s_ne (ce_call G_covered (hr.mono (by decide)) tk_body (ca_cons (ce_v 3) (ca_cons (ce_v 11) (ca_cons (ce_v 7) (ca_nil))))) (b_sum rfl z_sum (ca_cons (ce_sl (ce_v 10) (co_no) (co_yes (ce_v 11))) (ca_nil))) (by rfl)) (css_one (cs_ret rfl (ce_bl))) (css_nil))))
  (css_cons (m1 := [true, false, false, false, false, false, false, false, false, false, false, false, false, false, false, false]) (cs_set 11 (ce_callB 0 G__law_take (hr.mono (by decide)) tk_body (ca_cons (ce_op op_add4 s_add (ce_v 6) (ce_int)) (ca_nil))) sc__law_right.nd)
  (css_cons (m1 := [true, false, false, false, false, false, false, false, false, false, false, false, false, false, false, false]) (cs_if (ct_cmp (op_ne2 (rm_eq hr)) s_ne (ce_call G_covered (hr.mono (by decide)) tk_body (ca_cons (ce_v 5) (ca_cons (ce_v 11) (ca_cons (ce_v 7) (ca_nil))))) (ce_op op_mul2 s_mul (ce_v 4) (b_sum rfl z_sum (ca_cons (ce_sl (ce_v 10) (co_no) (co_yes (ce_v 11))) (ca_nil)))) (by rfl)) (css_one (cs_ret rfl (ce_bl))) (css_nil))
  (css_one (cs_if (ct_cmp (op_ne2 (rm_eq hr)) s_ne (ce_call G_covered (hr.mono (by decide)) tk_body (ca_cons (ce_v 3) (ca_cons (ce_v 6) (ca_cons (ce_v 7) (ca_nil))))) (b_sum rfl z_sum (ca_cons (ce_of_cf (cf_lc [("row", 13)] rfl sc__law_right.nd (ci_seq (ce_v 3)) (fun _ _ _ _ _ => cg_n 13 sc__law_right.nd) (fun _ _ _ _ _ => pts_yes) (fun _ _ _ _ _ => b_sum rfl z_sum (ca_cons (ce_sl (ce_v 13) (co_no) (co_yes (ce_v 7))) (ca_nil))) (kp_n 13))) (ca_nil))) (by rfl)) (css_one (cs_ret rfl (ce_bl))) (css_nil))))))))
  (css_one (cs_ret rfl (ce_bl)))))))))
theorem sc__law_bag : FnScope ["cell", "k"] ["cell", "k"] (defScope (top 20)) := ⟨rfl, rfl, rfl, by decide +kernel, rfl, by decide +kernel, by decide +kernel⟩
theorem v__law_bag {fa : Addr} {fd : FuncData} (Fu : Fun K "_law_bag" "_law_bag" (top 20) fa fd) (Bi : Binds K fd ["cell", "k"] []) (hm : mg "_law_bag" = some (.ref fa)) (z_max : mg "max" = none) :
    FnV P w K mg base 1 "_law_bag" false true 2 F__law_bag := fnV_of (m2 := [false, false]) Fu sc__law_bag Bi hm fun cdv A outer s H E hr =>
  css_one (cs_retF rfl (cf_lst (ca_cons (b_max2 rfl z_max (ca_cons (ce_int) (ca_cons (ce_op op_sub s_sub (ce_v 0) (ce_op op_powW s_pow (ce_int) (ce_int))) (ca_nil)))) (ca_cons (ce_op op_add4 s_add (ce_op op_mod s_mod (ce_v 0) (ce_int)) (ce_op op_mul2 s_mul (ce_int) (ce_op op_add4 s_add (ce_v 1) (ce_int)))) (ca_cons (ce_int) (ca_nil))))))
theorem sc__law_cell_at : FnScope ["script", "k"] ["script", "k"] (defScope (top 19)) := ⟨rfl, rfl, rfl, by decide +kernel, rfl, by decide +kernel, by decide +kernel⟩
theorem v__law_cell_at {fa : Addr} {fd : FuncData} (Fu : Fun K "_law_cell_at" "_law_cell_at" (top 19) fa fd) (Bi : Binds K fd ["script", "k"] []) (hm : mg "_law_cell_at" = some (.ref fa)) (z_len : mg "len" = none) :
    FnV P w K mg base 1 "_law_cell_at" false false 2 F__law_cell_at := fnV_of (m2 := [false, false]) Fu sc__law_cell_at Bi hm fun cdv A outer s H E hr =>
  css_cons (m1 := [false, false]) (cs_if (ct_cmp op_lt s_cmp (ce_v 1) (b_len z_len (ca_cons (ce_v 0) (ca_nil))) (by rfl)) (css_one (cs_ret rfl (ce_ix (ce_v 0) (ce_v 1)))) (css_nil))
  (css_one (cs_ret rfl (ce_int)))
theorem sc_law : FnScope ["script", "k"] ["script"] (defScope (top 24)) := ⟨rfl, rfl, rfl, by decide +kernel, rfl, by decide +kernel, by decide +kernel⟩
theorem v_law {fa : Addr} {fd : FuncData} (Fu : Fun K "law" "law" (top 24) fa fd) (z_range : mg "range" = none) (z_all : mg "all" = none) (G__law_right : FnV P w K mg base 8 "_law_right" true false 2 F__law_right) (G__law_bag : FnV P w K mg base 1 "_law_bag" false true 2 F__law_bag) (G__law_cell_at : FnV P w K mg base 1 "_law_cell_at" false false 2 F__law_cell_at) :
    FnOk P w K mg base (L2.CX P w) 9 fa fd ["script"] (spV K mg false false F_law 1) := fnok_of (m2 := [false, false]) Fu sc_law fun cdv A outer s H E hr =>
  css_one (cs_ret rfl (b_all rfl z_all (ca_cons (ce_of_cf (cf_lc [("k", 1)] rfl sc_law.nd (ci_r1 (ca_cons (ce_int) (ca_nil)) z_range) (fun _ _ _ _ _ => cg_n 1 sc_law.nd) (fun _ _ _ _ _ => pts_yes) (fun _ _ _ _ _ => ce_callBF G__law_right (hr.mono (by decide)) tkF (cf_call G__law_bag (hr.mono (by decide)) tkF (ca_cons (ce_call G__law_cell_at (hr.mono (by decide)) tkF (ca_cons (ce_v 0) (ca_cons (ce_v 1) (ca_nil)))) (ca_cons (ce_v 1) (ca_nil)))) (ca_cons (ce_ix (ce_of_cf (cf_lst (ca_cons (ce_int) (ca_cons (ce_int) (ca_cons (ce_int) (ca_nil)))))) (ce_v 1)) (ca_nil))) (kp_n 1))) (ca_nil))))
end
end K27
end VS

/-! Sh6_k27 -/
namespace VS
open PySem L2
namespace K27
open Shp
theorem sc__law_shape : FnScope ["house", "end", "rows", "row", "guest", "minutes", "turn", "one", "numbers", "spots", "k", "other"] ["house", "end"] (defScope (top 22)) := ⟨rfl, rfl, rfl, by decide +kernel, rfl, by decide +kernel, by decide +kernel⟩
section
variable {P : Program} {w : World} {K : PySem.W.Frag} {mg : Str → Option Value} {base : Heap}
theorem p_shape {fa : Addr} {cdv : Value} {A : Around} {outer : List Env} {s : Shared} {H : Hp} {E : XK} (hr : Room 0 (A.deeper (PyProof.Rows.envOfC "_law_shape" (defScope (top 22)) s.heap.objs.size fa cdv))) (z_enumerate : mg "enumerate" = none) (z_range : mg "range" = none) (z_len : mg "len" = none) :
    PSs (cxOf (L2.CX P w) P w K mg base ["house", "end", "rows", "row", "guest", "minutes", "turn", "one", "numbers", "spots", "k", "other"] "_law_shape" (defScope (top 22)) fa cdv A outer s H E) (defBody (top 22)) (tAll K mg) :=
  pss_cons (ps_set (i := 2) sc__law_shape.nd (by rfl) (.inl rfl) (pe_lst pa_nil) (by rfl) (.inr rfl))
    (pss_cons (ps_for po_body (by rfl) (ci_seq (ce_v 0)) (cg_n 3 sc__law_shape.nd)
      (pss_one (ps_for po_body (by rfl) (ci_en (ca_cons (ce_sl (ce_v 3) co_no (co_yes (ce_v 1))) ca_nil) z_enumerate) (cg_t (by rfl) (cgs_cons (cg_n 4 sc__law_shape.nd) (cgs_cons (cg_n 5 sc__law_shape.nd) cgs_nil)) (gsC_len (gsC_len gsN_len)))
        (pss_one (ps_for po_body (by rfl) (ci_r1 (ca_cons (ce_v 5) ca_nil) z_range) (cg_n 6 sc__law_shape.nd)
          (pss_cons (ps_set (i := 7) sc__law_shape.nd (by rfl) (.inr rfl) (pv 4) (by rfl) (.inl rfl))
          (pss_cons (ps_for po_body (by rfl) (pi_list (pv 2)) (pg_name (i := 8) sc__law_shape.nd (by rfl) (.inl rfl) (.inr rfl))
            (pss_cons (ps_setLc (i := 9) (own := [("k", 10), ("other", 11)]) (by rfl) sc__law_shape.nd (by rfl) (by rfl) (by exact sw_true rfl rfl rfl (by decide +kernel)) (pi_enum (by rfl) z_enumerate (pa_cons (pv 8) pa_nil)) (blkOk_by (by rfl))
                (fun _ _ _ _ _ => pg_tup (by rfl) (pgs_cons (pg_name (i := 10) sc__law_shape.nd (by rfl) (.inl rfl) (.inr rfl)) (pgs_cons (pg_name (i := 11) sc__law_shape.nd (by rfl) (.inl rfl) (.inr rfl)) pgs_nil)))
                (fun _ _ _ _ _ => pts_one (pt_cmpR op_gt (pv 11) (pv 7) (by rfl))) (fun _ _ _ _ _ => pv 10))
            (pss_cons (ps_if (pt_cmpR (op_eqD (rm_eq hr)) (pv 9) (pe_lst pa_nil) (by rfl))
                (pss_cons (ps_expr (pe_bm PySem.F.plainAttrs_list PySem.F.slot_list_append PySem.F.type_list_append mt_append (pv 8) (pa_cons (pv 7) pa_nil)))
                (pss_cons (ps_set (i := 7) sc__law_shape.nd (by rfl) (.inr rfl) pe_non (by rfl) (.inl rfl)) (pss_one ps_break))) pss_nil)
            (pss_one (ps_asg (pe_tup (pa_cons (pv 7) (pa_cons (pe_ix ix_list (pv 8) (pe_ix ix_list (pv 9) pe_int (by intro _ _; rfl)) (by intro _ _; rfl)) pa_nil)))
                (pg_tup (by rfl) (pgs_cons (pg_sub (pv 8) (pe_ix ix_list (pv 9) pe_int (by intro _ _; rfl)) set_list) (pgs_cons (pg_name (i := 7) sc__law_shape.nd (by rfl) (.inr rfl) (.inl rfl)) pgs_nil))))))))
          (pss_one (ps_if (pt_cmpR op_notN (pv 7) pe_non (by rfl)) (pss_one (ps_expr (pe_bm PySem.F.plainAttrs_list PySem.F.slot_list_append PySem.F.type_list_append mt_append (pv 2) (pa_cons (pe_lst (pa_cons (pv 7) pa_nil)) pa_nil)))) pss_nil)))))))))
    (pss_one (ps_ret (pe_lc (own := [("numbers", 8)]) (by rfl) sc__law_shape.nd (pi_list (pv 2)) (blkOk_by (by rfl)) (fun _ _ _ _ _ => pg_name (i := 8) sc__law_shape.nd (by rfl) (.inl rfl) (.inr rfl)) (fun _ _ _ _ _ => pts_nil) (fun _ _ _ _ _ => pe_callB call_len_seq (by rfl) z_len bt_len (pa_cons (pv 8) pa_nil))))))
theorem v__law_shape {fa : Addr} {fd : FuncData} (Fu : Fun K "_law_shape" "_law_shape" (top 22) fa fd) (Bi : Binds K fd ["house", "end"] []) (hm : mg "_law_shape" = some (.ref fa)) (z_enumerate : mg "enumerate" = none) (z_range : mg "range" = none) (z_len : mg "len" = none) :
    FnV P w K mg base 1 "_law_shape" false false 2 F__law_shape := by
  refine ⟨⟨fa, fd, _, Fu.okX sc__law_shape (fun vs H Q E h => h.1) fun cdv A outer s H vs Q E hr h => ?_, hm, Fu.kp, Bi⟩, fun ds h => ?_⟩
  · obtain ⟨hl, h⟩ := h
    rw [if_neg Bool.false_ne_true] at h
    obtain ⟨Hc, ds, s1, p1, q⟩ := h
    exact ⟨_, p_shape hr z_enumerate z_range z_len, t_all s1 p1 q _ rfl⟩
  · unfold F__law_shape shF at h
    split at h
    · rfl
    · exact absurd rfl h
end
end K27
end VS

/-! P1_k27 -/
namespace VS
open PySem L2
namespace K27
open Shp
def rowD (r : List Int) : PyData := .tuple (r.map PyData.int)
def hallD (hh : List (List Int)) : PyData := .tuple (hh.map rowD)
theorem w_int (i : Int) : F_is_whole [.int i] = .ok (.bool true) (.int i) := rfl
theorem amt_ok {i : Int} (h : 0 ≤ i) : F_is_amount [.int i] = .ok (.bool true) (.int i) := by
  simp -implicitDefEqProofs [F_is_amount, ev_is_amount, en0, w_int, h, bagOf]
theorem row_ok {r : List Int} (h : ∀ x ∈ r, 0 ≤ x) (hl : r.length ≤ 1000) : F_is_row [rowD r, .int r.length] = .ok (.bool true) (rowD r) := by
  have k1 : isTy "tuple" (rowD r) = some true := rfl
  have k2 : eLc [2] (evI itemsD (eV 0)) (gN 2) eYes (eCall F_is_amount (eCons (eV 2) eNil)) [some (rowD r), some (.int r.length), none] = .ok (.list ((r.map PyData.int).map fun _ => PyData.bool true)) [some (rowD r), some (.int r.length), none] := by
    refine eLc_pure (fun _ => .bool true) (ds := r.map PyData.int) rfl (fun d hd => ?_) (by rw [List.length_map]; omega)
    obtain ⟨x, hx, rfl⟩ := List.mem_map.mp hd
    exact ⟨_, rfl, by simp -implicitDefEqProofs [amt_ok (h x hx), wipeE], rfl⟩
  have k3 : dEq (.int r.length) (.int r.length) = some (.bool true) := by
    unfold dEq eqOk strPair
    simp -implicitDefEqProofs [SeqAt.shaped, PyData.canLay0, PyData.depth, PyData.eqv]
  have k4 : gLen [rowD r] = some (.int r.length) := by simp -implicitDefEqProofs [rowD, gLen]
  have k5 : gAll [.list ((r.map PyData.int).map fun _ => PyData.bool true)] = some (.bool true) := all_true fun d hd => by
    obtain ⟨_, _, rfl⟩ := List.mem_map.mp hd
    rfl
  simp -implicitDefEqProofs [F_is_row, ev_is_row, en0, k1, k2, k3, k4, k5, bagOf, -List.map_map]
structure Hall (hh : List (List Int)) (n : Nat) : Prop where
  h0 : 0 < hh.length
  h8 : hh.length ≤ 8
  n0 : 0 < n
  n8 : n ≤ 8
  row : ∀ r ∈ hh, r.length = n ∧ ∀ x ∈ r, 0 ≤ x
theorem ix0 {hh : List (List Int)} {n : Nat} (h : Hall hh n) : ∃ r0, dIx (hallD hh) (.int 0) = some (rowD r0) ∧ r0.length = n := by
  obtain ⟨r0, rs, rfl⟩ : ∃ r0 rs, hh = r0 :: rs := by
    cases hh with
    | nil => exact absurd h.h0 (by simp)
    | cons r0 rs => exact ⟨r0, rs, rfl⟩
  refine ⟨r0, ?_, (h.row r0 List.mem_cons_self).1⟩
  show atI _ 0 = _
  rw [atI_nn (by decide)]
  rfl
theorem lenH (hh : List (List Int)) : gLen [hallD hh] = some (.int (hh.length : Nat)) := by simp -implicitDefEqProofs [hallD, gLen]
theorem lenR (r : List Int) : gLen [rowD r] = some (.int (r.length : Nat)) := by simp -implicitDefEqProofs [rowD, gLen]
theorem hall_ok {hh : List (List Int)} {n : Nat} (h : Hall hh n) : F_is_hall [hallD hh] = .ok (.bool true) (hallD hh) := by
  obtain ⟨r0, k2, l0⟩ := ix0 h
  have h8 := h.h8
  have h0 := h.h0
  have n0 := h.n0
  have n8 := h.n8
  have k1 : isTy "tuple" (hallD hh) = some true := rfl
  have k3 : isTy "tuple" (rowD r0) = some true := rfl
  have k4 := lenH hh
  have k5 : gLen [rowD r0] = some (.int (n : Nat)) := by rw [lenR, l0]
  have k6 : eLc [1] (evI itemsD (eV 0)) (gN 1) eYes (eCall F_is_row (eCons (eV 1) (eCons (eCb gLen (eCons (e2 dIx (eV 0) (eC (.int 0))) eNil)) eNil))) [some (hallD hh), none] = .ok (.list ((hh.map rowD).map fun _ => PyData.bool true)) [some (hallD hh), none] := by
    refine eLc_pure (fun _ => .bool true) (ds := hh.map rowD) rfl (fun d hd => ?_) (by rw [List.length_map]; omega)
    obtain ⟨x, hx, rfl⟩ := List.mem_map.mp hd
    obtain ⟨q1, q2⟩ := h.row x hx
    have := row_ok q2 (by omega)
    rw [q1] at this
    exact ⟨_, rfl, by simp -implicitDefEqProofs [k2, k5, this, wipeE], rfl⟩
  have k7 : gAll [.list ((hh.map rowD).map fun _ => PyData.bool true)] = some (.bool true) := all_true fun d hd => by
    obtain ⟨_, _, rfl⟩ := List.mem_map.mp hd
    rfl
  have c1 : 1 ≤ hh.length := by omega
  have c1' : (1 : Int) ≤ (hh.length : Int) := by omega
  have c2 : (hh.length : Int) ≤ 8 := by omega
  have c3 : (1 : Int) ≤ (n : Int) := by omega
  have c4 : (n : Int) ≤ 8 := by omega
  simp -implicitDefEqProofs [F_is_hall, ev_is_hall, en0, k1, k2, k3, k4, k5, k6, k7, c1', c2, c3, c4, bagOf, -List.map_map]
theorem need_ok {hh : List (List Int)} {n : Nat} (h : Hall hh n) : F_need_hall [hallD hh] = .ok .none (hallD hh) := by
  simp -implicitDefEqProofs [F_need_hall, ev_need_hall, en0, hall_ok h, bagOf]
theorem ask_ok {hh : List (List Int)} {n : Nat} (h : Hall hh n) {m c : Int} (m0 : 0 ≤ m) (m1 : m ≤ hh.length) (m2 : m ≤ n) (c0 : 0 ≤ c) (c1 : c ≤ n) : F_need_asking [hallD hh, .int m, .int c] = .ok .none (hallD hh) := by
  obtain ⟨r0, k1, k2⟩ := ix0 h
  have k3 : ¬ ((if n < hh.length then (n : Int) else (hh.length : Int)) < m) := by
    split <;> omega
  have k4 : ¬ ((n : Int) < c) := by omega
  simp -implicitDefEqProofs [F_need_asking, ev_need_asking, en0, need_ok h, amt_ok m0, amt_ok c0, k1, k2, lenH, lenR, k3, k4, bagOf]
/-! the rule -/
def gl (a : Nat → Nat → Int) (s r d : Nat) : PyData := .list ((List.range s).map fun i => .int (G a r d i))
theorem zip_gl (f g : Nat → Int) (s : Nat) : zipD ((List.range s).map fun i => .int (f i)) ((List.range s).map fun i => .int (g i)) = (List.range s).map fun i => .tuple [.int (f i), .int (g i)] := by
  apply List.ext_getElem?
  intro i
  by_cases hi : i < s
  · rw [zipD_get _ _ i (d := .int (f i)) (e := .int (g i)) (by simp -implicitDefEqProofs [hi]) (by simp -implicitDefEqProofs [hi])]
    simp -implicitDefEqProofs [hi]
  · rw [List.getElem?_eq_none (by rw [zipD_len]; simp; omega), List.getElem?_eq_none (by simp; omega)]
theorem next_ok (a : Nat → Nat → Int) {s : Nat} (hs : s ≤ 1000) (r d : Nat) : ∃ bg, F_next_shape [gl a s r d, gl a s r (d + 1), gl a s (r + 1) d, .int (a r d)] = .ok (gl a s (r + 1) (d + 1)) bg := by
  have key := sFor_inv (ev := evA gEz (eCons (eV 1) (eCons (eV 2) (eNil)))) (g := gT (gsC (gN 6) (gsC (gT (gsC (gN 7) (gsC (gN 8) (gsN)))) (gsN))))
    (body := sSeq (sApp 4 (e2 dAdd (eCb gMax2 (eCons (eV 7) (eCons (eV 8) (eNil)))) (eV 5))) (sSet 5 (e2 dSub (eCb gMin2 (eCons (eV 7) (eCons (eV 8) (eNil)))) (e2 dIx (eV 0) (eV 6)))))
    (ds := enumD 0 ((List.range s).map fun i => .tuple [.int (G a r (d + 1) i), .int (G a (r + 1) d i)]))
    (en := [some (gl a s r d), some (gl a s r (d + 1)), some (gl a s (r + 1) d), some (.int (a r d)), some (.list []), some (.int (a r d)), none, none, none])
    (en1 := [some (gl a s r d), some (gl a s r (d + 1)), some (gl a s (r + 1) d), some (.int (a r d)), some (.list []), some (.int (a r d)), none, none, none])
    (by simp -implicitDefEqProofs [gl, gEz, zip_gl])
    (fun i en => ∃ o6 o7 o8, en = [some (gl a s r d), some (gl a s r (d + 1)), some (gl a s (r + 1) d), some (.int (a r d)), some (.list ((List.range i).map fun i => .int (G a (r + 1) (d + 1) i))), some (.int (more a (G a) r d i)), o6, o7, o8])
    ⟨none, none, none, rfl⟩ (fun i dd en hd hi => ?_)
  · obtain ⟨en', q1, o6, o7, o8, rfl⟩ := key
    refine ⟨gl a s r d, ?_⟩
    rw [enumD_len, List.length_map, List.length_range] at q1
    simp -implicitDefEqProofs [F_next_shape, ev_next_shape, en0, q1, bagOf]
    rfl
  · obtain ⟨o6, o7, o8, rfl⟩ := hi
    have hl : i < s := by
      have := (List.getElem?_eq_some_iff.mp hd).1
      rw [enumD_len, List.length_map, List.length_range] at this
      exact this
    rw [enumD_get 0 _ i (d := .tuple [.int (G a r (d + 1) i), .int (G a (r + 1) d i)]) (by simp -implicitDefEqProofs [hl]), Nat.zero_add] at hd
    cases hd
    have hx : dIx (gl a s r d) (.int (i : Nat)) = some (.int (G a r d i)) := by
      show atI _ _ = _
      rw [atI_nn (by omega), Int.toNat_natCast]
      simp -implicitDefEqProofs [hl]
    have mx : (if G a (r + 1) d i > G a r (d + 1) i then G a (r + 1) d i else G a r (d + 1) i) = max (G a r (d + 1) i) (G a (r + 1) d i) := by
      by_cases c : G a (r + 1) d i > G a r (d + 1) i
      · rw [if_pos c, Int.max_eq_right (by omega)]
      · rw [if_neg c, Int.max_eq_left (by omega)]
    have mn : (if G a (r + 1) d i < G a r (d + 1) i then G a (r + 1) d i else G a r (d + 1) i) = min (G a r (d + 1) i) (G a (r + 1) d i) := by
      by_cases c : G a (r + 1) d i < G a r (d + 1) i
      · rw [if_pos c, Int.min_eq_right (by omega)]
      · rw [if_neg c, Int.min_eq_left (by omega)]
    refine ⟨[some (gl a s r d), some (gl a s r (d + 1)), some (gl a s (r + 1) d), some (.int (a r d)), some (.list ((List.range i).map fun i => .int (G a (r + 1) (d + 1) i))), some (.int (more a (G a) r d i)), some (.int (i : Nat)), some (.int (G a r (d + 1) i)), some (.int (G a (r + 1) d i))],
      [some (gl a s r d), some (gl a s r (d + 1)), some (gl a s (r + 1) d), some (.int (a r d)), some (.list ((List.range (i + 1)).map fun i => .int (G a (r + 1) (d + 1) i))), some (.int (more a (G a) r d (i + 1))), some (.int (i : Nat)), some (.int (G a r (d + 1) i)), some (.int (G a (r + 1) d i))], rfl, .inl ?_, _, _, _, rfl⟩
    have lt : i < 1000000 := by omega
    have g1 := G_st a r d i
    simp -implicitDefEqProofs [hx, lt, List.range_succ, more, mn, ← mx] at g1 ⊢
    rw [g1]
end K27
end VS

/-! P2_k27 -/
namespace VS
open PySem L2
namespace K27
open Shp
def lineD (a : Nat → Nat → Int) (s n r : Nat) : PyData := .list ((List.range (n + 1)).map fun d => gl a s r d)
theorem gl_0 (a : Nat → Nat → Int) (s d : Nat) : gl a s 0 d = .list (List.replicate s (.int 0)) := by
  unfold gl
  congr 1
  apply List.ext_getElem?
  intro i
  by_cases hi : i < s
  · simp -implicitDefEqProofs [hi, G_0, List.getElem?_replicate]
  · simp -implicitDefEqProofs [hi, List.getElem?_replicate]
theorem gl_d0 (a : Nat → Nat → Int) (s r : Nat) : gl a s r 0 = .list (List.replicate s (.int 0)) := by
  unfold gl
  congr 1
  apply List.ext_getElem?
  intro i
  by_cases hi : i < s
  · simp -implicitDefEqProofs [hi, G_d0, List.getElem?_replicate]
  · simp -implicitDefEqProofs [hi, List.getElem?_replicate]
theorem mul0 {s : Nat} (h : s ≤ 1000) : dMul (.list [.int 0]) (.int (s : Nat)) = some (.list (List.replicate s (.int 0))) := by
  unfold dMul
  simp only
  rw [if_pos ⟨by omega, by omega, by simp; omega⟩]
  congr 2
  rw [Int.toNat_natCast]
  induction s with
  | zero => rfl
  | succ s ih =>
    rw [List.replicate_succ, List.flatten_cons, ih (by omega), List.replicate_succ]
    rfl
def sz (hh : List (List Int)) (n : Nat) : Nat := (if n < hh.length then n else hh.length) + 1
theorem sz_int (hh : List (List Int)) (n : Nat) : ((if n < hh.length then (n : Int) else (hh.length : Int)) + 1) = (sz hh n : Int) := by
  unfold sz
  by_cases c : n < hh.length
  · rw [if_pos c, if_pos c]; omega
  · rw [if_neg c, if_neg c]; omega
theorem first_ok {hh : List (List Int)} {n : Nat} (h : Hall hh n) (a : Nat → Nat → Int) {s : Nat} (hs : s ≤ 1000) : eLc [5] (evA gR1 (eCons (e2 dAdd (eCb gLen (eCons (e2 dIx (eV 0) (eC (.int 0))) (eNil))) (eC (.int 1))) (eNil))) (gN 5) (eYes) (e2 dMul (eLst (eCons (eC (.int 0)) (eNil))) (eV 1)) [some (hallD hh), some (.int (s : Int)), none, none, none, none, none, none, none] =
      .ok (lineD a s n 0) [some (hallD hh), some (.int (s : Int)), none, none, none, none, none, none, none] := by
    obtain ⟨r0, k2, l0⟩ := ix0 h
    have n8 := h.n8
    have k5 : gLen [rowD r0] = some (.int (n : Nat)) := by rw [lenR, l0]
    have m0 := mul0 hs
    have := eLc_pure (vs := [5]) (ev := evA gR1 (eCons (e2 dAdd (eCb gLen (eCons (e2 dIx (eV 0) (eC (.int 0))) (eNil))) (eC (.int 1))) (eNil))) (g := gN 5) (te := e2 dMul (eLst (eCons (eC (.int 0)) (eNil))) (eV 1)) (ds := rangeL 0 1 (n + 1)) (en := [some (hallD hh), some (.int (s : Int)), none, none, none, none, none, none, none])
      (en1 := [some (hallD hh), some (.int (s : Int)), none, none, none, none, none, none, none]) (fun _ => .list (List.replicate s (.int 0))) (by
        simp -implicitDefEqProofs [k2, k5, gR1_ok1 (show n < 1000000 by omega)]) (fun d hd => ⟨_, rfl, by simp -implicitDefEqProofs [wipeE, m0], rfl⟩) (by rw [rangeL_len]; omega)
    rw [this]
    unfold lineD
    congr 2
    apply List.ext_getElem?
    intro i
    by_cases hi : i < n + 1
    · rw [List.getElem?_map, rangeL_get hi]
      simp -implicitDefEqProofs [hi, gl_0]
    · rw [List.getElem?_eq_none (by rw [List.length_map, rangeL_len]; omega), List.getElem?_eq_none (by simp; omega)]
theorem inner_ok {hh : List (List Int)} {n : Nat} (h : Hall hh n) {a : Nat → Nat → Int} (ha : aH hh = a) {s : Nat} (hs : s ≤ 1000) : ∀ (i : Nat) (hi : i < hh.length) (o7 o8 o5 o6 : Option PyData), ∃ p5 p6 p7 p8, sFor (evA gEn (eCons (eV 3) (eNil))) (gT (gsC (gN 5) (gsC (gN 6) (gsN)))) (sSeq (sPar 7 8 (e2 dIx (eIxV 2 (e1 dNeg (eC (.int 1)))) (eV 5)) (e2 dIx (eIxV 2 (e1 dNeg (eC (.int 1)))) (e2 dAdd (eV 5) (eC (.int 1))))) (sApp 4 (eCall F_next_shape (eCons (eV 7) (eCons (eV 8) (eCons (eIxV 4 (e1 dNeg (eC (.int 1)))) (eCons (eV 6) (eNil))))))))
      [some (hallD hh), some (.int (s : Int)), some (.list ((List.range (i + 1)).map fun r => lineD a s n r)), some (rowD hh[i]), some (.list [.list (List.replicate s (.int 0))]), o5, o6, o7, o8] =
      .nx [some (hallD hh), some (.int (s : Int)), some (.list ((List.range (i + 1)).map fun r => lineD a s n r)), some (rowD hh[i]), some (lineD a s n (i + 1)), p5, p6, p7, p8] := by
    have n8 := h.n8
    have h8 := h.h8
    intro i hi o7 o8 o5 o6
    have hrow := h.row hh[i] (List.getElem_mem hi)
    obtain ⟨en', q1, q2⟩ := sFor_inv (ev := evA gEn (eCons (eV 3) (eNil))) (g := gT (gsC (gN 5) (gsC (gN 6) (gsN)))) (body := sSeq (sPar 7 8 (e2 dIx (eIxV 2 (e1 dNeg (eC (.int 1)))) (eV 5)) (e2 dIx (eIxV 2 (e1 dNeg (eC (.int 1)))) (e2 dAdd (eV 5) (eC (.int 1))))) (sApp 4 (eCall F_next_shape (eCons (eV 7) (eCons (eV 8) (eCons (eIxV 4 (e1 dNeg (eC (.int 1)))) (eCons (eV 6) (eNil)))))))) (ds := enumD 0 (hh[i].map PyData.int))
      (en := [some (hallD hh), some (.int (s : Int)), some (.list ((List.range (i + 1)).map fun r => lineD a s n r)), some (rowD hh[i]), some (.list [.list (List.replicate s (.int 0))]), o5, o6, o7, o8])
      (en1 := [some (hallD hh), some (.int (s : Int)), some (.list ((List.range (i + 1)).map fun r => lineD a s n r)), some (rowD hh[i]), some (.list [.list (List.replicate s (.int 0))]), o5, o6, o7, o8]) rfl
      (fun j en => ∃ p5 p6 p7 p8, en = [some (hallD hh), some (.int (s : Int)), some (.list ((List.range (i + 1)).map fun r => lineD a s n r)), some (rowD hh[i]), some (.list ((List.range (j + 1)).map fun d => gl a s (i + 1) d)), p5, p6, p7, p8])
      ⟨o5, o6, o7, o8, by simp -implicitDefEqProofs [gl_d0]⟩ (fun j dd en hd hj => by
        obtain ⟨p5, p6, p7, p8, rfl⟩ := hj
        have hl : j < n := by
          have := (List.getElem?_eq_some_iff.mp hd).1
          rw [enumD_len, List.length_map, hrow.1] at this
          exact this
        have hl' : j < hh[i].length := by rw [hrow.1]; exact hl
        rw [enumD_get 0 _ j (d := .int (hh[i][j])) (by simp -implicitDefEqProofs [hl']), Nat.zero_add] at hd
        cases hd
        have ea : hh[i][j] = a i j := by
          rw [← ha]
          unfold aH
          rw [List.getD_eq_getElem?_getD, List.getD_eq_getElem?_getD, List.getElem?_eq_getElem hi]
          simp -implicitDefEqProofs [hl']
        have last : atI ((List.range (i + 1)).map fun r => lineD a s n r) (-1) = some (lineD a s n i) := by
          rw [atI_m1, List.getLast?_eq_getElem?]
          simp
        have last2 : atI ((List.range (j + 1)).map fun d => gl a s (i + 1) d) (-1) = some (gl a s (i + 1) j) := by
          rw [atI_m1, List.getLast?_eq_getElem?]
          simp
        have x1 : dIx (lineD a s n i) (.int (j : Nat)) = some (gl a s i j) := by
          show atI _ _ = _
          rw [atI_nn (by omega), Int.toNat_natCast]
          simp -implicitDefEqProofs [show j < n + 1 by omega]
        have x2 : dIx (lineD a s n i) (.int ((j : Int) + 1)) = some (gl a s i (j + 1)) := by
          show atI _ _ = _
          rw [atI_nn (by omega), show ((j : Int) + 1).toNat = j + 1 by omega]
          simp -implicitDefEqProofs [show j + 1 < n + 1 by omega]
        obtain ⟨bg, nx⟩ := next_ok a (s := s) (by omega) i j
        refine ⟨_, [some (hallD hh), some (.int (s : Int)), some (.list ((List.range (i + 1)).map fun r => lineD a s n r)), some (rowD hh[i]), some (.list ((List.range (j + 1 + 1)).map fun d => gl a s (i + 1) d)), some (.int (j : Nat)), some (.int (a i j)), some (gl a s i j), some (gl a s i (j + 1))], rfl, .inl ?_, _, _, _, _, rfl⟩
        rw [ea]
        have lt : j + 1 < 1000000 := by omega
        have er : (List.range (j + 1 + 1)).map (fun d => gl a s (i + 1) d) = (List.range (j + 1)).map (fun d => gl a s (i + 1) d) ++ [gl a s (i + 1) (j + 1)] := by
          rw [List.range_succ, List.map_append]
          rfl
        rw [er]
        simp -implicitDefEqProofs [last, last2, x1, x2, nx, lt])
    obtain ⟨p5, p6, p7, p8, rfl⟩ := q2
    refine ⟨p5, p6, p7, p8, ?_⟩
    rw [q1, enumD_len, List.length_map, hrow.1]
    rfl
theorem shapes_ok {hh : List (List Int)} {n : Nat} (h : Hall hh n) : ∃ bg, F_shapes [hallD hh] = .ok (.list ((List.range (hh.length + 1)).map fun r => lineD (aH hh) (sz hh n) n r)) bg := by
  obtain ⟨r0, k2, l0⟩ := ix0 h
  have h8 := h.h8
  have n8 := h.n8
  have hs : sz hh n ≤ 1000 := by unfold sz; split <;> omega
  have k4 := lenH hh
  have k5 : gLen [rowD r0] = some (.int (n : Nat)) := by rw [lenR, l0]
  have m0 := mul0 hs
  have esz' := sz_int hh n
  have k6 := first_ok h (aH hh) hs
  have inner := inner_ok h rfl hs
  generalize aH hh = a at *
  generalize sz hh n = s at *
  obtain ⟨en', q1, q2⟩ := sFor_inv (ev := evI itemsD (eV 0)) (g := gN 3) (body := (sSeq (sSet 4 (eLst (eCons (e2 dMul (eLst (eCons (eC (.int 0)) (eNil))) (eV 1)) (eNil)))) (sSeq (sFor (evA gEn (eCons (eV 3) (eNil))) (gT (gsC (gN 5) (gsC (gN 6) (gsN)))) (sSeq (sPar 7 8 (e2 dIx (eIxV 2 (e1 dNeg (eC (.int 1)))) (eV 5)) (e2 dIx (eIxV 2 (e1 dNeg (eC (.int 1)))) (e2 dAdd (eV 5) (eC (.int 1))))) (sApp 4 (eCall F_next_shape (eCons (eV 7) (eCons (eV 8) (eCons (eIxV 4 (e1 dNeg (eC (.int 1)))) (eCons (eV 6) (eNil))))))))) (sApp 2 (eV 4)))))
    (ds := hh.map rowD) (en := [some (hallD hh), some (.int (s : Int)), some (.list [lineD a s n 0]), none, none, none, none, none, none]) (en1 := [some (hallD hh), some (.int (s : Int)), some (.list [lineD a s n 0]), none, none, none, none, none, none]) rfl
    (fun i en => ∃ p3 p4 p5 p6 p7 p8, en = [some (hallD hh), some (.int (s : Int)), some (.list ((List.range (i + 1)).map fun r => lineD a s n r)), p3, p4, p5, p6, p7, p8]) ⟨none, none, none, none, none, none, rfl⟩ (fun i dd en hd hi => by
      obtain ⟨p3, p4, p5, p6, p7, p8, rfl⟩ := hi
      have hl : i < hh.length := by
        have := (List.getElem?_eq_some_iff.mp hd).1
        rw [List.length_map] at this
        exact this
      have ed : dd = rowD hh[i] := by
        rw [List.getElem?_map, List.getElem?_eq_getElem hl] at hd
        exact (Option.some.inj hd).symm
      subst ed
      obtain ⟨o5, o6, o7, o8, q⟩ := inner i hl p7 p8 p5 p6
      refine ⟨_, [some (hallD hh), some (.int (s : Int)), some (.list ((List.range (i + 1 + 1)).map fun r => lineD a s n r)), some (rowD hh[i]), some (lineD a s n (i + 1)), o5, o6, o7, o8], rfl, .inl ?_, _, _, _, _, _, _, rfl⟩
      have lt : i + 1 < 1000000 := by omega
      have er : (List.range (i + 1 + 1)).map (fun r => lineD a s n r) = (List.range (i + 1)).map (fun r => lineD a s n r) ++ [lineD a s n (i + 1)] := by
        rw [List.range_succ, List.map_append]
        rfl
      rw [er]
      simp -implicitDefEqProofs [m0, q, lt])
  obtain ⟨p3, p4, p5, p6, p7, p8, rfl⟩ := q2
  rw [List.length_map] at q1
  refine ⟨hallD hh, ?_⟩
  simp -implicitDefEqProofs [F_shapes, ev_shapes, en0, k2, k4, k5, esz', k6, q1, bagOf]
end K27
end VS

/-! P3_k27 -/
namespace VS
open PySem L2
namespace K27
open Shp
theorem sum_list (l : List Int) : gSum [.list (l.map PyData.int)] = some (.int l.sum) := by
  unfold gSum
  simp only [ints_map, Option.map_some]
theorem sum_tup (l : List Int) : gSum [.tuple (l.map PyData.int)] = some (.int l.sum) := by
  unfold gSum
  simp only [ints_map, Option.map_some]
theorem take_gl (a : Nat → Nat → Int) {s m : Nat} (r d : Nat) (h : m ≤ s) : dSl (gl a s r d) none (some (m : Int)) = some (.list (((List.range m).map fun i => G a r d i).map PyData.int)) := by
  show some (PyData.list (cutD _ none (some (m : Int)))) = _
  rw [cut_take (by omega), Int.toNat_natCast]
  congr 2
  apply List.ext_getElem?
  intro i
  by_cases hi : i < m
  · rw [List.getElem?_take_of_lt hi]
    simp [hi, show i < s by omega]
  · rw [List.getElem?_eq_none (by simp; omega), List.getElem?_eq_none (by simp; omega)]
theorem covered_ok {hh : List (List Int)} {n : Nat} (h : Hall hh n) {m c : Nat} (m1 : m ≤ hh.length) (m2 : m ≤ n) (c1 : c ≤ n) : ∃ bg, F_covered [hallD hh, .int (m : Int), .int (c : Int)] = .ok (.int (SG (aH hh) hh.length c m)) bg := by
  obtain ⟨bg, sh⟩ := shapes_ok h
  have ask := ask_ok h (m := (m : Int)) (c := (c : Int)) (by omega) (by omega) (by omega) (by omega) (by omega)
  have hm : m ≤ sz hh n := by unfold sz; split <;> omega
  have last : atI ((List.range (hh.length + 1)).map fun r => lineD (aH hh) (sz hh n) n r) (-1) = some (lineD (aH hh) (sz hh n) n hh.length) := by
    rw [atI_m1, List.getLast?_eq_getElem?]
    simp
  have x1 : dIx (lineD (aH hh) (sz hh n) n hh.length) (.int (c : Int)) = some (gl (aH hh) (sz hh n) hh.length c) := by
    show atI _ _ = _
    rw [atI_nn (by omega), Int.toNat_natCast]
    simp [show c < n + 1 by omega]
  have tk := take_gl (aH hh) hh.length c hm
  have sm := sum_list ((List.range m).map fun i => G (aH hh) hh.length c i)
  refine ⟨hallD hh, ?_⟩
  simp -implicitDefEqProofs [F_covered, ev_covered, en0, ask, sh, last, x1, tk, sm, bagOf, -List.map_map]
  rfl
/-! the bag -/
def bagD (b0 b1 b2 : Int) : PyData := .list [.int b0, .int b1, .int b2]
def Bg (k : Nat) (b0 b1 b2 : Int) : Prop := 0 ≤ b0 ∧ 0 ≤ b1 ∧ b1 < 10 ^ 60 ∧ 0 ≤ b2 ∧ b2 ≤ k
theorem ixb0 (b0 b1 b2 : Int) : atI [PyData.int b0, .int b1, .int b2] 0 = some (.int b0) := rfl
theorem ixb1 (b0 b1 b2 : Int) : atI [PyData.int b0, .int b1, .int b2] 1 = some (.int b1) := rfl
theorem ixb2 (b0 b1 b2 : Int) : atI [PyData.int b0, .int b1, .int b2] 2 = some (.int b2) := rfl
theorem ixN0 : ixN 3 0 = some 0 := rfl
theorem ixN2 : ixN 3 2 = some 2 := rfl
theorem take_ok {k : Nat} {b0 b1 b2 z : Int} (h : Bg k b0 b1 b2) (hk : k ≤ 10000) (z0 : 0 < z) (z1 : z < 10 ^ 30) : ∃ v c0 c2, F__law_take [bagD b0 b1 b2, .int z] = .ok (.int v) (bagD c0 b1 c2) ∧ 0 ≤ v ∧ v < z ∧ Bg (k + 1) c0 b1 c2 := by
  obtain ⟨h0, h1, h1', h2, h2'⟩ := h
  by_cases c : b0 > 1
  · refine ⟨b0 % z, b0 / z, b2, ?_, Int.emod_nonneg _ (by omega), Int.emod_lt_of_pos _ z0, Int.ediv_nonneg h0 (by omega), h1, h1', h2, by omega⟩
    have c' : 1 < b0 := c
    have q1 : dMod (.int b0) (.int z) = some (.int (b0 % z)) := by
      show (if 0 < z then _ else _) = _
      rw [if_pos z0]
    have q2 : dDiv (.int b0) (.int z) = some (.int (b0 / z)) := by
      show (if 0 < z ∧ z < 2 ^ 200 then _ else _) = _
      rw [if_pos ⟨z0, by omega⟩]
    simp -implicitDefEqProofs [F__law_take, ev__law_take, en0, bagD, ixb0, c', q1, q2, ixN0, bagOf, -d_mod, -d_div]
  · have c' : ¬ 1 < b0 := c
    generalize hX : b1 + 1299827 * (b2 + 1) = X
    have q0 : dMul (.int 1299827) (.int (b2 + 1)) = some (.int (1299827 * (b2 + 1))) := mul_ok (by decide)
    have q1 : dPow (.int X) (.int 3) = some (.int (X ^ 3)) := pow_ok (by decide) (by decide) (by omega)
    generalize hM1 : X ^ 3 % 162259276829213363391578010288127 = M1
    have b1' : 0 ≤ M1 ∧ M1 < 162259276829213363391578010288127 := by
      rw [← hM1]
      exact ⟨Int.emod_nonneg _ (by decide), Int.emod_lt_of_pos _ (by decide)⟩
    have q2 : dMod (.int (X ^ 3)) (.int 162259276829213363391578010288127) = some (.int M1) := by
      rw [mod_ok (by decide), hM1]
    have q3 : dMul (.int 15485917) (.int (b2 + 1)) = some (.int (15485917 * (b2 + 1))) := mul_ok (by decide)
    generalize hY : M1 + 15485917 * (b2 + 1) = Y
    have q4 : dPow (.int Y) (.int 5) = some (.int (Y ^ 5)) := pow_ok (by decide) (by decide) (by omega)
    generalize hM2 : Y ^ 5 % 618970019642690137449562111 = M2
    have q5 : dMod (.int (Y ^ 5)) (.int 618970019642690137449562111) = some (.int M2) := by
      rw [mod_ok (by decide), hM2]
    have q6 : dDiv (.int M2) (.int 1048576) = some (.int (M2 / 1048576)) := div_ok (by decide) (by decide)
    have q7 : dMod (.int (M2 / 1048576)) (.int z) = some (.int (M2 / 1048576 % z)) := mod_ok z0
    refine ⟨M2 / 1048576 % z, b0, b2 + 1, ?_, Int.emod_nonneg _ (by omega), Int.emod_lt_of_pos _ z0, h0, h1, h1', by omega, by omega⟩
    simp -implicitDefEqProofs [F__law_take, ev__law_take, en0, bagD, ixb0, ixb1, ixb2, c', q0, hX, q1, q2, q3, hY, q4, q5, q6, q7, ixN0, ixN2, bagOf, -d_mod, -d_div, -d_mul, -d_pow]
end K27
end VS

/-! P4_k27 -/
namespace VS
open PySem L2
namespace K27
open Shp
theorem rows_of {P : List Int → Prop} : ∀ {ys : List PyData}, (∀ (i : Nat) (y : PyData), ys[i]? = some y → ∃ r, y = rowD r ∧ P r) → ∃ hh : List (List Int), ys = hh.map rowD ∧ ∀ r ∈ hh, P r
  | [], _ => ⟨[], rfl, fun r hr => by simp at hr⟩
  | y :: ys, h => by
    obtain ⟨r, rfl, p⟩ := h 0 y rfl
    obtain ⟨hh, rfl, q⟩ := rows_of (P := P) fun i z hz => h (i + 1) z (by simpa using hz)
    refine ⟨r :: hh, rfl, fun s hs => ?_⟩
    rcases List.mem_cons.mp hs with rfl | hs
    · exact p
    · exact q s hs
theorem ints_of {P : Int → Prop} : ∀ {ys : List PyData}, (∀ (i : Nat) (y : PyData), ys[i]? = some y → ∃ r, y = PyData.int r ∧ P r) → ∃ hh : List Int, ys = hh.map PyData.int ∧ ∀ r ∈ hh, P r
  | [], _ => ⟨[], rfl, fun r hr => by simp at hr⟩
  | y :: ys, h => by
    obtain ⟨r, rfl, p⟩ := h 0 y rfl
    obtain ⟨hh, rfl, q⟩ := ints_of (P := P) fun i z hz => h (i + 1) z (by simpa using hz)
    refine ⟨r :: hh, rfl, fun s hs => ?_⟩
    rcases List.mem_cons.mp hs with rfl | hs
    · exact p
    · exact q s hs
/-- the slots of _law_right -/
def E (b st few house by_ grown most e hi wi rows size desk row guest mins : Option PyData) : En := [b, st, few, house, by_, grown, most, e, hi, wi, rows, size, desk, row, guest, mins]
theorem row_draw {st : PyData} {few n : Nat} (hf : 0 < few) (hf2 : few < 1000) (hn : n ≤ 8) {k : Nat} {b0 b1 b2 : Int} (hb : Bg k b0 b1 b2) (hk : k ≤ 1000) (d hi : PyData) :
    ∃ c0 c2 r, eCb gTuple (eCons (eLc [14] (evA gR1 (eCons (eV 9) (eNil))) (gN 14) (eYes) (eCallB F__law_take 0 (eCons (eV 2) (eNil)))) (eNil)) (E (some (bagD b0 b1 b2)) (some st) (some (.int (few : Int))) none none none none none (some hi) (some (.int (n : Int))) none none (some d) none none none) =
      .ok (rowD r) (E (some (bagD c0 b1 c2)) (some st) (some (.int (few : Int))) none none none none none (some hi) (some (.int (n : Int))) none none (some d) none none none) ∧ r.length = n ∧ (∀ x ∈ r, 0 ≤ x ∧ x < few) ∧ Bg (k + n) c0 b1 c2 := by
  obtain ⟨ys, en', q1, q2, q3, c0, c2, hb', q4⟩ := eLc_inv (vs := [14]) (ev := evA gR1 (eCons (eV 9) (eNil))) (g := gN 14) (te := eCallB F__law_take 0 (eCons (eV 2) (eNil))) (ds := rangeL 0 1 n)
    (en := E (some (bagD b0 b1 b2)) (some st) (some (.int (few : Int))) none none none none none (some hi) (some (.int (n : Int))) none none (some d) none none none)
    (en1 := E (some (bagD b0 b1 b2)) (some st) (some (.int (few : Int))) none none none none none (some hi) (some (.int (n : Int))) none none (some d) none none none)
    (fun j en => ∃ c0 c2, Bg (k + j) c0 b1 c2 ∧ en = E (some (bagD c0 b1 c2)) (some st) (some (.int (few : Int))) none none none none none (some hi) (some (.int (n : Int))) none none (some d) none none none)
    (fun _ y => ∃ v : Int, y = .int v ∧ 0 ≤ v ∧ v < few) (by simp -implicitDefEqProofs [E, gR1_ok (show n < 1000000 by omega)]) ⟨b0, b2, hb, rfl⟩ (by rw [rangeL_len]; omega) (fun j dd en hd hj => by
      obtain ⟨c0, c2, hb', rfl⟩ := hj
      have hl : j < n := by
        have := (List.getElem?_eq_some_iff.mp hd).1
        rw [rangeL_len] at this
        exact this
      obtain ⟨v, d0, d2, t1, t2, t3, t4⟩ := take_ok (z := (few : Int)) hb' (by omega) (by omega) (by omega)
      unfold bagD at t1
      refine ⟨_, .int v, E (some (bagD d0 b1 d2)) (some st) (some (.int (few : Int))) none none none none none (some hi) (some (.int (n : Int))) none none (some d) none (some dd) none, rfl, ?_, ⟨d0, d2, t4, rfl⟩, v, rfl, t2, t3⟩
      simp -implicitDefEqProofs [E, bagD, t1])
  obtain ⟨r, rfl, hr⟩ := ints_of q3
  rw [List.length_map, rangeL_len] at q2
  rw [rangeL_len] at hb'
  subst q4
  refine ⟨c0, c2, r, ?_, q2, hr, hb'⟩
  have e : backE (E (some (bagD b0 b1 b2)) (some st) (some (.int (few : Int))) none none none none none (some hi) (some (.int (n : Int))) none none (some d) none none none) (E (some (bagD c0 b1 c2)) (some st) (some (.int (few : Int))) none none none none none (some hi) (some (.int (n : Int))) none none (some d) none none none) [14] =
    E (some (bagD c0 b1 c2)) (some st) (some (.int (few : Int))) none none none none none (some hi) (some (.int (n : Int))) none none (some d) none none none := rfl
  rw [e] at q1
  simp -implicitDefEqProofs [q1, gTuple, rowD]
theorem hall_draw {st : PyData} {few n R : Nat} (hf : 0 < few) (hf2 : few < 1000) (n0 : 0 < n) (hn : n ≤ 8) (R0 : 0 < R) (hR : R ≤ 8) {k : Nat} {b0 b1 b2 : Int} (hb : Bg k b0 b1 b2) (hk : k ≤ 500) :
    ∃ c0 c2 hh, eCb gTuple (eCons (eLc [12] (evA gR1 (eCons (eV 8) (eNil))) (gN 12) (eYes) (eCb gTuple (eCons (eLc [14] (evA gR1 (eCons (eV 9) (eNil))) (gN 14) (eYes) (eCallB F__law_take 0 (eCons (eV 2) (eNil)))) (eNil)))) (eNil)) (E (some (bagD b0 b1 b2)) (some st) (some (.int (few : Int))) none none none none none (some (.int (R : Int))) (some (.int (n : Int))) none none none none none none) =
      .ok (hallD hh) (E (some (bagD c0 b1 c2)) (some st) (some (.int (few : Int))) none none none none none (some (.int (R : Int))) (some (.int (n : Int))) none none none none none none) ∧ Hall hh n ∧ hh.length = R ∧ (∀ r ∈ hh, ∀ x ∈ r, x < few) ∧ Bg (k + 8 * R) c0 b1 c2 := by
  obtain ⟨ys, en', q1, q2, q3, c0, c2, hb', q4⟩ := eLc_inv (vs := [12]) (ev := evA gR1 (eCons (eV 8) (eNil))) (g := gN 12) (te := eCb gTuple (eCons (eLc [14] (evA gR1 (eCons (eV 9) (eNil))) (gN 14) (eYes) (eCallB F__law_take 0 (eCons (eV 2) (eNil)))) (eNil))) (ds := rangeL 0 1 R)
    (en := E (some (bagD b0 b1 b2)) (some st) (some (.int (few : Int))) none none none none none (some (.int (R : Int))) (some (.int (n : Int))) none none none none none none)
    (en1 := E (some (bagD b0 b1 b2)) (some st) (some (.int (few : Int))) none none none none none (some (.int (R : Int))) (some (.int (n : Int))) none none none none none none)
    (fun j en => ∃ c0 c2, Bg (k + 8 * j) c0 b1 c2 ∧ en = E (some (bagD c0 b1 c2)) (some st) (some (.int (few : Int))) none none none none none (some (.int (R : Int))) (some (.int (n : Int))) none none none none none none)
    (fun _ y => ∃ r, y = rowD r ∧ r.length = n ∧ ∀ x ∈ r, 0 ≤ x ∧ x < few) (by simp -implicitDefEqProofs [E, gR1_ok (show R < 1000000 by omega)]) ⟨b0, b2, hb, rfl⟩ (by rw [rangeL_len]; omega) (fun j dd en hd hj => by
      obtain ⟨c0, c2, hb', rfl⟩ := hj
      have hl : j < R := by
        have := (List.getElem?_eq_some_iff.mp hd).1
        rw [rangeL_len] at this
        exact this
      obtain ⟨d0, d2, r, t1, t2, t3, t4⟩ := row_draw (st := st) (d := dd) (hi := .int (R : Int)) hf hf2 hn hb' (by omega)
      refine ⟨_, rowD r, _, rfl, t1, ⟨d0, d2, ?_, rfl⟩, r, rfl, t2, t3⟩
      obtain ⟨u1, u2, u3, u4, u5⟩ := t4
      exact ⟨u1, u2, u3, u4, by omega⟩)
  obtain ⟨hh, rfl, hr⟩ := rows_of q3
  rw [List.length_map, rangeL_len] at q2
  rw [rangeL_len] at hb'
  subst q4
  refine ⟨c0, c2, hh, ?_, ⟨by omega, by omega, n0, hn, fun r h => ⟨(hr r h).1, fun x hx => ((hr r h).2 x hx).1⟩⟩, q2, fun r h x hx => ((hr r h).2 x hx).2, hb'⟩
  have e : backE (E (some (bagD b0 b1 b2)) (some st) (some (.int (few : Int))) none none none none none (some (.int (R : Int))) (some (.int (n : Int))) none none none none none none) (E (some (bagD c0 b1 c2)) (some st) (some (.int (few : Int))) none none none none none (some (.int (R : Int))) (some (.int (n : Int))) none none none none none none) [12] =
    E (some (bagD c0 b1 c2)) (some st) (some (.int (few : Int))) none none none none none (some (.int (R : Int))) (some (.int (n : Int))) none none none none none none := rfl
  rw [e] at q1
  rw [u_cb, u_cons, q1]
  rfl
end K27
end VS

/-! P5_k27 -/
namespace VS
open PySem L2
namespace K27
open Shp
theorem rows_some (hh : List (List Int)) : rows? (hh.map rowD) = some hh := by
  induction hh with
  | nil => rfl
  | cons r hh ih =>
    rw [List.map_cons]
    show rows? (.tuple (r.map PyData.int) :: hh.map rowD) = _
    unfold rows?
    rw [ints_map, ih]
theorem sum_le (r : List Int) (b : Nat) (h : ∀ x ∈ r, x < b) : (r.map Int.toNat).sum ≤ r.length * b := by
  induction r with
  | nil => simp
  | cons x r ih =>
    have h1 := h x List.mem_cons_self
    have h2 := ih fun y hy => h y (List.mem_cons_of_mem _ hy)
    simp only [List.map_cons, List.sum_cons, List.length_cons, Nat.add_mul, Nat.one_mul]
    omega
theorem tot_le (hh : List (List Int)) (n b : Nat) (h : ∀ r ∈ hh, r.length = n ∧ ∀ x ∈ r, x < b) : tot hh ≤ hh.length * (n * b) := by
  induction hh with
  | nil => simp [tot]
  | cons r hh ih =>
    have h1 := h r List.mem_cons_self
    have h2 := ih fun y hy => h y (List.mem_cons_of_mem _ hy)
    have h3 := sum_le r b h1.2
    rw [h1.1] at h3
    unfold tot at h2 ⊢
    simp only [List.map_cons, List.sum_cons, List.length_cons, Nat.add_mul, Nat.one_mul]
    omega
/-- a hall of few minutes -/
structure Few (hh : List (List Int)) (n few : Nat) : Prop where
  hall : Hall hh n
  fw : few ≤ 4
  lt : ∀ r ∈ hh, ∀ x ∈ r, x < few
def lensI (hh : List (List Int)) (e : Nat) : List Int := (shp hh e).map fun r => (r.length : Int)
theorem shape_ok {hh : List (List Int)} {n few : Nat} (h : Few hh n few) (e : Nat) : F__law_shape [hallD hh, .int (e : Int)] = .ok (.list ((lensI hh e).map PyData.int)) .none := by
  have h8 := h.hall.h8
  have n8 := h.hall.n8
  have ht : tot hh < 100000 := by
    have t1 := tot_le hh n few fun r hr => ⟨(h.hall.row r hr).1, h.lt r hr⟩
    have t2 : n * few ≤ 8 * 4 := Nat.mul_le_mul n8 h.fw
    have t3 : hh.length * (n * few) ≤ 8 * (8 * 4) := Nat.mul_le_mul h8 t2
    omega
  have hin : (hh.all fun r => r.all inR) = true := by
    rw [List.all_eq_true]
    intro r hr
    rw [List.all_eq_true]
    intro x hx
    have h1 := (h.hall.row r hr).2 x hx
    have h2 := h.lt r hr x hx
    have := h.fw
    unfold inR
    rw [decide_eq_true (by omega), decide_eq_true (by omega)]
    rfl
  show (match rows? (hh.map rowD) with
    | some hh => if 0 ≤ (e : Int) ∧ (hh.all fun r => r.all inR) = true ∧ tot hh < 100000 then Fv.ok (.list ((shp hh (e : Int).toNat).map fun (r : List Int) => .int (r.length : Int))) .none else .stuck
    | none => .stuck) = _
  rw [rows_some]
  simp only
  rw [if_pos ⟨by omega, hin, ht⟩, Int.toNat_natCast]
  unfold lensI
  rw [List.map_map]
  rfl
theorem take_sum0 : ∀ (l : List Int) (m : Nat), (l.take m).sum = ((List.range m).map fun i => l.getD i 0).sum
  | l, 0 => by simp
  | l, m + 1 => by
    rw [sum_range_succ, ← take_sum0 l m]
    by_cases h : m < l.length
    · rw [List.take_succ_eq_append_getElem h, List.sum_append, List.getD_eq_getElem?_getD, List.getElem?_eq_getElem h]
      simp
    · rw [List.take_of_length_le (by omega), List.take_of_length_le (by omega), List.getD_eq_getElem?_getD, List.getElem?_eq_none (by omega)]
      simp
theorem lens_sum {hh : List (List Int)} {n : Nat} (h : Hall hh n) (e m : Nat) : ((lensI hh e).take m).sum = SG (aH hh) hh.length e m := by
  rw [take_sum0]
  unfold SG
  congr 1
  apply List.map_congr_left
  intro i _
  rw [← len_G hh (fun r hr => (h.row r hr).2) e i]
  unfold lensI
  rw [List.getD_eq_getElem?_getD, List.getD_eq_getElem?_getD, List.getElem?_map]
  cases (shp hh e)[i]? <;> simp
def scaled (c : Int) (hh : List (List Int)) : List (List Int) := hh.map fun r => r.map fun x => c * x
theorem scaled_hall {c : Int} (hc : 0 ≤ c) {hh : List (List Int)} {n : Nat} (h : Hall hh n) : Hall (scaled c hh) n := by
  refine ⟨by unfold scaled; rw [List.length_map]; exact h.h0, by unfold scaled; rw [List.length_map]; exact h.h8, h.n0, h.n8, fun r hr => ?_⟩
  obtain ⟨q, hq, rfl⟩ := List.mem_map.mp hr
  obtain ⟨h1, h2⟩ := h.row q hq
  refine ⟨by rw [List.length_map]; exact h1, fun x hx => ?_⟩
  obtain ⟨y, hy, rfl⟩ := List.mem_map.mp hx
  exact Int.mul_nonneg hc (h2 y hy)
theorem scaled_a (c : Int) (hh : List (List Int)) : aH (scaled c hh) = fun r d => c * aH hh r d := by
  funext r d
  unfold aH scaled
  rw [List.getD_eq_getElem?_getD, List.getD_eq_getElem?_getD, List.getElem?_map, List.getD_eq_getElem?_getD, List.getD_eq_getElem?_getD]
  cases hh[r]? with
  | none => simp
  | some q =>
    simp only [Option.map_some, Option.getD_some]
    rw [List.getElem?_map]
    cases q[d]? with
    | none => simp
    | some x => simp
theorem sum_mul (c : Int) (f : Nat → Int) : ∀ m : Nat, ((List.range m).map fun i => c * f i).sum = c * ((List.range m).map f).sum
  | 0 => by simp
  | m + 1 => by rw [sum_range_succ, sum_range_succ, sum_mul c f m, Int.mul_add]
theorem scaled_SG {c : Int} (hc : 0 ≤ c) (hh : List (List Int)) (r d m : Nat) : SG (aH (scaled c hh)) r d m = c * SG (aH hh) r d m := by
  unfold SG
  rw [scaled_a, ← sum_mul]
  congr 1
  apply List.map_congr_left
  intro i _
  exact G_scale hc r d i
theorem all_sum {hh : List (List Int)} {n e : Nat} (h : Hall hh n) (he : e ≤ n) : SG (aH hh) hh.length e (if n < hh.length then n else hh.length) = (hh.map fun r => (r.take e).sum).sum := by
  have nn : ∀ r d, 0 ≤ aH hh r d := fun r d => by
    unfold aH
    rw [List.getD_eq_getElem?_getD, List.getD_eq_getElem?_getD]
    cases e1 : hh[r]? with
    | none => simp
    | some q =>
      simp only [Option.getD_some]
      cases e2 : q[d]? with
      | none => simp
      | some x => exact (h.row q (List.mem_of_getElem? e1)).2 x (List.mem_of_getElem? e2)
  have h0 := h.h0
  have n0 := h.n0
  have key : SG (aH hh) hh.length e (if n < hh.length then n else hh.length) = Shp.TT (aH hh) hh.length e := by
    by_cases c : n < hh.length
    · rw [if_pos c]
      have := SG_all nn (n - 1) hh.length e (by omega)
      rw [show n - 1 + 1 = n by omega] at this
      exact this
    · rw [if_neg c]
      have := SG_all nn (hh.length - 1) hh.length e (by omega)
      rw [show hh.length - 1 + 1 = hh.length by omega] at this
      exact this
  rw [key]
  unfold Shp.TT
  congr 1
  apply List.ext_getElem?
  intro r
  by_cases hr : r < hh.length
  · rw [List.getElem?_map, List.getElem?_map, List.getElem?_range hr, List.getElem?_eq_getElem hr]
    simp only [Option.map_some]
    congr 1
    rw [take_sum0]
    congr 1
    apply List.map_congr_left
    intro d _
    unfold aH
    have gd : hh.getD r [] = hh[r] := by
      rw [List.getD_eq_getElem?_getD, List.getElem?_eq_getElem hr]
      rfl
    rw [gd]
  · rw [List.getElem?_eq_none (by simp; omega), List.getElem?_eq_none (by simp; omega)]
theorem ne_ok (x : Int) : dNe (.int x) (.int x) = some (.bool false) := by
  unfold dNe eqOk strPair
  simp [SeqAt.shaped, PyData.canLay0, PyData.depth, PyData.eqv]
end K27
end VS

/-! P6_k27 -/
namespace VS
open PySem L2
namespace K27
open Shp
theorem grown_ok {hh : List (List Int)} {n : Nat} (h : Hall hh n) {c : Int} (c0 : -(2 ^ 64) < c ∧ c < 2 ^ 64) (o0 o1 o2 o8 o9 : Option PyData) :
    eCb gTuple (eCons (eLc [13] (evI itemsD (eV 3)) (gN 13) (eYes) (eCb gTuple (eCons (eLc [15] (evI itemsD (eV 13)) (gN 15) (eYes) (e2 dMul (eV 4) (eV 15))) (eNil)))) (eNil)) (E o0 o1 o2 (some (hallD hh)) (some (.int c)) none none none o8 o9 none none none none none none) =
      .ok (hallD (scaled c hh)) (E o0 o1 o2 (some (hallD hh)) (some (.int c)) none none none o8 o9 none none none none none none) := by
  have h8 := h.h8
  have n8 := h.n8
  let fm : PyData → PyData := fun d => match d with
    | .int x => .int (c * x)
    | _ => .none
  let fr : PyData → PyData := fun d => match d with
    | .tuple xs => .tuple (xs.map fm)
    | _ => .none
  have inn : ∀ r ∈ hh, eCb gTuple (eCons (eLc [15] (evI itemsD (eV 13)) (gN 15) (eYes) (e2 dMul (eV 4) (eV 15))) (eNil)) (E o0 o1 o2 (some (hallD hh)) (some (.int c)) none none none o8 o9 none none none (some (rowD r)) none none) = .ok (fr (rowD r)) (E o0 o1 o2 (some (hallD hh)) (some (.int c)) none none none o8 o9 none none none (some (rowD r)) none none) := by
    intro r hr
    have q := eLc_pure (vs := [15]) (ev := evI itemsD (eV 13)) (g := gN 15) (te := e2 dMul (eV 4) (eV 15)) (ds := r.map PyData.int) (en := E o0 o1 o2 (some (hallD hh)) (some (.int c)) none none none o8 o9 none none none (some (rowD r)) none none)
      (en1 := E o0 o1 o2 (some (hallD hh)) (some (.int c)) none none none o8 o9 none none none (some (rowD r)) none none) fm rfl (fun d hd => by
        obtain ⟨x, _, rfl⟩ := List.mem_map.mp hd
        refine ⟨_, rfl, ?_, rfl⟩
        have := mul_ok (i := c) (j := x) c0
        simp -implicitDefEqProofs [E, wipeE, this, -d_mul]
        rfl) (by rw [List.length_map, (h.row r hr).1]; omega)
    rw [u_cb, u_cons, q]
    rfl
  have q := eLc_pure (vs := [13]) (ev := evI itemsD (eV 3)) (g := gN 13) (te := eCb gTuple (eCons (eLc [15] (evI itemsD (eV 13)) (gN 15) (eYes) (e2 dMul (eV 4) (eV 15))) (eNil))) (ds := hh.map rowD) (en := E o0 o1 o2 (some (hallD hh)) (some (.int c)) none none none o8 o9 none none none none none none)
    (en1 := E o0 o1 o2 (some (hallD hh)) (some (.int c)) none none none o8 o9 none none none none none none) fr rfl (fun d hd => by
      obtain ⟨r, hr, rfl⟩ := List.mem_map.mp hd
      exact ⟨_, rfl, inn r hr, rfl⟩) (by rw [List.length_map]; omega)
  rw [u_cb, u_cons, q]
  show R.ok (PyData.tuple ((hh.map rowD).map fr)) _ = _
  unfold hallD scaled
  rw [List.map_map, List.map_map]
  congr 2
  apply List.map_congr_left
  intro r _
  show PyData.tuple ((r.map PyData.int).map fm) = rowD (r.map fun x => c * x)
  unfold rowD
  rw [List.map_map, List.map_map]
  rfl
theorem sl_ints {l : List Int} (j : Nat) : dSl (.list (l.map PyData.int)) none (some (j : Int)) = some (.list ((l.take j).map PyData.int)) := by
  show some (PyData.list (cutD _ none (some (j : Int)))) = _
  rw [cut_take (by omega), Int.toNat_natCast, List.map_take]
theorem sl_row {l : List Int} (j : Nat) : dSl (rowD l) none (some (j : Int)) = some (.tuple ((l.take j).map PyData.int)) := by
  show some (PyData.tuple (cutD _ none (some (j : Int)))) = _
  rw [cut_take (by omega), Int.toNat_natCast, List.map_take]
def mst (hh : List (List Int)) (n : Nat) : Nat := if n < hh.length then n else hh.length
theorem mst_le (hh : List (List Int)) (n : Nat) : mst hh n ≤ hh.length ∧ mst hh n ≤ n := by
  unfold mst
  split <;> omega
/-- what one number of customers asks -/
theorem body_ok {hh : List (List Int)} {n few : Nat} (h : Few hh n few) {c : Int} (c0 : 0 ≤ c) (c1 : c < 2 ^ 64) {e : Nat} (he : e ≤ n) {k : Nat} {b0 b1 b2 : Int} (hb : Bg k b0 b1 b2) (hk : k ≤ 9000) (o1 o2 o8 o9 p10 p11 : Option PyData) :
    ∃ d0 d2 q10 q11, sSeq (sSet 10 (eCall F__law_shape (eCons (eV 3) (eCons (eV 7) (eNil))))) (sSeq (sFor (evA gR1 (eCons (e2 dAdd (eV 6) (eC (.int 1))) (eNil))) (gN 11) (sIf (asB (e2 dNe (eCall F_covered (eCons (eV 3) (eCons (eV 11) (eCons (eV 7) (eNil))))) (eCb gSum (eCons (eSl (eV 10) (pNo) (pYes (eV 11))) (eNil))))) (sRet (eC (.bool false))) (sNil))) (sSeq (sSet 11 (eCallB F__law_take 0 (eCons (e2 dAdd (eV 6) (eC (.int 1))) (eNil)))) (sSeq (sIf (asB (e2 dNe (eCall F_covered (eCons (eV 5) (eCons (eV 11) (eCons (eV 7) (eNil))))) (e2 dMul (eV 4) (eCb gSum (eCons (eSl (eV 10) (pNo) (pYes (eV 11))) (eNil)))))) (sRet (eC (.bool false))) (sNil)) (sIf (asB (e2 dNe (eCall F_covered (eCons (eV 3) (eCons (eV 6) (eCons (eV 7) (eNil))))) (eCb gSum (eCons (eLc [13] (evI itemsD (eV 3)) (gN 13) (eYes) (eCb gSum (eCons (eSl (eV 13) (pNo) (pYes (eV 7))) (eNil)))) (eNil))))) (sRet (eC (.bool false))) (sNil)))))
      (E (some (bagD b0 b1 b2)) o1 o2 (some (hallD hh)) (some (.int c)) (some (hallD (scaled c hh))) (some (.int (mst hh n : Nat))) (some (.int (e : Int))) o8 o9 p10 p11 none none none none) =
      .nx (E (some (bagD d0 b1 d2)) o1 o2 (some (hallD hh)) (some (.int c)) (some (hallD (scaled c hh))) (some (.int (mst hh n : Nat))) (some (.int (e : Int))) o8 o9 q10 q11 none none none none) ∧ Bg (k + 1) d0 b1 d2 := by
  have h8 := h.hall.h8
  have n8 := h.hall.n8
  obtain ⟨ml1, ml2⟩ := mst_le hh n
  generalize hm : mst hh n = M at *
  have sh := shape_ok h e
  -- for size in range(most + 1)
  obtain ⟨en', q1, o11, q2⟩ := sFor_inv (ev := evA gR1 (eCons (e2 dAdd (eV 6) (eC (.int 1))) (eNil))) (g := gN 11) (body := sIf (asB (e2 dNe (eCall F_covered (eCons (eV 3) (eCons (eV 11) (eCons (eV 7) (eNil))))) (eCb gSum (eCons (eSl (eV 10) (pNo) (pYes (eV 11))) (eNil))))) (sRet (eC (.bool false))) (sNil)) (ds := rangeL 0 1 (M + 1))
    (en := E (some (bagD b0 b1 b2)) o1 o2 (some (hallD hh)) (some (.int c)) (some (hallD (scaled c hh))) (some (.int (M : Nat))) (some (.int (e : Int))) o8 o9 (some (.list ((lensI hh e).map PyData.int))) p11 none none none none)
    (en1 := E (some (bagD b0 b1 b2)) o1 o2 (some (hallD hh)) (some (.int c)) (some (hallD (scaled c hh))) (some (.int (M : Nat))) (some (.int (e : Int))) o8 o9 (some (.list ((lensI hh e).map PyData.int))) p11 none none none none)
    (by simp -implicitDefEqProofs [E, gR1_ok1 (show M < 1000000 by omega)])
    (fun j en => ∃ o11, en = E (some (bagD b0 b1 b2)) o1 o2 (some (hallD hh)) (some (.int c)) (some (hallD (scaled c hh))) (some (.int (M : Nat))) (some (.int (e : Int))) o8 o9 (some (.list ((lensI hh e).map PyData.int))) o11 none none none none)
    ⟨p11, rfl⟩ (fun j d en hd hj => by
      obtain ⟨o11, rfl⟩ := hj
      have hl : j < M + 1 := by
        have := (List.getElem?_eq_some_iff.mp hd).1
        rw [rangeL_len] at this
        exact this
      rw [rangeL_get hl] at hd
      cases hd
      obtain ⟨bg, cv⟩ := covered_ok h.hall (m := j) (c := e) (by omega) (by omega) he
      have sl := sl_ints (l := lensI hh e) j
      have sm := sum_list ((lensI hh e).take j)
      rw [lens_sum h.hall e j] at sm
      have z : (0 : Int) + (j : Int) * 1 = (j : Int) := by omega
      rw [z]
      refine ⟨_, E (some (bagD b0 b1 b2)) o1 o2 (some (hallD hh)) (some (.int c)) (some (hallD (scaled c hh))) (some (.int (M : Nat))) (some (.int (e : Int))) o8 o9 (some (.list ((lensI hh e).map PyData.int))) (some (.int (j : Int))) none none none none, rfl, .inl ?_, _, rfl⟩
      simp -implicitDefEqProofs [E, cv, sl, sm, ne_ok, -List.map_take])
  subst q2
  -- size = take
  obtain ⟨v, d0, d2, t1, t2, t3, t4⟩ := take_ok (z := (M : Int) + 1) hb (by omega) (by omega) (by omega)
  obtain ⟨V, rfl⟩ : ∃ V : Nat, v = (V : Int) := ⟨v.toNat, by omega⟩
  unfold bagD at t1
  obtain ⟨bg1, cv1⟩ := covered_ok (scaled_hall c0 h.hall) (m := V) (c := e) (by unfold scaled; rw [List.length_map]; omega) (by omega) he
  have len2 : (scaled c hh).length = hh.length := by unfold scaled; rw [List.length_map]
  rw [scaled_SG c0, len2] at cv1
  have sl1 := sl_ints (l := lensI hh e) V
  have sm1 := sum_list ((lensI hh e).take V)
  rw [lens_sum h.hall e V] at sm1
  have mu := mul_ok (i := c) (j := SG (aH hh) hh.length e V) ⟨by omega, c1⟩
  obtain ⟨bg2, cv2⟩ := covered_ok h.hall (m := M) (c := e) ml1 ml2 he
  have tot2 := all_sum h.hall he
  have hM : (if n < hh.length then n else hh.length) = M := hm
  rw [hM] at tot2
  rw [tot2] at cv2
  let fr : PyData → PyData := fun d => match d with
    | .tuple xs => .int ((((ints? xs).getD []).take e).sum)
    | _ => .none
  have fr_row : ∀ r, fr (rowD r) = .int ((r.take e).sum) := fun r => by
    show PyData.int ((((ints? (r.map PyData.int)).getD []).take e).sum) = _
    rw [ints_map]
    rfl
  have lc := eLc_pure (vs := [13]) (ev := evI itemsD (eV 3)) (g := gN 13) (te := eCb gSum (eCons (eSl (eV 13) (pNo) (pYes (eV 7))) (eNil))) (ds := hh.map rowD)
    (en := E (some (bagD d0 b1 d2)) o1 o2 (some (hallD hh)) (some (.int c)) (some (hallD (scaled c hh))) (some (.int (M : Nat))) (some (.int (e : Int))) o8 o9 (some (.list ((lensI hh e).map PyData.int))) (some (.int (V : Int))) none none none none)
    (en1 := E (some (bagD d0 b1 d2)) o1 o2 (some (hallD hh)) (some (.int c)) (some (hallD (scaled c hh))) (some (.int (M : Nat))) (some (.int (e : Int))) o8 o9 (some (.list ((lensI hh e).map PyData.int))) (some (.int (V : Int))) none none none none) fr rfl (fun d hd => by
      obtain ⟨r, hr, rfl⟩ := List.mem_map.mp hd
      refine ⟨_, rfl, ?_, rfl⟩
      rw [fr_row]
      have s1 := sl_row (l := r) e
      have s2 := sum_tup (r.take e)
      simp -implicitDefEqProofs [E, wipeE, s1, s2, -List.map_take]) (by rw [List.length_map]; omega)
  have el : (hh.map rowD).map fr = (hh.map fun r => (r.take e).sum).map PyData.int := by
    rw [List.map_map, List.map_map]
    apply List.map_congr_left
    intro r _
    exact fr_row r
  rw [el] at lc
  have sm2 := sum_list (hh.map fun r => (r.take e).sum)
  refine ⟨d0, d2, some (.list ((lensI hh e).map PyData.int)), some (.int (V : Int)), ?_, t4⟩
  unfold E bagD at *
  simp -implicitDefEqProofs [sh, q1, t1, cv1, sl1, sm1, mu, ne_ok, cv2, lc, sm2, -List.map_take, -List.map_map, -d_mul]
end K27
end VS

/-! P7_k27 -/
namespace VS
open PySem L2
namespace K27
open Shp
theorem gR2_1 {n : Nat} (h : n < 1000) : gR2 [.int 1, .int ((n : Int) + 1)] = some (rangeL 1 1 n) := by
  have := gR2_ok (i := 1) (j := n + 1) (by omega) (by omega)
  rw [show ((1 : Nat) : Int) = 1 by rfl, show ((n + 1 : Nat) : Int) = (n : Int) + 1 by omega, Nat.add_sub_cancel] at this
  exact this
theorem Bg.up {k k' : Nat} {b0 b1 b2 : Int} (h : Bg k b0 b1 b2) (hk : k ≤ k') : Bg k' b0 b1 b2 := by
  obtain ⟨h0, h1, h2, h3, h4⟩ := h
  exact ⟨h0, h1, h2, h3, by omega⟩
theorem right_ok {b0 b1 : Int} {st : Nat} (hb : Bg 0 b0 b1 0) (s0 : 0 < st) (s8 : st ≤ 8) : ∃ bg, F__law_right [bagD b0 b1 0, .int (st : Int)] = .ok (.bool true) bg := by
  -- high, wide
  obtain ⟨v1, c0, c2, t1, t1a, t1b, hb1⟩ := take_ok (z := (st : Int)) hb (by omega) (by omega) (by omega)
  obtain ⟨v2, d0, d2, t2, t2a, t2b, hb2⟩ := take_ok (z := (st : Int)) hb1 (by omega) (by omega) (by omega)
  obtain ⟨R, hR⟩ : ∃ R : Nat, 1 + v1 = (R : Int) := ⟨(1 + v1).toNat, by omega⟩
  obtain ⟨n, hn⟩ : ∃ n : Nat, 1 + v2 = (n : Int) := ⟨(1 + v2).toNat, by omega⟩
  have S1 : sAsg (eTup (eCons (e2 dAdd (eC (.int 1)) (eCallB F__law_take 0 (eCons (eV 1) (eNil)))) (eCons (e2 dAdd (eC (.int 1)) (eCallB F__law_take 0 (eCons (eV 1) (eNil)))) (eNil)))) (gT (gsC (gN 8) (gsC (gN 9) (gsN))))
      (E (some (bagD b0 b1 0)) (some (.int (st : Int))) none none none none none none none none none none none none none none) =
      .nx (E (some (bagD d0 b1 d2)) (some (.int (st : Int))) none none none none none none (some (.int (R : Int))) (some (.int (n : Int))) none none none none none none) := by
    unfold bagD at t1 t2
    simp -implicitDefEqProofs [E, bagD, t1, t2, hR, hn]
    rfl
  -- few
  obtain ⟨v3, e0, e2', t3, t3a, t3b, hb3⟩ := take_ok (z := (3 : Int)) hb2 (by omega) (by omega) (by omega)
  obtain ⟨few, hf, hf1, hf2⟩ : ∃ few : Nat, atI [PyData.int 2, .int 3, .int 4] v3 = some (.int (few : Int)) ∧ 0 < few ∧ few ≤ 4 := by
    have : v3 = 0 ∨ v3 = 1 ∨ v3 = 2 := by omega
    rcases this with rfl | rfl | rfl
    · exact ⟨2, rfl, by omega, by omega⟩
    · exact ⟨3, rfl, by omega, by omega⟩
    · exact ⟨4, rfl, by omega, by omega⟩
  have S2 : sSet 2 (e2 dIx (eLst (eCons (eC (.int 2)) (eCons (eC (.int 3)) (eCons (eC (.int 4)) (eNil))))) (eCallB F__law_take 0 (eCons (eC (.int 3)) (eNil))))
      (E (some (bagD d0 b1 d2)) (some (.int (st : Int))) none none none none none none (some (.int (R : Int))) (some (.int (n : Int))) none none none none none none) =
      .nx (E (some (bagD e0 b1 e2')) (some (.int (st : Int))) (some (.int (few : Int))) none none none none none (some (.int (R : Int))) (some (.int (n : Int))) none none none none none none) := by
    unfold bagD at t3
    simp -implicitDefEqProofs [E, bagD, t3, hf]
  -- house
  obtain ⟨f0, f2, hh, t4, hall, lenR', ltf, hb4⟩ := hall_draw (st := .int (st : Int)) (few := few) (n := n) (R := R) hf1 (by omega) (by omega) (by omega) (by omega) (by omega) hb3 (by omega)
  have fw : Few hh n few := ⟨hall, hf2, ltf⟩
  have hb4' : Bg 70 f0 b1 f2 := hb4.up (by omega)
  have S3 : sSet 3 (eCb gTuple (eCons (eLc [12] (evA gR1 (eCons (eV 8) (eNil))) (gN 12) (eYes) (eCb gTuple (eCons (eLc [14] (evA gR1 (eCons (eV 9) (eNil))) (gN 14) (eYes) (eCallB F__law_take 0 (eCons (eV 2) (eNil)))) (eNil)))) (eNil)))
      (E (some (bagD e0 b1 e2')) (some (.int (st : Int))) (some (.int (few : Int))) none none none none none (some (.int (R : Int))) (some (.int (n : Int))) none none none none none none) =
      .nx (E (some (bagD f0 b1 f2)) (some (.int (st : Int))) (some (.int (few : Int))) (some (hallD hh)) none none none none (some (.int (R : Int))) (some (.int (n : Int))) none none none none none none) := by
    rw [u_set, t4]
    rfl
  -- by
  obtain ⟨v5, g0, g2, t5, t5a, t5b, hb5⟩ := take_ok (z := (1000000000000 : Int)) hb4' (by omega) (by omega) (by omega)
  have p9 : dPow (.int 10) (.int 9) = some (.int 1000000000) := pow_ok (by decide) (by decide) (by decide)
  have p12 : dPow (.int 10) (.int 12) = some (.int 1000000000000) := pow_ok (by decide) (by decide) (by decide)
  have S4 : sSet 4 (e2 dAdd (e2 dPow (eC (.int 10)) (eC (.int 9))) (eCallB F__law_take 0 (eCons (e2 dPow (eC (.int 10)) (eC (.int 12))) (eNil))))
      (E (some (bagD f0 b1 f2)) (some (.int (st : Int))) (some (.int (few : Int))) (some (hallD hh)) none none none none (some (.int (R : Int))) (some (.int (n : Int))) none none none none none none) =
      .nx (E (some (bagD g0 b1 g2)) (some (.int (st : Int))) (some (.int (few : Int))) (some (hallD hh)) (some (.int (1000000000 + v5))) none none none (some (.int (R : Int))) (some (.int (n : Int))) none none none none none none) := by
    unfold bagD at t5
    simp -implicitDefEqProofs [E, bagD, t5, p9, p12, -d_pow]
  -- grown
  have gr := grown_ok hall (c := 1000000000 + v5) ⟨by omega, by omega⟩ (some (bagD g0 b1 g2)) (some (.int (st : Int))) (some (.int (few : Int))) (some (.int (R : Int))) (some (.int (n : Int)))
  have S5 : sSet 5 (eCb gTuple (eCons (eLc [13] (evI itemsD (eV 3)) (gN 13) (eYes) (eCb gTuple (eCons (eLc [15] (evI itemsD (eV 13)) (gN 15) (eYes) (e2 dMul (eV 4) (eV 15))) (eNil)))) (eNil)))
      (E (some (bagD g0 b1 g2)) (some (.int (st : Int))) (some (.int (few : Int))) (some (hallD hh)) (some (.int (1000000000 + v5))) none none none (some (.int (R : Int))) (some (.int (n : Int))) none none none none none none) =
      .nx (E (some (bagD g0 b1 g2)) (some (.int (st : Int))) (some (.int (few : Int))) (some (hallD hh)) (some (.int (1000000000 + v5))) (some (hallD (scaled (1000000000 + v5) hh))) none none (some (.int (R : Int))) (some (.int (n : Int))) none none none none none none) := by
    rw [u_set, gr]
    rfl
  -- most
  have mn : (if n < R then (n : Int) else (R : Int)) = (mst hh n : Int) := by
    unfold mst
    rw [lenR']
    by_cases c : n < R
    · rw [if_pos c, if_pos c]
    · rw [if_neg c, if_neg c]
  have S6 : sSet 6 (eCb gMin2 (eCons (eV 8) (eCons (eV 9) (eNil))))
      (E (some (bagD g0 b1 g2)) (some (.int (st : Int))) (some (.int (few : Int))) (some (hallD hh)) (some (.int (1000000000 + v5))) (some (hallD (scaled (1000000000 + v5) hh))) none none (some (.int (R : Int))) (some (.int (n : Int))) none none none none none none) =
      .nx (E (some (bagD g0 b1 g2)) (some (.int (st : Int))) (some (.int (few : Int))) (some (hallD hh)) (some (.int (1000000000 + v5))) (some (hallD (scaled (1000000000 + v5) hh))) (some (.int (mst hh n : Nat))) none (some (.int (R : Int))) (some (.int (n : Int))) none none none none none none) := by
    simp -implicitDefEqProofs [E, mn]
  -- the loop
  obtain ⟨en', S7, w0, w2, hbw, o7, o10, o11, rfl⟩ := sFor_inv (ev := evA gR2 (eCons (eC (.int 1)) (eCons (e2 dAdd (eV 9) (eC (.int 1))) (eNil)))) (g := gN 7) (body := sSeq (sSet 10 (eCall F__law_shape (eCons (eV 3) (eCons (eV 7) (eNil))))) (sSeq (sFor (evA gR1 (eCons (e2 dAdd (eV 6) (eC (.int 1))) (eNil))) (gN 11) (sIf (asB (e2 dNe (eCall F_covered (eCons (eV 3) (eCons (eV 11) (eCons (eV 7) (eNil))))) (eCb gSum (eCons (eSl (eV 10) (pNo) (pYes (eV 11))) (eNil))))) (sRet (eC (.bool false))) (sNil))) (sSeq (sSet 11 (eCallB F__law_take 0 (eCons (e2 dAdd (eV 6) (eC (.int 1))) (eNil)))) (sSeq (sIf (asB (e2 dNe (eCall F_covered (eCons (eV 5) (eCons (eV 11) (eCons (eV 7) (eNil))))) (e2 dMul (eV 4) (eCb gSum (eCons (eSl (eV 10) (pNo) (pYes (eV 11))) (eNil)))))) (sRet (eC (.bool false))) (sNil)) (sIf (asB (e2 dNe (eCall F_covered (eCons (eV 3) (eCons (eV 6) (eCons (eV 7) (eNil))))) (eCb gSum (eCons (eLc [13] (evI itemsD (eV 3)) (gN 13) (eYes) (eCb gSum (eCons (eSl (eV 13) (pNo) (pYes (eV 7))) (eNil)))) (eNil))))) (sRet (eC (.bool false))) (sNil))))))
    (ds := rangeL 1 1 n)
    (en := E (some (bagD g0 b1 g2)) (some (.int (st : Int))) (some (.int (few : Int))) (some (hallD hh)) (some (.int (1000000000 + v5))) (some (hallD (scaled (1000000000 + v5) hh))) (some (.int (mst hh n : Nat))) none (some (.int (R : Int))) (some (.int (n : Int))) none none none none none none)
    (en1 := E (some (bagD g0 b1 g2)) (some (.int (st : Int))) (some (.int (few : Int))) (some (hallD hh)) (some (.int (1000000000 + v5))) (some (hallD (scaled (1000000000 + v5) hh))) (some (.int (mst hh n : Nat))) none (some (.int (R : Int))) (some (.int (n : Int))) none none none none none none)
    (by simp -implicitDefEqProofs [E, gR2_1 (show n < 1000 by omega)])
    (fun j en => ∃ w0 w2, Bg (100 + j) w0 b1 w2 ∧ ∃ o7 o10 o11, en = E (some (bagD w0 b1 w2)) (some (.int (st : Int))) (some (.int (few : Int))) (some (hallD hh)) (some (.int (1000000000 + v5))) (some (hallD (scaled (1000000000 + v5) hh))) (some (.int (mst hh n : Nat))) o7 (some (.int (R : Int))) (some (.int (n : Int))) o10 o11 none none none none)
    ⟨g0, g2, hb5.up (by omega), none, none, none, rfl⟩ (fun j d en hd hj => by
      obtain ⟨w0, w2, hbw, o7, o10, o11, rfl⟩ := hj
      have hl : j < n := by
        have := (List.getElem?_eq_some_iff.mp hd).1
        rw [rangeL_len] at this
        exact this
      rw [rangeL_get hl] at hd
      cases hd
      obtain ⟨y0, y2, q10, q11, bo, hby⟩ := body_ok fw (c := 1000000000 + v5) (by omega) (by omega) (e := j + 1) (by omega) hbw (by omega) (some (.int (st : Int))) (some (.int (few : Int))) (some (.int (R : Int))) (some (.int (n : Int))) o10 o11
      have z : (1 : Int) + (j : Int) * 1 = ((j + 1 : Nat) : Int) := by omega
      rw [z]
      exact ⟨_, _, rfl, .inl bo, y0, y2, hby, some (.int ((j + 1 : Nat) : Int)), q10, q11, rfl⟩)
  have S8 : ∀ en, sRet (eC (.bool true)) en = .rt (.bool true) en := fun en => rfl
  have start : en0 16 [bagD b0 b1 0, .int (st : Int)] = E (some (bagD b0 b1 0)) (some (.int (st : Int))) none none none none none none none none none none none none none none := rfl
  refine ⟨bagD w0 b1 w2, ?_⟩
  unfold F__law_right fnEv ev__law_right
  rw [if_pos (show [bagD b0 b1 0, PyData.int (st : Int)].length = 2 from rfl), start]
  simp -implicitDefEqProofs only [u_seq, S1, S2, S3, S4, S5, S6, S7, S8]
  rfl
theorem bag_ok (cell : Int) (k : Nat) (hk : k < 10) : ∃ b0 b1 bg, F__law_bag [.int cell, .int (k : Int)] = .ok (bagD b0 b1 0) bg ∧ Bg 0 b0 b1 0 := by
  have p18 : dPow (.int 10) (.int 18) = some (.int 1000000000000000000) := pow_ok (by decide) (by decide) (by decide)
  have m1 : dMod (.int cell) (.int 162259276829213363391578010288127) = some (.int (cell % 162259276829213363391578010288127)) := mod_ok (by decide)
  have m2 : dMul (.int 4409) (.int ((k : Int) + 1)) = some (.int (4409 * ((k : Int) + 1))) := mul_ok (by decide)
  refine ⟨if cell - 1000000000000000000 > 0 then cell - 1000000000000000000 else 0, cell % 162259276829213363391578010288127 + 4409 * ((k : Int) + 1), .int cell, ?_, ?_⟩
  · unfold F__law_bag fnEv ev__law_bag
    rw [if_pos (show [PyData.int cell, PyData.int (k : Int)].length = 2 from rfl)]
    simp -implicitDefEqProofs [en0, p18, m1, m2, bagOf, bagD, -d_pow, -d_mod, -d_mul]
  · have h1 := Int.emod_nonneg cell (show (162259276829213363391578010288127 : Int) ≠ 0 by decide)
    have h2 := Int.emod_lt_of_pos cell (show (0 : Int) < 162259276829213363391578010288127 by decide)
    refine ⟨by split <;> omega, by omega, by omega, by omega, by omega⟩
theorem cell_ok (ns : List Int) (k : Nat) : ∃ c bg, F__law_cell_at [scrD (ns.map PyData.int), .int (k : Int)] = .ok (.int c) bg := by
  by_cases h : k < ns.length
  · have x : atI (ns.map PyData.int) (k : Int) = some (.int ns[k]) := by
      rw [atI_nn (by omega), Int.toNat_natCast]
      simp [h]
    refine ⟨ns[k], scrD (ns.map PyData.int), ?_⟩
    simp -implicitDefEqProofs [F__law_cell_at, ev__law_cell_at, en0, x, h, bagOf]
  · refine ⟨0, scrD (ns.map PyData.int), ?_⟩
    simp -implicitDefEqProofs [F__law_cell_at, ev__law_cell_at, en0, h, bagOf]
theorem law_true (ns : List Int) (_ : ns.length ≤ 63) : ∃ bg, F_law [scrD (ns.map PyData.int)] = .ok (.bool true) bg := by
  have lc := eLc_pure (vs := [1]) (ev := evA gR1 (eCons (eC (.int 3)) (eNil))) (g := gN 1) (te := eCallBF F__law_right (eCall F__law_bag (eCons (eCall F__law_cell_at (eCons (eV 0) (eCons (eV 1) (eNil)))) (eCons (eV 1) (eNil)))) (eCons (e2 dIx (eLst (eCons (eC (.int 8)) (eCons (eC (.int 4)) (eCons (eC (.int 4)) (eNil))))) (eV 1)) (eNil)))
    (ds := rangeL 0 1 3) (en := [some (scrD (ns.map PyData.int)), none]) (en1 := [some (scrD (ns.map PyData.int)), none]) (fun _ => .bool true) (by
      have := gR1_ok (j := 3) (by omega)
      rw [show ((3 : Nat) : Int) = 3 by rfl] at this
      simp -implicitDefEqProofs [this]) (fun d hd => by
      obtain ⟨k, hk, rfl⟩ : ∃ k : Nat, k < 3 ∧ d = .int (k : Int) := by
        obtain ⟨k, hk, e⟩ := List.getElem_of_mem hd
        rw [rangeL_len] at hk
        have := rangeL_get (lo := 0) (c := 1) hk
        rw [List.getElem?_eq_getElem (by rw [rangeL_len]; exact hk), e] at this
        refine ⟨k, hk, ?_⟩
        rw [Option.some.inj this]
        congr 1
        omega
      obtain ⟨c, bg1, h1⟩ := cell_ok ns k
      obtain ⟨b0, b1, bg2, h2, h3⟩ := bag_ok c k (by omega)
      obtain ⟨st, hs, s0, s8⟩ : ∃ st : Nat, atI [PyData.int 8, .int 4, .int 4] (k : Int) = some (.int (st : Int)) ∧ 0 < st ∧ st ≤ 8 := by
        have : k = 0 ∨ k = 1 ∨ k = 2 := by omega
        rcases this with rfl | rfl | rfl
        · exact ⟨8, rfl, by omega, by omega⟩
        · exact ⟨4, rfl, by omega, by omega⟩
        · exact ⟨4, rfl, by omega, by omega⟩
      obtain ⟨bg3, h4⟩ := right_ok h3 s0 s8
      refine ⟨_, rfl, ?_, rfl⟩
      unfold bagD at h2 h4
      simp -implicitDefEqProofs [wipeE, h1, h2, hs, h4]) (by rw [rangeL_len]; omega)
  have al : gAll [.list ((rangeL 0 1 3).map fun _ => PyData.bool true)] = some (.bool true) := all_true fun d hd => by
    obtain ⟨_, _, rfl⟩ := List.mem_map.mp hd
    rfl
  refine ⟨scrD (ns.map PyData.int), ?_⟩
  simp -implicitDefEqProofs [F_law, ev_law, en0, lc, al, bagOf, -List.map_const', -List.map_const]
end K27
end VS

/-! Fin_k27 -/
namespace VS
open PySem L2
namespace K27
theorem all_mk {l : PySem.W.OpenLaw} {w : World} {K : PySem.W.Frag} {h : Heap} {mg : Str → Option Value} {fa : Addr} (X : K.In h) (G : h.Ns mainGlobals mg) (hfa : mg "law" = some (.ref fa))
    {f0 : Addr} {od0 an0 : Option Addr} {sl0 : Array (Option Value)} {oc0 kV0 dc0 pm0 cd0 ct0 : Value}
    (a0 : PySem.W.nsIn K mainGlobals "_law_take" = some (some (.ref f0))) (l0 : K.lookup f0 = some ⟨oc0, od0, .func (PySem.W.fnOf "_law_take" "_law_take" (defArgs (top 21)) (defBody (top 21)) (defScope (top 21)) .none kV0 dc0 pm0 an0 cd0 ct0), sl0⟩) (c0 : PySem.W.codeIn K cd0 "_law_take" = true) (k0 : PySem.W.keepIn K (.ref f0) = true)
    {f1 : Addr} {od1 an1 : Option Addr} {sl1 : Array (Option Value)} {oc1 kV1 dc1 pm1 cd1 ct1 : Value}
    (a1 : PySem.W.nsIn K mainGlobals "_law_shape" = some (some (.ref f1))) (l1 : K.lookup f1 = some ⟨oc1, od1, .func (PySem.W.fnOf "_law_shape" "_law_shape" (defArgs (top 22)) (defBody (top 22)) (defScope (top 22)) .none kV1 dc1 pm1 an1 cd1 ct1), sl1⟩) (c1 : PySem.W.codeIn K cd1 "_law_shape" = true) (k1 : PySem.W.keepIn K (.ref f1) = true)
    {f2 : Addr} {od2 an2 : Option Addr} {sl2 : Array (Option Value)} {oc2 kV2 dc2 pm2 cd2 ct2 : Value}
    (a2 : PySem.W.nsIn K mainGlobals "is_whole" = some (some (.ref f2))) (l2 : K.lookup f2 = some ⟨oc2, od2, .func (PySem.W.fnOf "is_whole" "is_whole" (defArgs (top 8)) (defBody (top 8)) (defScope (top 8)) .none kV2 dc2 pm2 an2 cd2 ct2), sl2⟩) (c2 : PySem.W.codeIn K cd2 "is_whole" = true) (k2 : PySem.W.keepIn K (.ref f2) = true)
    {f3 : Addr} {od3 an3 : Option Addr} {sl3 : Array (Option Value)} {oc3 kV3 dc3 pm3 cd3 ct3 : Value}
    (a3 : PySem.W.nsIn K mainGlobals "is_amount" = some (some (.ref f3))) (l3 : K.lookup f3 = some ⟨oc3, od3, .func (PySem.W.fnOf "is_amount" "is_amount" (defArgs (top 9)) (defBody (top 9)) (defScope (top 9)) .none kV3 dc3 pm3 an3 cd3 ct3), sl3⟩) (c3 : PySem.W.codeIn K cd3 "is_amount" = true) (k3 : PySem.W.keepIn K (.ref f3) = true)
    {f4 : Addr} {od4 an4 : Option Addr} {sl4 : Array (Option Value)} {oc4 kV4 dc4 pm4 cd4 ct4 : Value}
    (a4 : PySem.W.nsIn K mainGlobals "is_row" = some (some (.ref f4))) (l4 : K.lookup f4 = some ⟨oc4, od4, .func (PySem.W.fnOf "is_row" "is_row" (defArgs (top 10)) (defBody (top 10)) (defScope (top 10)) .none kV4 dc4 pm4 an4 cd4 ct4), sl4⟩) (c4 : PySem.W.codeIn K cd4 "is_row" = true) (k4 : PySem.W.keepIn K (.ref f4) = true)
    {f5 : Addr} {od5 an5 : Option Addr} {sl5 : Array (Option Value)} {oc5 kV5 dc5 pm5 cd5 ct5 : Value}
    (a5 : PySem.W.nsIn K mainGlobals "is_hall" = some (some (.ref f5))) (l5 : K.lookup f5 = some ⟨oc5, od5, .func (PySem.W.fnOf "is_hall" "is_hall" (defArgs (top 11)) (defBody (top 11)) (defScope (top 11)) .none kV5 dc5 pm5 an5 cd5 ct5), sl5⟩) (c5 : PySem.W.codeIn K cd5 "is_hall" = true) (k5 : PySem.W.keepIn K (.ref f5) = true)
    {f6 : Addr} {od6 an6 : Option Addr} {sl6 : Array (Option Value)} {oc6 kV6 dc6 pm6 cd6 ct6 : Value}
    (a6 : PySem.W.nsIn K mainGlobals "need_hall" = some (some (.ref f6))) (l6 : K.lookup f6 = some ⟨oc6, od6, .func (PySem.W.fnOf "need_hall" "need_hall" (defArgs (top 12)) (defBody (top 12)) (defScope (top 12)) .none kV6 dc6 pm6 an6 cd6 ct6), sl6⟩) (c6 : PySem.W.codeIn K cd6 "need_hall" = true) (k6 : PySem.W.keepIn K (.ref f6) = true)
    {f7 : Addr} {od7 an7 : Option Addr} {sl7 : Array (Option Value)} {oc7 kV7 dc7 pm7 cd7 ct7 : Value}
    (a7 : PySem.W.nsIn K mainGlobals "need_asking" = some (some (.ref f7))) (l7 : K.lookup f7 = some ⟨oc7, od7, .func (PySem.W.fnOf "need_asking" "need_asking" (defArgs (top 16)) (defBody (top 16)) (defScope (top 16)) .none kV7 dc7 pm7 an7 cd7 ct7), sl7⟩) (c7 : PySem.W.codeIn K cd7 "need_asking" = true) (k7 : PySem.W.keepIn K (.ref f7) = true)
    {f8 : Addr} {od8 an8 : Option Addr} {sl8 : Array (Option Value)} {oc8 kV8 dc8 pm8 cd8 ct8 : Value}
    (a8 : PySem.W.nsIn K mainGlobals "next_shape" = some (some (.ref f8))) (l8 : K.lookup f8 = some ⟨oc8, od8, .func (PySem.W.fnOf "next_shape" "next_shape" (defArgs (top 14)) (defBody (top 14)) (defScope (top 14)) .none kV8 dc8 pm8 an8 cd8 ct8), sl8⟩) (c8 : PySem.W.codeIn K cd8 "next_shape" = true) (k8 : PySem.W.keepIn K (.ref f8) = true)
    {f9 : Addr} {od9 an9 : Option Addr} {sl9 : Array (Option Value)} {oc9 kV9 dc9 pm9 cd9 ct9 : Value}
    (a9 : PySem.W.nsIn K mainGlobals "shapes" = some (some (.ref f9))) (l9 : K.lookup f9 = some ⟨oc9, od9, .func (PySem.W.fnOf "shapes" "shapes" (defArgs (top 15)) (defBody (top 15)) (defScope (top 15)) .none kV9 dc9 pm9 an9 cd9 ct9), sl9⟩) (c9 : PySem.W.codeIn K cd9 "shapes" = true) (k9 : PySem.W.keepIn K (.ref f9) = true)
    {f10 : Addr} {od10 an10 : Option Addr} {sl10 : Array (Option Value)} {oc10 kV10 dc10 pm10 cd10 ct10 : Value}
    (a10 : PySem.W.nsIn K mainGlobals "covered" = some (some (.ref f10))) (l10 : K.lookup f10 = some ⟨oc10, od10, .func (PySem.W.fnOf "covered" "covered" (defArgs (top 17)) (defBody (top 17)) (defScope (top 17)) .none kV10 dc10 pm10 an10 cd10 ct10), sl10⟩) (c10 : PySem.W.codeIn K cd10 "covered" = true) (k10 : PySem.W.keepIn K (.ref f10) = true)
    {f11 : Addr} {od11 an11 : Option Addr} {sl11 : Array (Option Value)} {oc11 kV11 dc11 pm11 cd11 ct11 : Value}
    (a11 : PySem.W.nsIn K mainGlobals "_law_right" = some (some (.ref f11))) (l11 : K.lookup f11 = some ⟨oc11, od11, .func (PySem.W.fnOf "_law_right" "_law_right" (defArgs (top 23)) (defBody (top 23)) (defScope (top 23)) .none kV11 dc11 pm11 an11 cd11 ct11), sl11⟩) (c11 : PySem.W.codeIn K cd11 "_law_right" = true) (k11 : PySem.W.keepIn K (.ref f11) = true)
    {f12 : Addr} {od12 an12 : Option Addr} {sl12 : Array (Option Value)} {oc12 kV12 dc12 pm12 cd12 ct12 : Value}
    (a12 : PySem.W.nsIn K mainGlobals "_law_bag" = some (some (.ref f12))) (l12 : K.lookup f12 = some ⟨oc12, od12, .func (PySem.W.fnOf "_law_bag" "_law_bag" (defArgs (top 20)) (defBody (top 20)) (defScope (top 20)) .none kV12 dc12 pm12 an12 cd12 ct12), sl12⟩) (c12 : PySem.W.codeIn K cd12 "_law_bag" = true) (k12 : PySem.W.keepIn K (.ref f12) = true)
    {f13 : Addr} {od13 an13 : Option Addr} {sl13 : Array (Option Value)} {oc13 kV13 dc13 pm13 cd13 ct13 : Value}
    (a13 : PySem.W.nsIn K mainGlobals "_law_cell_at" = some (some (.ref f13))) (l13 : K.lookup f13 = some ⟨oc13, od13, .func (PySem.W.fnOf "_law_cell_at" "_law_cell_at" (defArgs (top 19)) (defBody (top 19)) (defScope (top 19)) .none kV13 dc13 pm13 an13 cd13 ct13), sl13⟩) (c13 : PySem.W.codeIn K cd13 "_law_cell_at" = true) (k13 : PySem.W.keepIn K (.ref f13) = true)
    {f14 : Addr} {od14 an14 : Option Addr} {sl14 : Array (Option Value)} {oc14 kV14 dc14 pm14 cd14 ct14 : Value}
    (a14 : PySem.W.nsIn K mainGlobals "law" = some (some (.ref f14))) (l14 : K.lookup f14 = some ⟨oc14, od14, .func (PySem.W.fnOf "law" "law" (defArgs (top 24)) (defBody (top 24)) (defScope (top 24)) .none kV14 dc14 pm14 an14 cd14 ct14), sl14⟩) (c14 : PySem.W.codeIn K cd14 "law" = true) (k14 : PySem.W.keepIn K (.ref f14) = true)
    (z0 : PySem.W.nsIn K mainGlobals "enumerate" = some none)
    (z1 : PySem.W.nsIn K mainGlobals "range" = some none)
    (z2 : PySem.W.nsIn K mainGlobals "len" = some none)
    (z3 : PySem.W.nsIn K mainGlobals "isinstance" = some none)
    (z4 : PySem.W.nsIn K mainGlobals "int" = some none)
    (z5 : PySem.W.nsIn K mainGlobals "bool" = some none)
    (z6 : PySem.W.nsIn K mainGlobals "tuple" = some none)
    (z7 : PySem.W.nsIn K mainGlobals "all" = some none)
    (z8 : PySem.W.nsIn K mainGlobals "min" = some none)
    (z9 : PySem.W.nsIn K mainGlobals "zip" = some none)
    (z10 : PySem.W.nsIn K mainGlobals "max" = some none)
    (z11 : PySem.W.nsIn K mainGlobals "sum" = some none)
    {tk0 : Tok} (q0 : PySem.W.nsIn K mainGlobals "MOST_COUNTERS" = some (some (.int 8 tk0)))
    {tk1 : Tok} (q1 : PySem.W.nsIn K mainGlobals "MOST_CUSTOMERS" = some (some (.int 8 tk1))) :
    ∃ fd : FuncData, (∀ (s : Shared) (v : Value), BindsTo s fd ⟨[v], []⟩ [("script", v)]) ∧ ∀ base : Heap, K.In base → base.Ns mainGlobals mg → FnOk l.prog w K mg base (L2.CX l.prog w) 9 fa fd ["script"] (spLaw K) := by
  have e := hfa.symm.trans (PySem.W.mg_of X G a14)
  cases e
  have y_enumerate := PySem.W.mg_none_of X G z0
  have y_range := PySem.W.mg_none_of X G z1
  have y_len := PySem.W.mg_none_of X G z2
  have y_isinstance := PySem.W.mg_none_of X G z3
  have y_int := PySem.W.mg_none_of X G z4
  have y_bool := PySem.W.mg_none_of X G z5
  have y_tuple := PySem.W.mg_none_of X G z6
  have y_all := PySem.W.mg_none_of X G z7
  have y_min := PySem.W.mg_none_of X G z8
  have y_zip := PySem.W.mg_none_of X G z9
  have y_max := PySem.W.mg_none_of X G z10
  have y_sum := PySem.W.mg_none_of X G z11
  have y_MOST_COUNTERS := PySem.W.mg_of X G q0
  have y_MOST_CUSTOMERS := PySem.W.mg_of X G q1
  refine ⟨(PySem.W.fnOf "law" "law" (defArgs (top 24)) (defBody (top 24)) (defScope (top 24)) .none kV14 dc14 pm14 an14 cd14 ct14), fun s v => .of_eq rfl, fun base _ _ => law_ok (F := F_law) ?_ law_true⟩
  have U0 := fun_mk (st := top 21) l0 c0 k0
  have G__law_take := v__law_take (P := l.prog) (w := w) (base := base) U0 (U0.binds (ps := ["bag", "size"]) fun _ _ _ _ _ _ us hl => match us, hl with | [_, _], _ => rfl) (PySem.W.mg_of X G a0)
  have U1 := fun_mk (st := top 22) l1 c1 k1
  have G__law_shape := v__law_shape (P := l.prog) (w := w) (base := base) U1 (U1.binds (ps := ["house", "end"]) fun _ _ _ _ _ _ us hl => match us, hl with | [_, _], _ => rfl) (PySem.W.mg_of X G a1) y_enumerate y_range y_len
  have U2 := fun_mk (st := top 8) l2 c2 k2
  have G_is_whole := v_is_whole (P := l.prog) (w := w) (base := base) U2 (U2.binds (ps := ["thing"]) fun _ _ _ _ _ _ us hl => match us, hl with | [_], _ => rfl) (PySem.W.mg_of X G a2) y_isinstance y_int y_bool
  have U3 := fun_mk (st := top 9) l3 c3 k3
  have G_is_amount := v_is_amount (P := l.prog) (w := w) (base := base) U3 (U3.binds (ps := ["thing"]) fun _ _ _ _ _ _ us hl => match us, hl with | [_], _ => rfl) (PySem.W.mg_of X G a3) G_is_whole
  have U4 := fun_mk (st := top 10) l4 c4 k4
  have G_is_row := v_is_row (P := l.prog) (w := w) (base := base) U4 (U4.binds (ps := ["thing", "many"]) fun _ _ _ _ _ _ us hl => match us, hl with | [_, _], _ => rfl) (PySem.W.mg_of X G a4) y_isinstance y_tuple y_len y_all G_is_amount
  have U5 := fun_mk (st := top 11) l5 c5 k5
  have G_is_hall := v_is_hall (P := l.prog) (w := w) (base := base) U5 (U5.binds (ps := ["thing"]) fun _ _ _ _ _ _ us hl => match us, hl with | [_], _ => rfl) (PySem.W.mg_of X G a5) y_isinstance y_tuple y_len y_MOST_COUNTERS y_MOST_CUSTOMERS y_all G_is_row
  have U6 := fun_mk (st := top 12) l6 c6 k6
  have G_need_hall := v_need_hall (P := l.prog) (w := w) (base := base) U6 (U6.binds (ps := ["hall"]) fun _ _ _ _ _ _ us hl => match us, hl with | [_], _ => rfl) (PySem.W.mg_of X G a6) G_is_hall
  have U7 := fun_mk (st := top 16) l7 c7 k7
  have G_need_asking := v_need_asking (P := l.prog) (w := w) (base := base) U7 (U7.binds (ps := ["hall", "many", "customers"]) fun _ _ _ _ _ _ us hl => match us, hl with | [_, _, _], _ => rfl) (PySem.W.mg_of X G a7) y_len y_min G_need_hall G_is_amount
  have U8 := fun_mk (st := top 14) l8 c8 k8
  have G_next_shape := v_next_shape (P := l.prog) (w := w) (base := base) U8 (U8.binds (ps := ["ahead", "above", "beside", "minutes"]) fun _ _ _ _ _ _ us hl => match us, hl with | [_, _, _, _], _ => rfl) (PySem.W.mg_of X G a8) y_zip y_enumerate y_max y_min
  have U9 := fun_mk (st := top 15) l9 c9 k9
  have G_shapes := v_shapes (P := l.prog) (w := w) (base := base) U9 (U9.binds (ps := ["hall"]) fun _ _ _ _ _ _ us hl => match us, hl with | [_], _ => rfl) (PySem.W.mg_of X G a9) y_len y_min y_range y_enumerate G_next_shape
  have U10 := fun_mk (st := top 17) l10 c10 k10
  have G_covered := v_covered (P := l.prog) (w := w) (base := base) U10 (U10.binds (ps := ["hall", "many", "customers"]) fun _ _ _ _ _ _ us hl => match us, hl with | [_, _, _], _ => rfl) (PySem.W.mg_of X G a10) y_sum G_need_asking G_shapes
  have U11 := fun_mk (st := top 23) l11 c11 k11
  have G__law_right := v__law_right (P := l.prog) (w := w) (base := base) U11 (U11.binds (ps := ["bag", "size_to"]) fun _ _ _ _ _ _ us hl => match us, hl with | [_, _], _ => rfl) (PySem.W.mg_of X G a11) y_range y_tuple y_min y_sum G__law_take G__law_shape G_covered
  have U12 := fun_mk (st := top 20) l12 c12 k12
  have G__law_bag := v__law_bag (P := l.prog) (w := w) (base := base) U12 (U12.binds (ps := ["cell", "k"]) fun _ _ _ _ _ _ us hl => match us, hl with | [_, _], _ => rfl) (PySem.W.mg_of X G a12) y_max
  have U13 := fun_mk (st := top 19) l13 c13 k13
  have G__law_cell_at := v__law_cell_at (P := l.prog) (w := w) (base := base) U13 (U13.binds (ps := ["script", "k"]) fun _ _ _ _ _ _ us hl => match us, hl with | [_, _], _ => rfl) (PySem.W.mg_of X G a13) y_len
  exact v_law (fun_mk l14 c14 k14) y_range y_all G__law_right G__law_bag G__law_cell_at
end K27
end VS

open PySem PySem.W PyProof.Rows
set_option maxHeartbeats 0 in
theorem PySem.Challenge.cw_movedminutes_k27_covered_by_rows_of_numb_holds : PySem.Challenge.rw_movedminutes_k27_covered_by_rows_of_numb.Holds := by
  w_on; o_law; k_head; (case hw => w_witness2)
  k_fill
  refine L2.walk_of (l := PySem.Challenge.rw_movedminutes_k27_covered_by_rows_of_numb) (n := 63) (k := 9) (x := "script") (CX := fun w => L2.CX PySem.Challenge.rw_movedminutes_k27_covered_by_rows_of_numb.prog w) (sp := fun w => VS.spLaw _) rfl (by decide) rfl ⟨rfl, by decide, by decide⟩ (fun w h Y => PySem.W.kIn_of Y) ?F (fun _ _ a ns hl _ hS => ⟨a, ns, rfl, hS, hl, fun _ => rfl⟩) (fun _ _ _ _ _ h => VS.cx_none h)
  case F =>
    intro w mg fa h KX G hmg
    refine' VS.K27.all_mk KX G hmg ?a0 ?l0 ?c0 ?k0 ?a1 ?l1 ?c1 ?k1 ?a2 ?l2 ?c2 ?k2 ?a3 ?l3 ?c3 ?k3 ?a4 ?l4 ?c4 ?k4 ?a5 ?l5 ?c5 ?k5 ?a6 ?l6 ?c6 ?k6 ?a7 ?l7 ?c7 ?k7 ?a8 ?l8 ?c8 ?k8 ?a9 ?l9 ?c9 ?k9 ?a10 ?l10 ?c10 ?k10 ?a11 ?l11 ?c11 ?k11 ?a12 ?l12 ?c12 ?k12 ?a13 ?l13 ?c13 ?k13 ?a14 ?l14 ?c14 ?k14 ?z0 ?z1 ?z2 ?z3 ?z4 ?z5 ?z6 ?z7 ?z8 ?z9 ?z10 ?z11 ?q0 ?q1
    (case a0 => k_is); (case l0 => k_is); (case c0 => k_is); (case k0 => k_is); (case a1 => k_is); (case l1 => k_is); (case c1 => k_is); (case k1 => k_is); (case a2 => k_is); (case l2 => k_is); (case c2 => k_is); (case k2 => k_is); (case a3 => k_is); (case l3 => k_is); (case c3 => k_is); (case k3 => k_is); (case a4 => k_is); (case l4 => k_is); (case c4 => k_is); (case k4 => k_is); (case a5 => k_is); (case l5 => k_is); (case c5 => k_is); (case k5 => k_is); (case a6 => k_is); (case l6 => k_is); (case c6 => k_is); (case k6 => k_is); (case a7 => k_is); (case l7 => k_is); (case c7 => k_is); (case k7 => k_is); (case a8 => k_is); (case l8 => k_is); (case c8 => k_is); (case k8 => k_is); (case a9 => k_is); (case l9 => k_is); (case c9 => k_is); (case k9 => k_is); (case a10 => k_is); (case l10 => k_is); (case c10 => k_is); (case k10 => k_is); (case a11 => k_is); (case l11 => k_is); (case c11 => k_is); (case k11 => k_is); (case a12 => k_is); (case l12 => k_is); (case c12 => k_is); (case k12 => k_is); (case a13 => k_is); (case l13 => k_is); (case c13 => k_is); (case k13 => k_is); (case a14 => k_is); (case l14 => k_is); (case c14 => k_is); (case k14 => k_is); (case z0 => k_is); (case z1 => k_is); (case z2 => k_is); (case z3 => k_is); (case z4 => k_is); (case z5 => k_is); (case z6 => k_is); (case z7 => k_is); (case z8 => k_is); (case z9 => k_is); (case z10 => k_is); (case z11 => k_is); (case q0 => k_is); (case q1 => k_is)
