import PyProof.Rows.All
import Wide.All
import OpenK.AllK
import Wide.FinOn
import PySem.Challenge.RW_givenonce_k55_whole_certified_led
import PyProof.ReprRoads
import HandS.ForMost
import HandS.IsInst
import HandS.Walk
import HandS.Evl
import HandS.SortInts
import HandS.TupAny
import HandS.TupMul
import HandS.FStr
import HandS.Style
import HandS.Conv
import HandS.Exc
import KE.DatumOrd
import HandS.Dict
import KE.DatumMoreOrd
set_option Elab.async false
set_option linter.all false
set_option maxRecDepth 100000
set_option maxHeartbeats 4000000
namespace DD
open PySem L2
abbrev Ex := Evl.Ex
/-- deep data -/
inductive DV where
  | non | bl (b : Bool) | int (i : Int) | str (s : Str)
  | tup (xs : List DV) | lst (xs : List DV)
  | ins (C : Addr) (fs : List (Str × DV))
  | rd (xs : List DV)
  | raw (v : V)
  /-- an empty dict that stays -/
  | dic
mutual
inductive Rp (K : PySem.W.Frag) (F : Hp) : V → DV → Prop
  | non : Rp K F .non .non
  | bl (b : Bool) : Rp K F (.bl b) (.bl b)
  | int (i : Int) : Rp K F (.int i) (.int i)
  | str (s : Str) : Rp K F (.str s) (.str s)
  | raw (v : V) : Rp K F v (.raw v)
  | tup {a : Addr} {xs : List V} {ds : List DV} (h : SqT K F a xs) (r : RpA K F xs ds) : Rp K F (.ref a) (.tup ds)
  | lst {a : Addr} {xs : List V} {ds : List DV} (h : F a = some (.lst xs)) (r : RpA K F xs ds) : Rp K F (.ref a) (.lst ds)
  | rd {a : Addr} {xs : List V} {ds : List DV} (h : SqL K F a xs) (r : RpA K F xs ds) : Rp K F (.ref a) (.rd ds)
  | ins {a C dx : Addr} {fs : List (Str × V)} {ds : List (Str × DV)} (h : F a = some (.ins C dx fs)) (r : RpF K F fs ds) : Rp K F (.ref a) (.ins C ds)
  | dic {a : Addr} (h : F a = some (.dK [])) : Rp K F (.ref a) .dic
inductive RpA (K : PySem.W.Frag) (F : Hp) : List V → List DV → Prop
  | nil : RpA K F [] []
  | cons {v : V} {vs : List V} {d : DV} {ds : List DV} (h : Rp K F v d) (t : RpA K F vs ds) : RpA K F (v :: vs) (d :: ds)
inductive RpF (K : PySem.W.Frag) (F : Hp) : List (Str × V) → List (Str × DV) → Prop
  | nil : RpF K F [] []
  | cons {x : Str} {v : V} {vs : List (Str × V)} {d : DV} {ds : List (Str × DV)} (h : Rp K F v d) (t : RpF K F vs ds) : RpF K F ((x, v) :: vs) ((x, d) :: ds)
end
section
variable {K : PySem.W.Frag} {F F' : Hp}
mutual
theorem Rp.mono (e : Ex F F') : ∀ {v : V} {d : DV}, Rp K F v d → Rp K F' v d
  | _, _, .non => .non
  | _, _, .bl b => .bl b
  | _, _, .int i => .int i
  | _, _, .str s => .str s
  | _, _, .raw v => .raw v
  | _, _, .tup h r => .tup (Evl.ex_t e h) (RpA.mono e r)
  | _, _, .lst h r => .lst (e _ _ h) (RpA.mono e r)
  | _, _, .rd h r => .rd (Evl.ex_l e h) (RpA.mono e r)
  | _, _, .ins h r => .ins (e _ _ h) (RpF.mono e r)
  | _, _, .dic h => .dic (e _ _ h)
theorem RpA.mono (e : Ex F F') : ∀ {v : List V} {d : List DV}, RpA K F v d → RpA K F' v d
  | _, _, .nil => .nil
  | _, _, .cons h t => .cons (Rp.mono e h) (RpA.mono e t)
theorem RpF.mono (e : Ex F F') : ∀ {v : List (Str × V)} {d : List (Str × DV)}, RpF K F v d → RpF K F' v d
  | _, _, .nil => .nil
  | _, _, .cons h t => .cons (Rp.mono e h) (RpF.mono e t)
end
theorem RpA.length : ∀ {v : List V} {d : List DV}, RpA K F v d → v.length = d.length
  | _, _, .nil => rfl
  | _, _, .cons _ t => by simp [RpA.length t]
theorem RpA.get : ∀ {v : List V} {d : List DV} {i : Nat} {x : DV}, RpA K F v d → d[i]? = some x → ∃ u, v[i]? = some u ∧ Rp K F u x
  | _, _, _, _, .nil, e => by simp at e
  | _, _, 0, _, .cons h _, e => by simp at e; subst e; exact ⟨_, rfl, h⟩
  | _, _, i + 1, x, .cons _ t, e => by
    obtain ⟨u, h1, h2⟩ := RpA.get (i := i) (x := x) t (by simpa using e)
    exact ⟨u, by simpa using h1, h2⟩
theorem RpA.get' : ∀ {v : List V} {d : List DV} {i : Nat} {u : V}, RpA K F v d → v[i]? = some u → ∃ x, d[i]? = some x ∧ Rp K F u x
  | _, _, _, _, .nil, e => by simp at e
  | _, _, 0, _, .cons h _, e => by simp at e; subst e; exact ⟨_, rfl, h⟩
  | _, _, i + 1, x, .cons _ t, e => by
    obtain ⟨u, h1, h2⟩ := RpA.get' (i := i) (u := x) t (by simpa using e)
    exact ⟨u, by simpa using h1, h2⟩
theorem RpA.append : ∀ {v w : List V} {d e : List DV}, RpA K F v d → RpA K F w e → RpA K F (v ++ w) (d ++ e)
  | _, _, _, _, .nil, s => s
  | _, _, _, _, .cons r t, s => .cons r (RpA.append t s)
theorem RpA.take : ∀ {v : List V} {d : List DV} (n : Nat), RpA K F v d → RpA K F (v.take n) (d.take n)
  | _, _, 0, _ => .nil
  | _, _, _ + 1, .nil => .nil
  | _, _, n + 1, .cons r t => .cons r (RpA.take n t)
theorem RpA.drop : ∀ {v : List V} {d : List DV} (n : Nat), RpA K F v d → RpA K F (v.drop n) (d.drop n)
  | _, _, 0, r => r
  | _, _, _ + 1, .nil => .nil
  | _, _, n + 1, .cons _ t => RpA.drop n t
theorem RpA.set {x : V} {y : DV} (r : Rp K F x y) : ∀ {v : List V} {d : List DV} (i : Nat), RpA K F v d → RpA K F (v.set i x) (d.set i y)
  | _, _, _, .nil => .nil
  | _, _, 0, .cons _ t => .cons r t
  | _, _, i + 1, .cons q t => .cons q (RpA.set r i t)
theorem RpA.eraseIdx : ∀ {v : List V} {d : List DV} (i : Nat), RpA K F v d → RpA K F (v.eraseIdx i) (d.eraseIdx i)
  | _, _, _, .nil => .nil
  | _, _, 0, .cons _ t => t
  | _, _, i + 1, .cons q t => .cons q (RpA.eraseIdx i t)
theorem RpA.snoc {x : V} {y : DV} {v : List V} {d : List DV} (h : RpA K F v d) (r : Rp K F x y) : RpA K F (v ++ [x]) (d ++ [y]) := h.append (.cons r .nil)
theorem RpF.lookup {f : Str} : ∀ {v : List (Str × V)} {d : List (Str × DV)} {x : DV}, RpF K F v d → d.lookup f = some x → ∃ u, v.lookup f = some u ∧ Rp K F u x
  | _, _, _, .nil, e => by simp at e
  | (x, v) :: vs, _ :: ds, y, .cons h t, e => by
    by_cases hx : f == x
    · simp [List.lookup, hx] at e ⊢
      subst e
      exact h
    · simp [List.lookup, hx] at e ⊢
      exact RpF.lookup t e
theorem RpF.lookup_none {f : Str} : ∀ {v : List (Str × V)} {d : List (Str × DV)}, RpF K F v d → d.lookup f = none → v.lookup f = none
  | _, _, .nil, _ => rfl
  | (x, v) :: vs, _ :: ds, .cons h t, e => by
    unfold List.lookup at e ⊢
    cases hx : f == x with
    | true => rw [hx] at e; cases e
    | false =>
      rw [hx] at e
      exact RpF.lookup_none t e
theorem RpF.length : ∀ {v : List (Str × V)} {d : List (Str × DV)}, RpF K F v d → v.length = d.length
  | _, _, .nil => rfl
  | _, _, .cons _ t => by simp [RpF.length t]
def putD (f : Str) (v : DV) : List (Str × DV) → List (Str × DV)
  | [] => [(f, v)]
  | (g, w) :: r => if g = f then (g, v) :: r else (g, w) :: putD f v r
theorem RpA.ints (ns : List Int) : RpA K F (ns.map V.int) (ns.map DV.int) := by
  induction ns with
  | nil => exact .nil
  | cons n r ih => exact .cons (.int n) ih
theorem Rp.int_of {v : V} {i : Int} (h : Rp K F v (.int i)) : v = .int i := by cases h; rfl
theorem Rp.bl_of {v : V} {i : Bool} (h : Rp K F v (.bl i)) : v = .bl i := by cases h; rfl
theorem Rp.str_of {v : V} {i : Str} (h : Rp K F v (.str i)) : v = .str i := by cases h; rfl
theorem Rp.non_of {v : V} (h : Rp K F v .non) : v = .non := by cases h; rfl
theorem Rp.raw_of {v w : V} (h : Rp K F v (.raw w)) : v = w := by cases h; rfl
theorem Rp.tup_of {v : V} {ds : List DV} (h : Rp K F v (.tup ds)) : ∃ a xs, v = .ref a ∧ SqT K F a xs ∧ RpA K F xs ds := by cases h with | tup h r => exact ⟨_, _, rfl, h, r⟩
theorem Rp.lst_of {v : V} {ds : List DV} (h : Rp K F v (.lst ds)) : ∃ a xs, v = .ref a ∧ F a = some (.lst xs) ∧ RpA K F xs ds := by cases h with | lst h r => exact ⟨_, _, rfl, h, r⟩
theorem Rp.rd_of {v : V} {ds : List DV} (h : Rp K F v (.rd ds)) : ∃ a xs, v = .ref a ∧ SqL K F a xs ∧ RpA K F xs ds := by cases h with | rd h r => exact ⟨_, _, rfl, h, r⟩
theorem Rp.ins_of {v : V} {C : Addr} {ds : List (Str × DV)} (h : Rp K F v (.ins C ds)) : ∃ a dx fs, v = .ref a ∧ F a = some (.ins C dx fs) ∧ RpF K F fs ds := by cases h with | ins h r => exact ⟨_, _, _, rfl, h, r⟩
theorem RpA.ints_of : ∀ {vs : List V} {ns : List Int}, RpA K F vs (ns.map DV.int) → vs = ns.map V.int
  | _, [], .nil => rfl
  | _, n :: ns, .cons h t => by rw [h.int_of, RpA.ints_of t]; rfl
theorem RpA.bls_of : ∀ {vs : List V} {ns : List Bool}, RpA K F vs (ns.map DV.bl) → vs = ns.map V.bl
  | _, [], .nil => rfl
  | _, n :: ns, .cons h t => by rw [h.bl_of, RpA.bls_of t]; rfl
theorem RpA.strs_of : ∀ {vs : List V} {ns : List Str}, RpA K F vs (ns.map DV.str) → vs = ns.map V.str
  | _, [], .nil => rfl
  | _, n :: ns, .cons h t => by rw [h.str_of, RpA.strs_of t]; rfl
end
/-- what is said of an owned object -/
inductive MO where
  | lst (ds : List DV)
  | lstP (p : List DV → Prop)
  | ins (C : Addr) (fs : List (Str × DV))
  | dK (kvs : List (Key × DV))
  | dT (kvs : List (List Key × DV))
inductive RpK {κ : Type} (K : PySem.W.Frag) (F : Hp) : List (κ × V) → List (κ × DV) → Prop
  | nil : RpK K F [] []
  | cons {k : κ} {v : V} {vs : List (κ × V)} {d : DV} {ds : List (κ × DV)} (h : Rp K F v d) (t : RpK K F vs ds) : RpK K F ((k, v) :: vs) ((k, d) :: ds)
theorem RpK.mono {κ : Type} {K : PySem.W.Frag} {F F' : Hp} (e : Ex F F') : ∀ {v : List (κ × V)} {d : List (κ × DV)}, RpK K F v d → RpK K F' v d
  | _, _, .nil => .nil
  | _, _, .cons h t => .cons (Rp.mono e h) (RpK.mono e t)
def MO.at (K : PySem.W.Frag) (F H : Hp) (a : Addr) : MO → Prop
  | .lst ds => ∃ vs, H a = some (.lst vs) ∧ RpA K F vs ds
  | .lstP p => ∃ vs ds, H a = some (.lst vs) ∧ RpA K F vs ds ∧ p ds
  | .ins C ds => ∃ dx fs, H a = some (.ins C dx fs) ∧ RpF K F fs ds
  | .dK kvs => ∃ ws, H a = some (.dK ws) ∧ RpK K F ws kvs
  | .dT kvs => ∃ ws, H a = some (.dT ws) ∧ RpK K F ws kvs
theorem MO.at.mono {K : PySem.W.Frag} {F F' H H' : Hp} {a : Addr} {o : MO} (e : Ex F F') (eh : H' a = H a) (h : o.at K F H a) : o.at K F' H' a := by
  cases o with
  | lst ds => obtain ⟨vs, h1, h2⟩ := h; exact ⟨vs, by rw [eh]; exact h1, h2.mono e⟩
  | lstP p => obtain ⟨vs, ds, h1, h2, h3⟩ := h; exact ⟨vs, ds, by rw [eh]; exact h1, h2.mono e, h3⟩
  | ins C ds => obtain ⟨dx, fs, h1, h2⟩ := h; exact ⟨dx, fs, by rw [eh]; exact h1, h2.mono e⟩
  | dK kvs => obtain ⟨ws, h1, h2⟩ := h; exact ⟨ws, by rw [eh]; exact h1, h2.mono e⟩
  | dT kvs => obtain ⟨ws, h1, h2⟩ := h; exact ⟨ws, by rw [eh]; exact h1, h2.mono e⟩
theorem MO.at.ex {K : PySem.W.Frag} {F H : Hp} {a : Addr} {o : MO} (h : o.at K F H a) : ∃ u, H a = some u := by
  cases o with
  | lst ds => obtain ⟨vs, h1, h2⟩ := h; exact ⟨_, h1⟩
  | lstP p => obtain ⟨vs, ds, h1, h2, h3⟩ := h; exact ⟨_, h1⟩
  | ins C ds => obtain ⟨dx, fs, h1, h2⟩ := h; exact ⟨_, h1⟩
  | dK kvs => obtain ⟨ws, h1, h2⟩ := h; exact ⟨_, h1⟩
  | dT kvs => obtain ⟨ws, h1, h2⟩ := h; exact ⟨_, h1⟩
abbrev Ms := List (Addr × MO)
/-- F: what stays as it is; M: what is owned and may change -/
structure Wd (K : PySem.W.Frag) (F : Hp) (M : Ms) (H : Hp) : Prop where
  fr : Ex F H
  ce : ∀ a o, (a, o) ∈ M → F a = none ∧ o.at K F H a
  nd : (M.map (·.1)).Nodup
section
variable {K : PySem.W.Frag} {F F' H H' : Hp} {M : Ms} {p a : Addr} {o : HO} {mo mo' : MO}
theorem Wd.fresh (w : Wd K F M H) (hp : H p = none) : F p = none := Evl.fresh_back w.fr hp
theorem Wd.mne (w : Wd K F M H) (hp : H p = none) {o : MO} (h : (a, o) ∈ M) : a ≠ p := by
  obtain ⟨u, hu⟩ := (w.ce a o h).2.ex
  exact ne_of_none hu hp
theorem ex_new (hp : F p = none) : Ex F (upd F p o) := Evl.Ex.new hp
/-- a new object that stays -/
theorem Wd.new (w : Wd K F M H) (hp : H p = none) (o : HO) : Wd K (upd F p o) M (upd H p o) := by
  refine ⟨fun b u hb => ?_, fun b u hb => ?_, w.nd⟩
  · by_cases e : b = p
    · subst e; rw [upd_same] at hb ⊢; exact hb
    · rw [upd_ne e] at hb ⊢; exact w.fr b u hb
  · have hne := w.mne hp hb
    have := w.ce b u hb
    exact ⟨by rw [upd_ne hne]; exact this.1, this.2.mono (ex_new (w.fresh hp)) (upd_ne hne)⟩
/-- a new object that is owned -/
theorem Wd.cell (w : Wd K F M H) (hp : H p = none) {o : HO} (h : mo.at K F (upd H p o) p) : Wd K F ((p, mo) :: M) (upd H p o) := by
  refine ⟨fun b u hb => ?_, fun b u hb => ?_, ?_⟩
  · have e : b ≠ p := ne_of_none hb (w.fresh hp)
    rw [upd_ne e]; exact w.fr b u hb
  · rcases List.mem_cons.mp hb with e | hb
    · cases e; exact ⟨w.fresh hp, h⟩
    · have hne := w.mne hp hb
      have := w.ce b u hb
      exact ⟨this.1, this.2.mono (Evl.Ex.refl F) (upd_ne hne)⟩
  · refine List.nodup_cons.mpr ⟨fun hm => ?_, w.nd⟩
    obtain ⟨q, hq, e⟩ := List.mem_map.mp hm
    exact w.mne hp (a := q.1) (o := q.2) hq e
theorem mem_set_ne {α : Type} {l : List α} {i : Nat} {x y : α} (h : y ∈ l.set i x) : y = x ∨ ∃ j, j ≠ i ∧ l[j]? = some y := by
  obtain ⟨j, hj⟩ := List.mem_iff_getElem?.mp h
  by_cases e : j = i
  · subst e
    rw [List.getElem?_set] at hj
    split at hj
    · split at hj
      · exact .inl (Option.some.inj hj).symm
      · cases hj
    · rename_i hne; exact absurd rfl hne
  · rw [List.getElem?_set_ne (Ne.symm e)] at hj
    exact .inr ⟨j, e, hj⟩
theorem nodup_ix {α : Type} : ∀ {l : List α} {i j : Nat} {x : α}, l.Nodup → l[i]? = some x → l[j]? = some x → i = j
  | [], _, _, _, _, h, _ => by simp at h
  | a :: l, 0, 0, _, _, _, _ => rfl
  | a :: l, 0, j + 1, x, nd, h1, h2 => by
    simp at h1 h2
    subst h1
    exact absurd (List.mem_of_getElem? h2) (List.nodup_cons.mp nd).1
  | a :: l, i + 1, 0, x, nd, h1, h2 => by
    simp at h1 h2
    subst h2
    exact absurd (List.mem_of_getElem? h1) (List.nodup_cons.mp nd).1
  | a :: l, i + 1, j + 1, x, nd, h1, h2 => by
    simp at h1 h2
    rw [nodup_ix (List.nodup_cons.mp nd).2 h1 h2]
/-- an owned object changes -/
theorem Wd.put (w : Wd K F M H) {i : Nat} (hi : M[i]? = some (a, mo)) {o : HO} (h : mo'.at K F (upd H a o) a) : Wd K F (M.set i (a, mo')) (upd H a o) := by
  have ha := w.ce a mo (List.mem_of_getElem? hi)
  have hlt : i < M.length := (List.getElem?_eq_some_iff.mp hi).1
  refine ⟨fun b u hb => ?_, fun b u hb => ?_, ?_⟩
  · have e : b ≠ a := ne_of_none hb ha.1
    rw [upd_ne e]; exact w.fr b u hb
  · rcases mem_set_ne hb with e | ⟨j, hj, hb⟩
    · cases e; exact ⟨ha.1, h⟩
    · have hne : b ≠ a := by
        intro e
        have h1 : (M.map (·.1))[j]? = some b := by rw [List.getElem?_map, hb]; rfl
        have h2 : (M.map (·.1))[i]? = some b := by rw [List.getElem?_map, hi, e]; rfl
        have hjl : j < (M.map (·.1)).length := (List.getElem?_eq_some_iff.mp h1).1
        have hil : i < (M.map (·.1)).length := (List.getElem?_eq_some_iff.mp h2).1
        exact hj (nodup_ix w.nd h1 h2)
      have := w.ce b u (List.mem_of_getElem? hb)
      exact ⟨this.1, this.2.mono (Evl.Ex.refl F) (upd_ne hne)⟩
  · have e : (M.set i (a, mo')).map (·.1) = M.map (·.1) := by
      rw [List.map_set]
      refine List.ext_getElem? fun j => ?_
      rw [List.getElem?_set]
      split
      · rename_i e; subst e
        rw [if_pos (by rw [List.length_map]; exact hlt), List.getElem?_map, hi]; rfl
      · rfl
    rw [e]; exact w.nd
/-- an owned list of which something is said, opened; and closed -/
theorem Wd.op {p : List DV → Prop} (w : Wd K F M H) {i : Nat} (hi : M[i]? = some (a, .lstP p)) : ∃ ds, p ds ∧ Wd K F (M.set i (a, .lst ds)) H := by
  obtain ⟨hn, vs, ds, hv, hr, hp⟩ := w.ce a _ (List.mem_of_getElem? hi)
  refine ⟨ds, hp, ?_⟩
  have e : upd H a (.lst vs) = H := by funext b; unfold upd; split <;> simp_all
  have := w.put hi (mo' := .lst ds) (o := .lst vs) ⟨vs, upd_same, hr⟩
  rw [e] at this; exact this
theorem Wd.cl {p : List DV → Prop} {ds : List DV} (w : Wd K F M H) {i : Nat} (hi : M[i]? = some (a, .lst ds)) (hp : p ds) : Wd K F (M.set i (a, .lstP p)) H := by
  obtain ⟨hn, vs, hv, hr⟩ := w.ce a _ (List.mem_of_getElem? hi)
  have e : upd H a (.lst vs) = H := by funext b; unfold upd; split <;> simp_all
  have := w.put hi (mo' := .lstP p) (o := .lst vs) ⟨vs, ds, upd_same, hr, hp⟩
  rw [e] at this; exact this
theorem Wd.drop {c : Addr × MO} (w : Wd K F (c :: M) H) : Wd K F M H :=
  ⟨w.fr, fun a o h => w.ce a o (List.mem_cons_of_mem _ h), (List.nodup_cons.mp w.nd).2⟩
theorem Wd.dropN {N : Ms} (w : Wd K F (N ++ M) H) : Wd K F M H := by
  induction N with
  | nil => exact w
  | cons c N ih => exact ih w.drop
/-- an owned list stays from now on -/
theorem Wd.freeze {ds : List DV} (w : Wd K F ((a, .lst ds) :: M) H) : ∃ F', Ex F F' ∧ Wd K F' M H ∧ Rp K F' (.ref a) (.lst ds) := by
  obtain ⟨hn, vs, hv, hr⟩ := w.ce a _ List.mem_cons_self
  have e := ex_new (o := .lst vs) hn
  refine ⟨upd F a (.lst vs), e, ⟨fun b u hb => ?_, fun b u hb => ?_, (List.nodup_cons.mp w.nd).2⟩, .lst upd_same (hr.mono e)⟩
  · by_cases eb : b = a
    · subst eb; rw [upd_same] at hb; cases hb; exact hv
    · rw [upd_ne eb] at hb; exact w.fr b u hb
  · have hne : b ≠ a := fun z => (List.nodup_cons.mp w.nd).1 (List.mem_map.mpr ⟨(b, u), hb, z⟩)
    have := w.ce b u (List.mem_cons_of_mem _ hb)
    exact ⟨by rw [upd_ne hne]; exact this.1, this.2.mono e rfl⟩
theorem Wd.perm {M' : Ms} (w : Wd K F M H) (h : M'.Perm M) : Wd K F M' H :=
  ⟨w.fr, fun a o hm => w.ce a o (h.mem_iff.mp hm), (h.map _).nodup_iff.mpr w.nd⟩
end
/-- the slots -/
inductive EnvD (K : PySem.W.Frag) (F : Hp) : St → List (Option DV) → Prop
  | nil : EnvD K F [] []
  | sm {v : V} {d : DV} {σ : St} {ρ : List (Option DV)} (h : Rp K F v d) (t : EnvD K F σ ρ) : EnvD K F (some v :: σ) (some d :: ρ)
  | no {x : Option V} {σ : St} {ρ : List (Option DV)} (t : EnvD K F σ ρ) : EnvD K F (x :: σ) (none :: ρ)
section
variable {K : PySem.W.Frag} {F F' : Hp}
theorem EnvD.mono (e : Ex F F') : ∀ {σ : St} {ρ : List (Option DV)}, EnvD K F σ ρ → EnvD K F' σ ρ
  | _, _, .nil => .nil
  | _, _, .sm h t => .sm (h.mono e) (EnvD.mono e t)
  | _, _, .no t => .no (EnvD.mono e t)
theorem EnvD.get : ∀ {σ : St} {ρ : List (Option DV)} {i : Nat} {d : DV}, EnvD K F σ ρ → ρ[i]? = some (some d) → ∃ v, σ[i]? = some (some v) ∧ Rp K F v d
  | _, _, _, _, .nil, e => by simp at e
  | _, _, 0, _, .sm h _, e => by simp at e; subst e; exact ⟨_, rfl, h⟩
  | _, _, 0, _, .no _, e => by simp at e
  | _, _, i + 1, _, .sm _ t, e => by
    obtain ⟨u, h1, h2⟩ := EnvD.get (i := i) t (by simpa using e)
    exact ⟨u, by simpa using h1, h2⟩
  | _, _, i + 1, _, .no t, e => by
    obtain ⟨u, h1, h2⟩ := EnvD.get (i := i) t (by simpa using e)
    exact ⟨u, by simpa using h1, h2⟩
theorem EnvD.set {v : V} {d : DV} (r : Rp K F v d) : ∀ {σ : St} {ρ : List (Option DV)} (i : Nat), EnvD K F σ ρ → EnvD K F (σ.set i (some v)) (ρ.set i (some d))
  | _, _, _, .nil => .nil
  | _, _, 0, .sm _ t => .sm r t
  | _, _, 0, .no t => .sm r t
  | _, _, i + 1, .sm h t => .sm h (EnvD.set r i t)
  | _, _, i + 1, .no t => .no (EnvD.set r i t)
theorem EnvD.unset : ∀ {σ : St} {ρ : List (Option DV)} (i : Nat), EnvD K F σ ρ → EnvD K F (σ.set i Option.none) (ρ.set i Option.none)
  | _, _, _, .nil => .nil
  | _, _, 0, .sm _ t => .no t
  | _, _, 0, .no t => .no t
  | _, _, i + 1, .sm h t => .sm h (EnvD.unset i t)
  | _, _, i + 1, .no t => .no (EnvD.unset i t)
def wipeD (ρ : List (Option DV)) : List Nat → List (Option DV)
  | [] => ρ
  | v :: vs => (wipeD ρ vs).set v Option.none
theorem EnvD.wipe {σ : St} {ρ : List (Option DV)} (h : EnvD K F σ ρ) : ∀ vs : List Nat, EnvD K F (wipe σ vs) (wipeD ρ vs)
  | [] => h
  | v :: vs => EnvD.unset v (EnvD.wipe h vs)
theorem EnvD.start : ∀ {vs : List V} {ds : List DV} (h : RpA K F vs ds) (n : Nat), EnvD K F (vs.map Option.some ++ List.replicate n Option.none) (ds.map Option.some ++ List.replicate n Option.none)
  | _, _, .nil, 0 => .nil
  | _, _, .nil, n + 1 => .no (EnvD.start .nil n)
  | _, _, .cons h t, n => .sm h (EnvD.start t n)
end
structure Sn (K : PySem.W.Frag) (F : Hp) (M : Ms) (ρ : List (Option DV)) (σ : St) (H : Hp) : Prop where
  w : Wd K F M H
  e : EnvD K F σ ρ
end DD

set_option Elab.async false
set_option linter.all false
set_option maxRecDepth 100000
set_option maxHeartbeats 4000000
namespace DD
open PySem L2
abbrev Rho := List (Option DV)
section
variable (K : PySem.W.Frag)
/-- te comes to some d, leaving M', of which R holds -/
def EvR (te : TE) (ρ : Rho) (M : Ms) (R : DV → Ms → Prop) : Prop := ∀ (N : Ms) (F : Hp) (σ : St) (H : Hp), Sn K F (N ++ M) ρ σ H → ∀ Q : VK, (∀ v d M' F' H', Ex F F' → R d M' → Wd K F' (N ++ M') H' → Rp K F' v d → Q v H') → te σ H Q
def Ev (te : TE) (ρ : Rho) (M : Ms) (d : DV) : Prop := EvR K te ρ M fun d' M' => d' = d ∧ M' = M
def EvTR (tt : TT) (ρ : Rho) (M : Ms) (R : Bool → Ms → Prop) : Prop := ∀ (N : Ms) (F : Hp) (σ : St) (H : Hp), Sn K F (N ++ M) ρ σ H → ∀ Q : Bool → Hp → Prop, (∀ b M' F' H', Ex F F' → R b M' → Wd K F' (N ++ M') H' → Q b H') → tt σ H Q
def EvT (tt : TT) (ρ : Rho) (M : Ms) (b : Bool) : Prop := EvTR K tt ρ M fun b' M' => b' = b ∧ M' = M
def EvAR (ta : TA) (ρ : Rho) (M : Ms) (R : List DV → Ms → Prop) : Prop := ∀ (N : Ms) (F : Hp) (σ : St) (H : Hp), Sn K F (N ++ M) ρ σ H → ∀ Q : List V → Hp → Prop, (∀ vs ds M' F' H', Ex F F' → R ds M' → Wd K F' (N ++ M') H' → RpA K F' vs ds → Q vs H') → ta σ H Q
def EvA (ta : TA) (ρ : Rho) (M : Ms) (ds : List DV) : Prop := EvAR K ta ρ M fun d' M' => d' = ds ∧ M' = M
/-- a two-place operation on values -/
def RVR (r : R2) (x y : DV) (M : Ms) (R : DV → Ms → Prop) : Prop := ∀ (N : Ms) (F : Hp) (u v : V) (H : Hp), Wd K F (N ++ M) H → Rp K F u x → Rp K F v y → ∀ Q : VK, (∀ v d M' F' H', Ex F F' → R d M' → Wd K F' (N ++ M') H' → Rp K F' v d → Q v H') → r u v H Q
def RV (r : R2) (x y : DV) (M : Ms) (z : DV) : Prop := RVR K r x y M fun d' M' => d' = z ∧ M' = M
def RUR (r : V → Hp → VK → Prop) (x : DV) (M : Ms) (R : DV → Ms → Prop) : Prop := ∀ (N : Ms) (F : Hp) (u : V) (H : Hp), Wd K F (N ++ M) H → Rp K F u x → ∀ Q : VK, (∀ v d M' F' H', Ex F F' → R d M' → Wd K F' (N ++ M') H' → Rp K F' v d → Q v H') → r u H Q
def RU (r : V → Hp → VK → Prop) (x : DV) (M : Ms) (z : DV) : Prop := RUR K r x M fun d' M' => d' = z ∧ M' = M
/-- a call on values -/
def RCR (r : List V → Hp → VK → Prop) (xs : List DV) (M : Ms) (R : DV → Ms → Prop) : Prop := ∀ (N : Ms) (F : Hp) (us : List V) (H : Hp), Wd K F (N ++ M) H → RpA K F us xs → ∀ Q : VK, (∀ v d M' F' H', Ex F F' → R d M' → Wd K F' (N ++ M') H' → Rp K F' v d → Q v H') → r us H Q
def RC (r : List V → Hp → VK → Prop) (xs : List DV) (M : Ms) (z : DV) : Prop := RCR K r xs M fun d' M' => d' = z ∧ M' = M
/-- a method of a built-in type on values -/
def RMR (r : V → List V → Hp → VK → Prop) (x : DV) (xs : List DV) (M : Ms) (R : DV → Ms → Prop) : Prop := ∀ (N : Ms) (F : Hp) (u : V) (us : List V) (H : Hp), Wd K F (N ++ M) H → Rp K F u x → RpA K F us xs → ∀ Q : VK, (∀ v d M' F' H', Ex F F' → R d M' → Wd K F' (N ++ M') H' → Rp K F' v d → Q v H') → r u us H Q
end
section
variable {K : PySem.W.Frag} {ρ : Rho} {M M' : Ms} {ta tb tc te : TE} {t u : TT} {x y z d : DV} {r : R2} {R R' : DV → Ms → Prop}
theorem Ev.go (h : Ev K te ρ M d) (hr : R d M) : EvR K te ρ M R := fun N F σ H S Q q => h N F σ H S Q fun v d' M' F' H' e ⟨h1, h2⟩ w r => by
  subst h1 h2; exact q v _ _ F' H' e hr w r
theorem EvR.mono (h : EvR K te ρ M R) (k : ∀ d M', R d M' → R' d M') : EvR K te ρ M R' := fun N F σ H S Q q => h N F σ H S Q fun v d' M' F' H' e hr w r => q v d' M' F' H' e (k _ _ hr) w r
theorem EvT.go {b : Bool} {RB : Bool → Ms → Prop} (h : EvT K t ρ M b) (hr : RB b M) : EvTR K t ρ M RB := fun N F σ H S Q q => h N F σ H S Q fun d' M' F' H' e ⟨h1, h2⟩ w => by
  subst h1 h2; exact q _ _ F' H' e hr w
theorem EvA.go {ta : TA} {ds : List DV} {RA : List DV → Ms → Prop} (h : EvA K ta ρ M ds) (hr : RA ds M) : EvAR K ta ρ M RA := fun N F σ H S Q q => h N F σ H S Q fun v d' M' F' H' e ⟨h1, h2⟩ w r => by
  subst h1 h2; exact q v _ _ F' H' e hr w r
theorem RV.go (h : RV K r x y M z) (hr : R z M) : RVR K r x y M R := fun N F u v H w0 k1 k2 Q q => h N F u v H w0 k1 k2 Q fun v d' M' F' H' e ⟨h1, h2⟩ w r => by
  subst h1 h2; exact q v _ _ F' H' e hr w r
theorem RC.go {r : List V → Hp → VK → Prop} {xs : List DV} (h : RC K r xs M z) (hr : R z M) : RCR K r xs M R := fun N F u H w0 k1 Q q => h N F u H w0 k1 Q fun v d' M' F' H' e ⟨h1, h2⟩ w r => by
  subst h1 h2; exact q v _ _ F' H' e hr w r
theorem Ev.is (h : Ev K te ρ M d) {d' : DV} (e : d = d') : Ev K te ρ M d' := e ▸ h
theorem EvT.is {b b' : Bool} (h : EvT K t ρ M b) (e : b = b') : EvT K t ρ M b' := e ▸ h
/-! ### leaves -/
theorem ev_var {i : Nat} (h : ρ[i]? = some (some d)) : Ev K (tVar i) ρ M d := fun N F σ H S Q q => by
  obtain ⟨v, h1, h2⟩ := S.e.get h
  exact ⟨v, h1, q v d M F H (Evl.Ex.refl F) ⟨rfl, rfl⟩ S.w h2⟩
theorem ev_cI {i : Int} : Ev K (tC (.int i)) ρ M (.int i) := fun N F σ H S Q q => q _ _ M F H (Evl.Ex.refl F) ⟨rfl, rfl⟩ S.w (.int i)
theorem ev_cB {i : Bool} : Ev K (tC (.bl i)) ρ M (.bl i) := fun N F σ H S Q q => q _ _ M F H (Evl.Ex.refl F) ⟨rfl, rfl⟩ S.w (.bl i)
theorem ev_cN : Ev K (tC .non) ρ M .non := fun N F σ H S Q q => q _ _ M F H (Evl.Ex.refl F) ⟨rfl, rfl⟩ S.w .non
theorem ev_cS {i : Str} : Ev K (tC (.str i)) ρ M (.str i) := fun N F σ H S Q q => q _ _ M F H (Evl.Ex.refl F) ⟨rfl, rfl⟩ S.w (.str i)
theorem ev_cT {n : String} : Ev K (tC (.ty n)) ρ M (.raw (.ty n)) := fun N F σ H S Q q => q _ _ M F H (Evl.Ex.refl F) ⟨rfl, rfl⟩ S.w (.raw _)
theorem ev_cR {a : Addr} : Ev K (tC (.ref a)) ρ M (.raw (.ref a)) := fun N F σ H S Q q => q _ _ M F H (Evl.Ex.refl F) ⟨rfl, rfl⟩ S.w (.raw _)
/-! ### arguments -/
theorem ea_nil : EvA K tNil ρ M [] := fun N F σ H S Q q => q [] [] M F H (Evl.Ex.refl F) ⟨rfl, rfl⟩ S.w .nil
theorem ear_nil {RA : List DV → Ms → Prop} (h : RA [] M) : EvAR K tNil ρ M RA := ea_nil.go h
theorem ear_cons {tr : TA} {RA : List DV → Ms → Prop} (h : EvR K te ρ M fun d M1 => EvAR K tr ρ M1 fun ds M2 => RA (d :: ds) M2) : EvAR K (tCons te tr) ρ M RA := fun N F σ H S Q q =>
  h N F σ H S _ fun v d M1 F1 H1 e1 h1 w1 r1 => h1 N F1 σ H1 ⟨w1, S.e.mono e1⟩ _ fun vs ds M2 F2 H2 e2 h2 w2 r2 => q _ _ M2 F2 H2 (e1.trans e2) h2 w2 (.cons (r1.mono e2) r2)
theorem ea_cons {tr : TA} {ds : List DV} (h : Ev K te ρ M d) (hr : EvA K tr ρ M ds) : EvA K (tCons te tr) ρ M (d :: ds) :=
  ear_cons (h.go (hr.go ⟨rfl, rfl⟩))
/-! ### displays -/
theorem evr_tup {ta : TA} (h : EvAR K ta ρ M fun ds M1 => ds.length ≤ 100000 ∧ R (.tup ds) M1) : EvR K (tTup ta) ρ M R := fun N F σ H S Q q =>
  h N F σ H S _ fun vs ds M1 F1 H1 e1 h1 w1 r1 => ⟨by rw [r1.length]; exact Evl.sz_of h1.1, fun p hp =>
    have hn := w1.fresh hp
    q _ _ M1 _ _ (e1.trans (ex_new hn)) h1.2 (w1.new hp _) (.tup (SqT.of upd_same) (r1.mono (ex_new hn)))⟩
theorem ev_tup {ta : TA} {ds : List DV} (h : EvA K ta ρ M ds) (hl : ds.length ≤ 100000 := by first | (simp; done) | decide | omega) : Ev K (tTup ta) ρ M (.tup ds) := evr_tup (h.go ⟨hl, rfl, rfl⟩)
theorem evr_lst {ta : TA} (h : EvAR K ta ρ M fun ds M1 => ds.length ≤ 100000 ∧ R (.lst ds) M1) : EvR K (tLst ta) ρ M R := fun N F σ H S Q q =>
  h N F σ H S _ fun vs ds M1 F1 H1 e1 h1 w1 r1 => ⟨by rw [r1.length]; exact Evl.sz_of h1.1, fun p hp =>
    have hn := w1.fresh hp
    q _ _ M1 _ _ (e1.trans (ex_new hn)) h1.2 (w1.new hp _) (.lst upd_same (r1.mono (ex_new hn)))⟩
theorem ev_lst {ta : TA} {ds : List DV} (h : EvA K ta ρ M ds) (hl : ds.length ≤ 100000 := by first | (simp; done) | decide | omega) : Ev K (tLst ta) ρ M (.lst ds) := evr_lst (h.go ⟨hl, rfl, rfl⟩)
/-- a new list that is owned -/
theorem evr_lstC {ta : TA} (h : EvAR K ta ρ M fun ds M1 => ds.length ≤ 100000 ∧ ∀ p, R (.raw (.ref p)) ((p, .lst ds) :: M1)) : EvR K (tLst ta) ρ M R := fun N F σ H S Q q =>
  h N F σ H S _ fun vs ds M1 F1 H1 e1 h1 w1 r1 => ⟨by rw [r1.length]; exact Evl.sz_of h1.1, fun p hp =>
    q _ _ ((p, .lst ds) :: M1) F1 _ e1 (h1.2 p) ((w1.cell (mo := .lst ds) hp ⟨vs, upd_same, r1⟩).perm List.perm_middle) (.raw _)⟩
/-! ### operators -/
theorem evr_op (h : EvR K ta ρ M fun x M1 => EvR K tb ρ M1 fun y M2 => RVR K r x y M2 R) : EvR K (tOp r ta tb) ρ M R := fun N F σ H S Q q =>
  h N F σ H S _ fun u x M1 F1 H1 e1 h1 w1 r1 => h1 N F1 σ H1 ⟨w1, S.e.mono e1⟩ _ fun v y M2 F2 H2 e2 h2 w2 r2 =>
    h2 N F2 u v H2 w2 (r1.mono e2) r2 Q fun a b M3 F3 H3 e3 h3 w3 r3 => q a b M3 F3 H3 ((e1.trans e2).trans e3) h3 w3 r3
theorem ev_op (ha : Ev K ta ρ M x) (hb : Ev K tb ρ M y) (hr : RV K r x y M z) : Ev K (tOp r ta tb) ρ M z := evr_op (ha.go (hb.go (hr.go ⟨rfl, rfl⟩)))
theorem evr_un {r : V → Hp → VK → Prop} (h : EvR K ta ρ M fun x M1 => RUR K r x M1 R) : EvR K (tUn r ta) ρ M R := fun N F σ H S Q q =>
  h N F σ H S _ fun u x M1 F1 H1 e1 h1 w1 r1 => h1 N F1 u H1 w1 r1 Q fun a b M3 F3 H3 e3 h3 w3 r3 => q a b M3 F3 H3 (e1.trans e3) h3 w3 r3
theorem ev_un {r : V → Hp → VK → Prop} (ha : Ev K ta ρ M x) (hr : RU K r x M z) : Ev K (tUn r ta) ρ M z := evr_un (ha.go hr)
theorem evr_cb {ta : TA} {r : List V → Hp → VK → Prop} (h : EvAR K ta ρ M fun xs M1 => RCR K r xs M1 R) : EvR K (tCB r ta) ρ M R := fun N F σ H S Q q =>
  h N F σ H S _ fun u x M1 F1 H1 e1 h1 w1 r1 => h1 N F1 u H1 w1 r1 Q fun a b M3 F3 H3 e3 h3 w3 r3 => q a b M3 F3 H3 (e1.trans e3) h3 w3 r3
theorem ev_cb {ta : TA} {xs : List DV} {r : List V → Hp → VK → Prop} (h : EvA K ta ρ M xs) (hr : RC K r xs M z) : Ev K (tCB r ta) ρ M z := evr_cb (h.go hr)
/-- either of two readings -/
def tOr2 (a b : TE) : TE := fun σ H Q => a σ H Q ∨ b σ H Q
theorem evr_inl (h : EvR K ta ρ M R) : EvR K (tOr2 ta tb) ρ M R := fun N F σ H S Q q => .inl (h N F σ H S Q q)
theorem evr_inr (h : EvR K tb ρ M R) : EvR K (tOr2 ta tb) ρ M R := fun N F σ H S Q q => .inr (h N F σ H S Q q)
theorem ev_inl (h : Ev K ta ρ M d) : Ev K (tOr2 ta tb) ρ M d := evr_inl h
theorem ev_inr (h : Ev K tb ρ M d) : Ev K (tOr2 ta tb) ρ M d := evr_inr h
theorem rvr_inl {r r' : R2} (h : RVR K r x y M R) : RVR K (fun a b H Q => r a b H Q ∨ r' a b H Q) x y M R := fun N F u v H w h1 h2 Q q => .inl (h N F u v H w h1 h2 Q q)
theorem rvr_inr {r r' : R2} (h : RVR K r' x y M R) : RVR K (fun a b H Q => r a b H Q ∨ r' a b H Q) x y M R := fun N F u v H w h1 h2 Q q => .inr (h N F u v H w h1 h2 Q q)
/-! ### tests -/
theorem etr_test {RB : Bool → Ms → Prop} (h : EvR K te ρ M fun d M1 => ∃ b, d = .bl b ∧ RB b M1) : EvTR K (tTest te) ρ M RB := fun N F σ H S Q q =>
  h N F σ H S _ fun v d M1 F1 H1 e1 ⟨b, hd, hb⟩ w1 r1 => by subst hd; exact ⟨b, r1.bl_of, q b M1 F1 H1 e1 hb w1⟩
theorem et_test {b : Bool} (h : Ev K te ρ M (.bl b)) : EvT K (tTest te) ρ M b := etr_test (h.go ⟨b, rfl, rfl, rfl⟩)
theorem etr_B {RB : Bool → Ms → Prop} (h : EvR K te ρ M fun d M1 => ∃ b, d = .bl b ∧ RB b M1) : EvTR K (tB te) ρ M RB := fun N F σ H S Q q =>
  h N F σ H S _ fun v d M1 F1 H1 e1 ⟨b, hd, hb⟩ w1 r1 => by subst hd; exact ⟨b, r1.bl_of, q b M1 F1 H1 e1 hb w1⟩
theorem et_B {b : Bool} (h : Ev K te ρ M (.bl b)) : EvT K (tB te) ρ M b := etr_B (h.go ⟨b, rfl, rfl, rfl⟩)
theorem etr_and {RB : Bool → Ms → Prop} (h : EvTR K t ρ M fun c M1 => if c = true then EvTR K u ρ M1 RB else RB false M1) : EvTR K (tAnd t u) ρ M RB := fun N F σ H S Q q =>
  h N F σ H S _ fun c M1 F1 H1 e1 h1 w1 => by
    cases c with
    | true => exact (show EvTR K u ρ M1 RB from h1) N F1 σ H1 ⟨w1, S.e.mono e1⟩ Q fun b M2 F2 H2 e2 h2 w2 => q b M2 F2 H2 (e1.trans e2) h2 w2
    | false => exact q false M1 F1 H1 e1 h1 w1
theorem et_and {a b : Bool} (h1 : EvT K t ρ M a) (h2 : a = true → EvT K u ρ M b) : EvT K (tAnd t u) ρ M (a && b) := etr_and (h1.go (by
  cases a with
  | true => exact h2 rfl
  | false => exact ⟨rfl, rfl⟩))
theorem etr_or {RB : Bool → Ms → Prop} (h : EvTR K t ρ M fun c M1 => if c = true then RB true M1 else EvTR K u ρ M1 RB) : EvTR K (tOr t u) ρ M RB := fun N F σ H S Q q =>
  h N F σ H S _ fun c M1 F1 H1 e1 h1 w1 => by
    cases c with
    | true => exact q true M1 F1 H1 e1 h1 w1
    | false => exact (show EvTR K u ρ M1 RB from h1) N F1 σ H1 ⟨w1, S.e.mono e1⟩ Q fun b M2 F2 H2 e2 h2 w2 => q b M2 F2 H2 (e1.trans e2) h2 w2
theorem et_or {a b : Bool} (h1 : EvT K t ρ M a) (h2 : a = false → EvT K u ρ M b) : EvT K (tOr t u) ρ M (a || b) := etr_or (h1.go (by
  cases a with
  | true => exact ⟨rfl, rfl⟩
  | false => exact h2 rfl))
theorem etr_not {RB : Bool → Ms → Prop} (h : EvTR K t ρ M fun c M1 => RB (!c) M1) : EvTR K (tNot t) ρ M RB := fun N F σ H S Q q =>
  h N F σ H S _ fun c M1 F1 H1 e1 h1 w1 => q _ M1 F1 H1 e1 h1 w1
theorem et_not {a : Bool} (h1 : EvT K t ρ M a) : EvT K (tNot t) ρ M (!a) := etr_not (h1.go ⟨rfl, rfl⟩)
theorem evr_if (h : EvTR K t ρ M fun c M1 => if c = true then EvR K ta ρ M1 R else EvR K tb ρ M1 R) : EvR K (tIf t ta tb) ρ M R := fun N F σ H S Q q =>
  h N F σ H S _ fun c M1 F1 H1 e1 h1 w1 => by
    cases c with
    | true => exact (show EvR K ta ρ M1 R from h1) N F1 σ H1 ⟨w1, S.e.mono e1⟩ Q fun v b M2 F2 H2 e2 h2 w2 r2 => q v b M2 F2 H2 (e1.trans e2) h2 w2 r2
    | false => exact (show EvR K tb ρ M1 R from h1) N F1 σ H1 ⟨w1, S.e.mono e1⟩ Q fun v b M2 F2 H2 e2 h2 w2 r2 => q v b M2 F2 H2 (e1.trans e2) h2 w2 r2
theorem ev_if {b : Bool} (h : EvT K t ρ M b) (h1 : b = true → Ev K ta ρ M x) (h2 : b = false → Ev K tb ρ M y) : Ev K (tIf t ta tb) ρ M (if b = true then x else y) := evr_if (h.go (by
  cases b with
  | true => exact h1 rfl
  | false => exact h2 rfl))
theorem evr_andV (h : EvR K ta ρ M fun x M1 => ∃ c, x = .bl c ∧ if c = true then EvR K tb ρ M1 R else R (.bl false) M1) : EvR K (tAndV ta tb) ρ M R := fun N F σ H S Q q =>
  h N F σ H S _ fun v d M1 F1 H1 e1 ⟨c, hd, h1⟩ w1 r1 => by
    subst hd
    refine ⟨c, r1.bl_of, ?_⟩
    cases c with
    | true => exact (show EvR K tb ρ M1 R from h1) N F1 σ H1 ⟨w1, S.e.mono e1⟩ Q fun v b M2 F2 H2 e2 h2 w2 r2 => q v b M2 F2 H2 (e1.trans e2) h2 w2 r2
    | false => exact q _ _ M1 F1 H1 e1 h1 w1 (.bl false)
theorem ev_andV {a b : Bool} (h1 : Ev K ta ρ M (.bl a)) (h2 : a = true → Ev K tb ρ M (.bl b)) : Ev K (tAndV ta tb) ρ M (.bl (a && b)) := evr_andV (h1.go ⟨a, rfl, by
  cases a with
  | true => exact h2 rfl
  | false => exact ⟨rfl, rfl⟩⟩)
theorem evr_orV (h : EvR K ta ρ M fun x M1 => ∃ c, x = .bl c ∧ if c = true then R (.bl true) M1 else EvR K tb ρ M1 R) : EvR K (tOrV ta tb) ρ M R := fun N F σ H S Q q =>
  h N F σ H S _ fun v d M1 F1 H1 e1 ⟨c, hd, h1⟩ w1 r1 => by
    subst hd
    refine ⟨c, r1.bl_of, ?_⟩
    cases c with
    | true => exact q _ _ M1 F1 H1 e1 h1 w1 (.bl true)
    | false => exact (show EvR K tb ρ M1 R from h1) N F1 σ H1 ⟨w1, S.e.mono e1⟩ Q fun v b M2 F2 H2 e2 h2 w2 r2 => q v b M2 F2 H2 (e1.trans e2) h2 w2 r2
theorem ev_orV {a b : Bool} (h1 : Ev K ta ρ M (.bl a)) (h2 : a = false → Ev K tb ρ M (.bl b)) : Ev K (tOrV ta tb) ρ M (.bl (a || b)) := evr_orV (h1.go ⟨a, rfl, by
  cases a with
  | true => exact ⟨rfl, rfl⟩
  | false => exact h2 rfl⟩)
theorem evr_notV (h : EvR K ta ρ M fun x M1 => ∃ c, x = .bl c ∧ R (.bl (!c)) M1) : EvR K (tNotV ta) ρ M R := fun N F σ H S Q q =>
  h N F σ H S _ fun v d M1 F1 H1 e1 ⟨c, hd, h1⟩ w1 r1 => by
    subst hd
    exact ⟨c, r1.bl_of, q _ _ M1 F1 H1 e1 h1 w1 (.bl _)⟩
theorem ev_notV {a : Bool} (h1 : Ev K ta ρ M (.bl a)) : Ev K (tNotV ta) ρ M (.bl (!a)) := evr_notV (h1.go ⟨a, rfl, rfl, rfl⟩)
/-- x op y op' z -/
theorem evr_chain {r r' : R2} (h : EvR K ta ρ M fun x M1 => EvR K tb ρ M1 fun y M2 => RVR K r x y M2 fun z M3 => ∃ k, z = .bl k ∧ if k = true then EvR K tc ρ M3 fun w M4 => RVR K r' y w M4 R else R (.bl false) M3) :
    EvR K (tChain r r' ta tb tc) ρ M R := fun N F σ H S Q q =>
  h N F σ H S _ fun u x M1 F1 H1 e1 h1 w1 r1 => h1 N F1 σ H1 ⟨w1, S.e.mono e1⟩ _ fun v y M2 F2 H2 e2 h2 w2 r2 =>
    h2 N F2 u v H2 w2 (r1.mono e2) r2 _ fun z d M3 F3 H3 e3 ⟨k, hd, h3⟩ w3 r3 => by
      subst hd
      refine ⟨k, r3.bl_of, ?_⟩
      have e13 := (e1.trans e2).trans e3
      cases k with
      | false => exact q _ _ M3 F3 H3 e13 h3 w3 (.bl false)
      | true => exact (show EvR K tc ρ M3 fun w M4 => RVR K r' y w M4 R from h3) N F3 σ H3 ⟨w3, S.e.mono e13⟩ _ fun z' d4 M4 F4 H4 e4 h4 w4 r4 => h4 N F4 v z' H4 w4 ((r2.mono e3).mono e4) r4 Q fun a b M5 F5 H5 e5 h5 w5 r5 => q a b M5 F5 H5 ((e13.trans e4).trans e5) h5 w5 r5
theorem ev_chain {r r' : R2} {k : Bool} {w : DV} {k' : Bool} (ha : Ev K ta ρ M x) (hb : Ev K tb ρ M y) (hr : RV K r x y M (.bl k)) (hc : k = true → Ev K tc ρ M w) (hr' : k = true → RV K r' y w M (.bl k')) : Ev K (tChain r r' ta tb tc) ρ M (.bl (k && k')) :=
  evr_chain (ha.go (hb.go (hr.go ⟨k, rfl, by
    cases k with
    | true => exact (hc rfl).go (hr' rfl)
    | false => exact ⟨rfl, rfl⟩⟩)))
/-! ### the attributes -/
theorem evr_fld {f : Str} (h : EvR K ta ρ M fun x M1 => ∃ C fs d, x = .ins C fs ∧ Cls K C ∧ NoAttr K C f ∧ fs.lookup f = some d ∧ R d M1) : EvR K (tFld K ta f) ρ M R := fun N F σ H S Q q =>
  h N F σ H S _ fun v x M1 F1 H1 e1 ⟨C, fs, d, hx, c, n, l, hr⟩ w1 r1 => by
    subst hx
    obtain ⟨a, dx, gs, rfl, ha, hf⟩ := r1.ins_of
    obtain ⟨u, hu, ru⟩ := hf.lookup l
    exact ⟨a, C, dx, gs, u, rfl, w1.fr _ _ ha, c, n, hu, q u d M1 F1 H1 e1 hr w1 ru⟩
theorem ev_fld {f : Str} {C : Addr} {fs : List (Str × DV)} (h : Ev K ta ρ M (.ins C fs)) (c : Cls K C) (n : NoAttr K C f) (l : fs.lookup f = some d) : Ev K (tFld K ta f) ρ M d := evr_fld (h.go ⟨C, fs, d, rfl, c, n, l, rfl, rfl⟩)
/-- of an owned instance -/
theorem evr_fldC {f : Str} (h : EvR K ta ρ M fun x M1 => ∃ a C fs d, x = .raw (.ref a) ∧ (a, MO.ins C fs) ∈ M1 ∧ Cls K C ∧ NoAttr K C f ∧ fs.lookup f = some d ∧ R d M1) : EvR K (tFld K ta f) ρ M R := fun N F σ H S Q q =>
  h N F σ H S _ fun v x M1 F1 H1 e1 ⟨a, C, fs, d, hx, hm, c, n, l, hr⟩ w1 r1 => by
    subst hx
    cases r1.raw_of
    obtain ⟨_, dx, gs, ha, hf⟩ := w1.ce a _ (List.mem_append_right N hm)
    obtain ⟨u, hu, ru⟩ := hf.lookup l
    exact ⟨a, C, dx, gs, u, rfl, ha, c, n, hu, q u d M1 F1 H1 e1 hr w1 ru⟩
theorem ev_fldC {f : Str} {a C : Addr} {fs : List (Str × DV)} (h : Ev K ta ρ M (.raw (.ref a))) (hm : (a, MO.ins C fs) ∈ M) (c : Cls K C) (n : NoAttr K C f) (l : fs.lookup f = some d) : Ev K (tFld K ta f) ρ M d := evr_fldC (h.go ⟨a, C, fs, d, rfl, hm, c, n, l, rfl, rfl⟩)
end
/-! ### promises -/
/-- what a def asks of its arguments and of what is owned, and what it promises of the value and of what is owned behind it -/
abbrev SpecD := List DV → Ms → (DV → Ms → Prop) → Prop
def spD (K : PySem.W.Frag) (S : SpecD) : Sp := fun vs H Q _ => ∃ (F : Hp) (N M : Ms) (ds : List DV) (R : DV → Ms → Prop), Wd K F (N ++ M) H ∧ RpA K F vs ds ∧ S ds M R ∧ ∀ v d M' F' H', Ex F F' → R d M' → Wd K F' (N ++ M') H' → Rp K F' v d → Q v H'
section
variable {K : PySem.W.Frag} {ρ : Rho} {M M' : Ms} {ta tb tc te : TE} {S : SpecD} {E : XK} {d : DV} {R : DV → Ms → Prop} {t : TA}
theorem evr_call (h : EvAR K t ρ M fun ds M1 => S ds M1 R) : EvR K (tCall (spD K S) [] E t) ρ M R := fun N F σ H Z Q q =>
  h N F σ H Z _ fun vs ds M1 F1 H1 e1 h1 w1 r1 => by
    show spD K S (vs ++ []) H1 Q E
    rw [List.append_nil]
    exact ⟨F1, N, M1, ds, R, w1, r1, h1, fun v d M2 F2 H2 e2 hr w2 r2 => q v d M2 F2 H2 (e1.trans e2) hr w2 r2⟩
theorem ev_call {ds : List DV} (h : EvA K t ρ M ds) (hs : S ds M fun d' M' => d' = d ∧ M' = M) : Ev K (tCall (spD K S) [] E t) ρ M d := evr_call (h.go hs)
theorem evr_meth {C : Addr} {m : Str} (h : EvR K ta ρ M fun x M1 => ∃ fs, x = .ins C fs ∧ fs.lookup m = none ∧ EvAR K t ρ M1 fun ds M2 => S (.ins C fs :: ds) M2 R) : EvR K (tMeth C m (spD K S) [] E ta t) ρ M R := fun N F σ H Z Q q =>
  h N F σ H Z _ fun v x M1 F1 H1 e1 ⟨fs, hx, hl, h1⟩ w1 r1 => by
    subst hx
    obtain ⟨a, dx, gs, rfl, ha, hf⟩ := id r1.ins_of
    refine ⟨a, dx, gs, rfl, w1.fr _ _ ha, hf.lookup_none hl, ?_⟩
    refine h1 N F1 σ H1 ⟨w1, Z.e.mono e1⟩ _ fun vs ds M2 F2 H2 e2 h2 w2 r2 => ?_
    rw [List.append_nil]
    exact ⟨F2, N, M2, _, R, w2, .cons (r1.mono e2) r2, h2, fun v d M3 F3 H3 e3 hr w3 r3 => q v d M3 F3 H3 ((e1.trans e2).trans e3) hr w3 r3⟩
theorem ev_meth {C : Addr} {m : Str} {fs : List (Str × DV)} {ds : List DV} (ha : Ev K ta ρ M (.ins C fs)) (hl : fs.lookup m = none) (h : EvA K t ρ M ds) (hs : S (.ins C fs :: ds) M fun d' M' => d' = d ∧ M' = M) : Ev K (tMeth C m (spD K S) [] E ta t) ρ M d :=
  evr_meth (ha.go ⟨fs, rfl, hl, h.go hs⟩)
/-- a method of an owned instance -/
theorem evr_methC {C : Addr} {m : Str} (h : EvR K ta ρ M fun x M1 => ∃ a fs, x = .raw (.ref a) ∧ (a, MO.ins C fs) ∈ M1 ∧ fs.lookup m = none ∧ EvAR K t ρ M1 fun ds M2 => S (.raw (.ref a) :: ds) M2 R) : EvR K (tMeth C m (spD K S) [] E ta t) ρ M R := fun N F σ H Z Q q =>
  h N F σ H Z _ fun v x M1 F1 H1 e1 ⟨a, fs, hx, hm, hl, h1⟩ w1 r1 => by
    subst hx
    cases r1.raw_of
    obtain ⟨_, dx, gs, ha, hf⟩ := w1.ce a _ (List.mem_append_right N hm)
    refine ⟨a, dx, gs, rfl, ha, hf.lookup_none hl, ?_⟩
    refine h1 N F1 σ H1 ⟨w1, Z.e.mono e1⟩ _ fun vs ds M2 F2 H2 e2 h2 w2 r2 => ?_
    rw [List.append_nil]
    exact ⟨F2, N, M2, _, R, w2, .cons (.raw _) r2, h2, fun v d M3 F3 H3 e3 hr w3 r3 => q v d M3 F3 H3 ((e1.trans e2).trans e3) hr w3 r3⟩
/-- C(..): __init__ gets the new instance as an owned one; it is handed on as such -/
theorem evr_make {C : Addr} (h : EvAR K t ρ M fun ds M1 => ∀ x, S (.raw (.ref x) :: ds) ((x, .ins C []) :: M1) fun d M2 => d = .non ∧ R (.raw (.ref x)) M2) : EvR K (tMake C (spD K S) [] E t) ρ M R := fun N F σ H Z Q q =>
  h N F σ H Z _ fun vs ds M1 F1 H1 e1 h1 w1 r1 => fun x dx hx hdx hne => by
    rw [List.append_nil]
    have hxd : x ≠ dx := hne.symm
    have w2 : Wd K F1 (N ++ M1) (upd H1 dx (.own x)) := by
      refine ⟨fun b u hb => ?_, fun b u hb => ?_, w1.nd⟩
      · rw [upd_ne (ne_of_none hb (w1.fresh hdx))]; exact w1.fr b u hb
      · exact ⟨(w1.ce b u hb).1, (w1.ce b u hb).2.mono (Evl.Ex.refl F1) (upd_ne (w1.mne hdx hb))⟩
    have w3 := (w2.cell (p := x) (mo := .ins C []) (o := .ins C dx []) (by rw [upd_ne hxd]; exact hx) ⟨dx, [], upd_same, .nil⟩).perm List.perm_middle
    exact ⟨F1, N, _, _, _, w3, .cons (.raw _) r1, h1 x, fun v d M3 F3 H3 e3 hr w4 r4 => ⟨by rw [hr.1] at r4; exact r4.non_of, q _ _ M3 F3 H3 (e1.trans e3) hr.2 w4 (.raw _)⟩⟩
/-- an owned instance, at the head, stays from now on -/
theorem Wd.freezeI {F H : Hp} {a C : Addr} {fs : List (Str × DV)} (w : Wd K F ((a, .ins C fs) :: M) H) : ∃ F', Ex F F' ∧ Wd K F' M H ∧ Rp K F' (.ref a) (.ins C fs) := by
  obtain ⟨hn, dx, gs, hv, hr⟩ := w.ce a _ List.mem_cons_self
  have e := ex_new (o := .ins C dx gs) hn
  refine ⟨upd F a (.ins C dx gs), e, ⟨fun b u hb => ?_, fun b u hb => ?_, (List.nodup_cons.mp w.nd).2⟩, .ins upd_same (hr.mono e)⟩
  · by_cases eb : b = a
    · subst eb; rw [upd_same] at hb; cases hb; exact hv
    · rw [upd_ne eb] at hb; exact w.fr b u hb
  · have hne : b ≠ a := fun z => (List.nodup_cons.mp w.nd).1 (List.mem_map.mpr ⟨(b, u), hb, z⟩)
    have := w.ce b u (List.mem_cons_of_mem _ hb)
    exact ⟨by rw [upd_ne hne]; exact this.1, this.2.mono e rfl⟩
/-- a value that is an owned object is made one that stays: of lists, of instances; owned ones are let go -/
theorem evr_freezeL (h : EvR K te ρ M fun d M1 => ∃ a ds M2, d = .raw (.ref a) ∧ M1 = (a, .lst ds) :: M2 ∧ R (.lst ds) M2) : EvR K te ρ M R := fun N F σ H Z Q q =>
  h N F σ H Z Q fun v d M1 F1 H1 e1 ⟨a, ds, M2, hd, hm, hr⟩ w1 r1 => by
    subst hd hm
    cases r1.raw_of
    obtain ⟨F2, e2, w2, r2⟩ := (w1.perm (List.perm_middle.symm)).freeze
    exact q _ _ M2 F2 H1 (e1.trans e2) hr w2 r2
theorem evr_freezeI (h : EvR K te ρ M fun d M1 => ∃ a C fs M2, d = .raw (.ref a) ∧ M1 = (a, .ins C fs) :: M2 ∧ R (.ins C fs) M2) : EvR K te ρ M R := fun N F σ H Z Q q =>
  h N F σ H Z Q fun v d M1 F1 H1 e1 ⟨a, C, fs, M2, hd, hm, hr⟩ w1 r1 => by
    subst hd hm
    cases r1.raw_of
    obtain ⟨F2, e2, w2, r2⟩ := (w1.perm (List.perm_middle.symm)).freezeI
    exact q _ _ M2 F2 H1 (e1.trans e2) hr w2 r2
theorem evr_drop (h : EvR K te ρ M fun d M1 => ∃ c M2, M1 = c :: M2 ∧ R d M2) : EvR K te ρ M R := fun N F σ H Z Q q =>
  h N F σ H Z Q fun v d M1 F1 H1 e1 ⟨c, M2, hm, hr⟩ w1 r1 => by
    subst hm
    exact q _ _ M2 F1 H1 e1 hr (w1.perm (List.perm_middle.symm)).drop r1
end
/-! ### statements -/
structure Post where
  nx : Rho → Ms → Prop
  rt : DV → Ms → Prop
  bk : Rho → Ms → Prop := fun _ _ => False
  ct : Rho → Ms → Prop := fun _ _ => False
structure EOk (K : PySem.W.Frag) (F : Hp) (N : Ms) (P : Post) (D : Ends) : Prop where
  nx : ∀ F' σ' H' ρ' M', Ex F F' → P.nx ρ' M' → Sn K F' (N ++ M') ρ' σ' H' → D.nx σ' H'
  rt : ∀ v F' H' d M', Ex F F' → P.rt d M' → Wd K F' (N ++ M') H' → Rp K F' v d → D.rt v H'
  bk : ∀ F' σ' H' ρ' M', Ex F F' → P.bk ρ' M' → Sn K F' (N ++ M') ρ' σ' H' → D.bk σ' H'
  ct : ∀ F' σ' H' ρ' M', Ex F F' → P.ct ρ' M' → Sn K F' (N ++ M') ρ' σ' H' → D.ct σ' H'
theorem EOk.mono {K : PySem.W.Frag} {F F1 : Hp} {N : Ms} {P : Post} {D : Ends} (e : EOk K F N P D) (x : Ex F F1) : EOk K F1 N P D :=
  ⟨fun F' σ' H' ρ' M' e1 => e.nx F' σ' H' ρ' M' (x.trans e1), fun v F' H' d M' e1 => e.rt v F' H' d M' (x.trans e1), fun F' σ' H' ρ' M' e1 => e.bk F' σ' H' ρ' M' (x.trans e1), fun F' σ' H' ρ' M' e1 => e.ct F' σ' H' ρ' M' (x.trans e1)⟩
def XS (K : PySem.W.Frag) (t : TS) (ρ : Rho) (M : Ms) (P : Post) : Prop := ∀ (N : Ms) (F : Hp) (σ : St) (H : Hp) (D : Ends), Sn K F (N ++ M) ρ σ H → EOk K F N P D → t D σ H
section
variable {K : PySem.W.Frag} {ρ : Rho} {M M' : Ms} {te : TE} {tt : TT} {t u : TS} {P : Post}
theorem xs_seq (h : XS K t ρ M { P with nx := fun ρ' M' => XS K u ρ' M' P }) : XS K (tSeq t u) ρ M P := fun N F σ H D S e =>
  h N F σ H _ S ⟨fun F' σ' H' ρ' M' e1 h1 S1 => h1 N F' σ' H' D S1 (e.mono e1), e.rt, e.bk, e.ct⟩
theorem xs_next (h : P.nx ρ M) : XS K tNext ρ M P := fun N F σ H D S e => e.nx F σ H ρ M (Evl.Ex.refl F) h S
theorem xs_ret (h : EvR K te ρ M P.rt) : XS K (tRet te) ρ M P := fun N F σ H D S e => h N F σ H S _ fun v d M' F' H' e1 hr w r => e.rt v F' H' d M' e1 hr w r
theorem xs_retN (h : P.rt .non M) : XS K tRetN ρ M P := fun N F σ H D S e => e.rt .non F H .non M (Evl.Ex.refl F) h S.w .non
theorem xs_brk (h : P.bk ρ M) : XS K tBreak ρ M P := fun N F σ H D S e => e.bk F σ H ρ M (Evl.Ex.refl F) h S
theorem xs_cont (h : P.ct ρ M) : XS K tCont ρ M P := fun N F σ H D S e => e.ct F σ H ρ M (Evl.Ex.refl F) h S
theorem xs_drop (h : EvR K te ρ M fun _ M' => P.nx ρ M') : XS K (tDrop te) ρ M P := fun N F σ H D S e => h N F σ H S _ fun v d M' F' H' e1 hr w r => e.nx F' σ H' ρ M' e1 hr ⟨w, S.e.mono e1⟩
theorem xs_if (h : EvTR K tt ρ M fun b M' => if b = true then XS K t ρ M' P else XS K u ρ M' P) : XS K (tIfS tt t u) ρ M P := fun N F σ H D S e => h N F σ H S _ fun b M' F' H' e1 hr w => by
  cases b with
  | true => exact (show XS K t ρ M' P from hr) N F' σ H' D ⟨w, S.e.mono e1⟩ (e.mono e1)
  | false => exact (show XS K u ρ M' P from hr) N F' σ H' D ⟨w, S.e.mono e1⟩ (e.mono e1)
theorem xs_if2 {b : Bool} (h : EvT K tt ρ M b) (h1 : b = true → XS K t ρ M P) (h2 : b = false → XS K u ρ M P) : XS K (tIfS tt t u) ρ M P := xs_if (h.go (by
  cases b with
  | true => exact h1 rfl
  | false => exact h2 rfl))
/-- owned ones let go, or in another order -/
theorem xs_perm (hp : M'.Perm M) (h : XS K t ρ M' P) : XS K t ρ M P := fun N F σ H D S e => h N F σ H D ⟨S.w.perm (hp.append_left N), S.e⟩ e
theorem xs_let {c : Addr × MO} (h : XS K t ρ M P) : XS K t ρ (c :: M) P := fun N F σ H D S e => h N F σ H D ⟨(S.w.perm List.perm_middle.symm).drop, S.e⟩ e
theorem xs_op {i : Nat} {a : Addr} {p : List DV → Prop} (hi : M[i]? = some (a, .lstP p)) (h : ∀ ds, p ds → XS K t ρ (M.set i (a, .lst ds)) P) : XS K t ρ M P := fun N F σ H D S e => by
  obtain ⟨ds, hp, w⟩ := S.w.op (i := N.length + i) (by rw [List.getElem?_append_right (Nat.le_add_right _ _), Nat.add_sub_cancel_left]; exact hi)
  rw [List.set_append_right _ _ (Nat.le_add_right _ _), Nat.add_sub_cancel_left] at w
  exact h ds hp N F σ H D ⟨w, S.e⟩ e
theorem evr_cl {i : Nat} {a : Addr} {p : List DV → Prop} {R : DV → Ms → Prop} (h : EvR K te ρ M fun d M1 => ∃ ds, M1[i]? = some (a, .lst ds) ∧ p ds ∧ R d (M1.set i (a, .lstP p))) : EvR K te ρ M R := fun N F σ H S Q q =>
  h N F σ H S Q fun v d M1 F1 H1 e1 ⟨ds, hi, hp, hr⟩ w1 r1 => by
    have w := w1.cl (i := N.length + i) (by rw [List.getElem?_append_right (Nat.le_add_right _ _), Nat.add_sub_cancel_left]; exact hi) hp
    rw [List.set_append_right _ _ (Nat.le_add_right _ _), Nat.add_sub_cancel_left] at w
    exact q v d _ F1 H1 e1 hr w r1
theorem evr_clN {p : List DV → Prop} {R : DV → Ms → Prop} (h : EvR K te ρ M fun d M1 => ∃ (a : Addr) (ds : List DV) (M2 : Ms), M1 = (a, .lst ds) :: M2 ∧ p ds ∧ R d ((a, .lstP p) :: M2)) : EvR K te ρ M R := fun N F σ H S Q q =>
  h N F σ H S Q fun v d M1 F1 H1 e1 ⟨a, ds, M2, hm, hp, hr⟩ w1 r1 => by
    subst hm
    have w := w1.cl (i := N.length) (a := a) (ds := ds) (by rw [List.getElem?_append_right (Nat.le_refl _), Nat.sub_self]; rfl) hp
    rw [List.set_append_right _ _ (Nat.le_refl _), Nat.sub_self] at w
    exact q v d _ F1 H1 e1 hr w r1
theorem xs_never (h : False) : XS K t ρ M P := h.elim
/-! ### targets -/
def BdG (K : PySem.W.Frag) (g : TG) (ρ : Rho) (M : Ms) (d : DV) (R : Rho → Ms → Prop) : Prop := ∀ (N : Ms) (F : Hp) (σ : St) (H : Hp) (v : V) (Q : St → Hp → Prop), Sn K F (N ++ M) ρ σ H → Rp K F v d → (∀ σ' F' H' ρ' M', Ex F F' → R ρ' M' → Sn K F' (N ++ M') ρ' σ' H' → Q σ' H') → g v σ H Q
def BdGs (K : PySem.W.Frag) (g : TGs) (ρ : Rho) (M : Ms) (ds : List DV) (R : Rho → Ms → Prop) : Prop := ∀ (N : Ms) (F : Hp) (σ : St) (H : Hp) (vs : List V) (Q : St → Hp → Prop), Sn K F (N ++ M) ρ σ H → RpA K F vs ds → (∀ σ' F' H' ρ' M', Ex F F' → R ρ' M' → Sn K F' (N ++ M') ρ' σ' H' → Q σ' H') → g vs σ H Q
variable {d : DV} {ds : List DV} {R : Rho → Ms → Prop} {g : TG} {gs : TGs}
theorem bd_name {i : Nat} (h : R (ρ.set i (some d)) M) : BdG K (gName i) ρ M d R := fun N F σ H v Q S r q => q _ F H _ M (Evl.Ex.refl F) h ⟨S.w, S.e.set r i⟩
theorem bds_nil (h : R ρ M) : BdGs K gNil ρ M [] R := fun N F σ H v Q S r q => by
  cases r
  exact ⟨rfl, q σ F H ρ M (Evl.Ex.refl F) h S⟩
theorem bds_cons (h : BdG K g ρ M d fun ρ' M' => BdGs K gs ρ' M' ds R) : BdGs K (gCons g gs) ρ M (d :: ds) R := fun N F σ H vs Q S r q => by
  cases r with
  | cons r t =>
    refine ⟨_, _, rfl, h N F σ H _ _ S r fun σ' F' H' ρ' M' e1 h1 S1 => ?_⟩
    exact h1 N F' σ' H' _ Q S1 (t.mono e1) fun σ2 F2 H2 ρ2 M2 e2 h2 S2 => q σ2 F2 H2 ρ2 M2 (e1.trans e2) h2 S2
theorem bd_tup {n : Nat} (h : BdGs K gs ρ M ds R) (hn : ds.length = n) : BdG K (gTup K n gs) ρ M (.tup ds) R := fun N F σ H v Q S r q => by
  obtain ⟨a, xs, rfl, hs, hr⟩ := r.tup_of
  exact ⟨a, xs, rfl, Evl.ex_t S.w.fr hs, by rw [hr.length]; exact hn, h N F σ H xs Q S hr q⟩
theorem xs_asg (h : EvR K te ρ M fun d M' => BdG K g ρ M' d P.nx) : XS K (tAsg te g) ρ M P := fun N F σ H D S e =>
  h N F σ H S _ fun v d M' F' H' e1 h1 w1 r1 => h1 N F' σ H' v _ ⟨w1, S.e.mono e1⟩ r1 fun σ2 F2 H2 ρ2 M2 e2 h2 S2 => e.nx F2 σ2 H2 ρ2 M2 (e1.trans e2) h2 S2
theorem xs_set {i : Nat} (h : Ev K te ρ M d) (k : P.nx (ρ.set i (some d)) M) : XS K (tAsg te (gName i)) ρ M P := xs_asg (h.go (bd_name k))
/-- the slots vs are as they were, when they are wiped -/
def BdW (g : TG) (vs : List Nat) : Prop := ∀ (v : V) (σ : St) (H : Hp) (Q : St → Hp → Prop), (g v σ H fun σ' H' => wipe σ' vs = wipe σ vs → Q σ' H') → g v σ H Q
def BdWs (g : TGs) (vs : List Nat) : Prop := ∀ (v : List V) (σ : St) (H : Hp) (Q : St → Hp → Prop), (g v σ H fun σ' H' => wipe σ' vs = wipe σ vs → Q σ' H') → g v σ H Q
theorem wipe_get {i : Nat} : ∀ {vs : List Nat} {σ : St}, (wipe σ vs)[i]? = if i ∈ vs ∧ i < σ.length then some none else σ[i]?
  | [], σ => by rw [if_neg (by rintro ⟨h, _⟩; cases h)]; rfl
  | v :: vs, σ => by
    show ((wipe σ vs).set v none)[i]? = _
    rw [List.getElem?_set, wipe_length]
    by_cases hv : v = i
    · subst hv
      rw [if_pos rfl]
      by_cases hl : v < σ.length
      · rw [if_pos hl, if_pos ⟨List.mem_cons_self, hl⟩]
      · rw [if_neg hl, if_neg fun z => hl z.2]
        exact (List.getElem?_eq_none (by omega)).symm
    · rw [if_neg hv, wipe_get]
      by_cases hm : i ∈ vs ∧ i < σ.length
      · rw [if_pos hm, if_pos ⟨List.mem_cons_of_mem _ hm.1, hm.2⟩]
      · rw [if_neg hm, if_neg fun z => hm ⟨(List.mem_cons.mp z.1).resolve_left fun e => hv e.symm, z.2⟩]
theorem wipe_set {σ : St} {vs : List Nat} {i : Nat} {x : Option V} (h : i ∈ vs) : wipe (σ.set i x) vs = wipe σ vs := by
  refine List.ext_getElem? fun j => ?_
  rw [wipe_get, wipe_get, List.length_set, List.getElem?_set]
  by_cases hj : i = j
  · subst hj
    by_cases hl : i < σ.length
    · rw [if_pos ⟨h, hl⟩, if_pos ⟨h, hl⟩]
    · rw [if_neg fun z => hl z.2]
      rw [if_pos rfl, if_neg hl, if_neg fun z => hl z.2]
      exact (List.getElem?_eq_none (by omega)).symm
  · rw [if_neg hj]
theorem wipe_wipe {σ : St} {vs : List Nat} : wipe (wipe σ vs) vs = wipe σ vs := by
  refine List.ext_getElem? fun j => ?_
  rw [wipe_get, wipe_length, wipe_get]
  by_cases hj : j ∈ vs ∧ j < σ.length
  · rw [if_pos hj, if_pos hj]
  · rw [if_neg hj, if_neg hj]
theorem bdw_name {i : Nat} {vs : List Nat} (h : i ∈ vs) : BdW (gName i) vs := fun v σ H Q k => k (wipe_set h)
theorem bdws_nil {vs : List Nat} : BdWs gNil vs := fun v σ H Q k => ⟨k.1, k.2 rfl⟩
theorem gname_mono {i : Nat} : ∀ (v : V) (σ : St) (H : Hp) (Q Q' : St → Hp → Prop), (∀ σ H, Q σ H → Q' σ H) → gName i v σ H Q → gName i v σ H Q' := fun v σ H Q Q' k h => k _ _ h
theorem bdws_name {i : Nat} {vs : List Nat} (h : i ∈ vs) (hs : BdWs gs vs) : BdWs (gCons (gName i) gs) vs := fun v σ H Q k => by
  obtain ⟨x, r, e, k⟩ := k
  refine ⟨x, r, e, hs _ _ _ _ ?_⟩
  have k' : gs r (σ.set i (some x)) H fun σ' H' => wipe σ' vs = wipe σ vs → Q σ' H' := k
  rw [← wipe_set (x := some x) h] at k'
  exact k'
theorem bdw_tup {n : Nat} {vs : List Nat} (h : BdWs gs vs) : BdW (gTup K n gs) vs := fun v σ H Q k => by
  obtain ⟨a, xs, e, hs, hl, k⟩ := k
  exact ⟨a, xs, e, hs, hl, h _ _ _ _ k⟩
end
/-! ### what is walked -/
/-- J gives y 0, .. y (n - 1), while the objects G are owned as they are -/
structure WalkD (K : PySem.W.Frag) (F : Hp) (G : Ms) (J : It) (n : Nat) (y : Nat → DV) : Prop where
  goes : ∀ i F1 M1 H, i < n → Ex F F1 → Wd K F1 M1 H → (∀ c ∈ G, c ∈ M1) → J.go i H
  stops : ∀ F1 M1 H, Ex F F1 → Wd K F1 M1 H → (∀ c ∈ G, c ∈ M1) → J.stop n H
  yields : ∀ i F1 M1 H x H', i < n → Ex F F1 → Wd K F1 M1 H → (∀ c ∈ G, c ∈ M1) → J.yld i H x H' → ∃ F2, Ex F1 F2 ∧ Wd K F2 M1 H' ∧ Rp K F2 x (y i)
/-- wi is walked so; G: what must stay; R: what is owned then -/
def EvI (K : PySem.W.Frag) (wi : TI) (ρ : Rho) (M : Ms) (G : Ms) (n : Nat) (y : Nat → DV) (R : Ms → Prop) : Prop := ∀ (N : Ms) (F : Hp) (σ : St) (H : Hp), Sn K F (N ++ M) ρ σ H → ∀ Q : It → Hp → Prop, (∀ J M' F' H', Ex F F' → R M' → Wd K F' (N ++ M') H' → WalkD K F' G J n y → Q J H') → wi σ H Q
section
variable {K : PySem.W.Frag} {ρ : Rho} {M M' : Ms} {te : TE} {t u tb : TS} {P : Post} {G : Ms} {n : Nat} {y : Nat → DV} {g : TG} {wi : TI}
theorem xs_for {RM : Ms → Prop} (hI : EvI K wi ρ M G n y RM) (inv : Nat → Rho → Ms → Prop) (h0 : ∀ M', RM M' → inv 0 ρ M') (hG : ∀ i ρ' M', i ≤ n → inv i ρ' M' → ∀ c ∈ G, c ∈ M')
    (hs : ∀ i ρ' M', i < n → inv i ρ' M' → BdG K g ρ' M' (y i) fun ρ2 M2 => XS K tb ρ2 M2 { P with nx := inv (i + 1), ct := inv (i + 1), bk := P.nx })
    (hd : ∀ ρ' M', inv n ρ' M' → P.nx ρ' M') : XS K (tFor wi g tb) ρ M P := fun N F σ H D S e =>
  hI N F σ H S _ fun J M1 F1 H1 e1 hr w1 W => by
    refine ⟨fun i m σ' H' => m = n - i ∧ i ≤ n ∧ ∃ F' ρ' M', Ex F1 F' ∧ inv i ρ' M' ∧ Sn K F' (N ++ M') ρ' σ' H', ⟨n, by simp, Nat.zero_le _, F1, ρ, M1, Evl.Ex.refl _, h0 M1 hr, w1, S.e.mono e1⟩, ?_⟩
    rintro i m σ' H' ⟨rfl, hi, F', ρ', M', e2, hv, S2⟩
    have hg : ∀ c ∈ G, c ∈ N ++ M' := fun c hc => List.mem_append_right N (hG i ρ' M' hi hv c hc)
    by_cases hlt : i < n
    · refine .inr ⟨W.goes i F' _ H' hlt e2 S2.w hg, fun σ3 H3 => ∃ F3 ρ3 M3, Ex F' F3 ∧ inv (i + 1) ρ3 M3 ∧ Sn K F3 (N ++ M3) ρ3 σ3 H3, fun σ3 H3 ⟨F3, ρ3, M3, e3, hv3, S3⟩ => ⟨n - (i + 1), by omega, rfl, hlt, F3, ρ3, M3, e2.trans e3, hv3, S3⟩, fun x H3 hy => ?_⟩
      obtain ⟨F3, e3, w3, r3⟩ := W.yields i F' _ H' x H3 hlt e2 S2.w hg hy
      refine hs i ρ' M' hlt hv N F3 σ' H3 x _ ⟨w3, S2.e.mono e3⟩ r3 fun σ4 F4 H4 ρ4 M4 e4 h4 S4 => ?_
      have e04 : Ex F F4 := ((e1.trans e2).trans e3).trans e4
      exact h4 N F4 σ4 H4 _ S4 ⟨fun F5 σ5 H5 ρ5 M5 e5 h5 S5 => ⟨F5, ρ5, M5, (e3.trans e4).trans e5, h5, S5⟩, (e.mono e04).rt, (e.mono e04).nx, fun F5 σ5 H5 ρ5 M5 e5 h5 S5 => ⟨F5, ρ5, M5, (e3.trans e4).trans e5, h5, S5⟩⟩
    · have en : i = n := by omega
      subst en
      exact .inl ⟨W.stops F' _ H' e2 S2.w hg, (e.mono (e1.trans e2)).nx F' σ' H' ρ' M' (Evl.Ex.refl _) (hd ρ' M' hv) S2⟩
theorem xs_while {tt : TT} (inv : Nat → Rho → Ms → Prop) {m : Nat} (h0 : inv m ρ M)
    (hs : ∀ m ρ' M', inv m ρ' M' → EvTR K tt ρ' M' fun b M1 => if b = true then XS K tb ρ' M1 { P with nx := fun ρ2 M2 => ∃ m', m' < m ∧ inv m' ρ2 M2, ct := fun ρ2 M2 => ∃ m', m' < m ∧ inv m' ρ2 M2, bk := P.nx } else P.nx ρ' M1) : XS K (tWhile tt tb) ρ M P := fun N F σ H D S e => by
  refine ⟨fun m σ' H' => ∃ F' ρ' M', Ex F F' ∧ inv m ρ' M' ∧ Sn K F' (N ++ M') ρ' σ' H', ⟨m, F, ρ, M, Evl.Ex.refl _, h0, S⟩, ?_⟩
  rintro m σ' H' ⟨F', ρ', M', e1, hv, S1⟩
  refine hs m ρ' M' hv N F' σ' H' S1 _ fun b M1 F1 H1 e2 h1 w1 => ?_
  have S2 : Sn K F1 (N ++ M1) ρ' σ' H1 := ⟨w1, S1.e.mono e2⟩
  cases b with
  | false => exact (e.mono (e1.trans e2)).nx F1 σ' H1 ρ' M1 (Evl.Ex.refl _) h1 S2
  | true =>
    refine ⟨fun σ3 H3 => ∃ F3 ρ3 M3 m', Ex F' F3 ∧ m' < m ∧ inv m' ρ3 M3 ∧ Sn K F3 (N ++ M3) ρ3 σ3 H3, fun σ3 H3 ⟨F3, ρ3, M3, m', e3, hm, hv3, S3⟩ => ⟨m', hm, F3, ρ3, M3, e1.trans e3, hv3, S3⟩, ?_⟩
    refine (show XS K tb ρ' M1 _ from h1) N F1 σ' H1 _ S2 ⟨fun F5 σ5 H5 ρ5 M5 e5 ⟨m', hm, h5⟩ S5 => ⟨F5, ρ5, M5, m', e2.trans e5, hm, h5, S5⟩, (e.mono (e1.trans e2)).rt, (e.mono (e1.trans e2)).nx, fun F5 σ5 H5 ρ5 M5 e5 ⟨m', hm, h5⟩ S5 => ⟨F5, ρ5, M5, m', e2.trans e5, hm, h5, S5⟩⟩
/-- a comprehension; its list is owned at first -/
theorem evr_lcC {tt : TT} {vs : List Nat} {RM : Ms → Prop} {R : DV → Ms → Prop} (hI : EvI K wi ρ M G n y RM) (hn : n ≤ 100000) (inv : Nat → List DV → Ms → Prop) (h0 : ∀ M', RM M' → inv 0 [] M') (hG : ∀ i acc M', i ≤ n → inv i acc M' → ∀ c ∈ G, c ∈ M') (hb : BdW g vs)
    (hs : ∀ i acc M', i < n → inv i acc M' → BdG K g (wipeD ρ vs) M' (y i) fun ρ2 M2 => EvTR K tt ρ2 M2 fun b M3 => if b = true then EvR K te ρ2 M3 fun d M4 => inv (i + 1) (acc ++ [d]) M4 else inv (i + 1) acc M3)
    (hd : ∀ D acc M', acc.length ≤ n → inv n acc M' → R (.raw (.ref D)) ((D, .lst acc) :: M')) : EvR K (tLc wi g tt te vs) ρ M R := fun N F σ H S Q q =>
  hI N F σ H S _ fun J M1 F1 H1 e1 hr w1 W => fun D hD => by
    refine ⟨fun i m H' => m = n - i ∧ i ≤ n ∧ ∃ F' M' acc, acc.length ≤ i ∧ Ex F1 F' ∧ inv i acc M' ∧ Wd K F' ((D, .lst acc) :: (N ++ M')) H', ⟨n, by simp, Nat.zero_le _, F1, M1, [], by simp, Evl.Ex.refl _, h0 M1 hr, w1.cell (mo := .lst []) hD ⟨[], upd_same, .nil⟩⟩, ?_⟩
    rintro i m H' ⟨rfl, hi, F', M', acc, hacc, e2, hv, w2⟩
    have hg : ∀ c ∈ G, c ∈ (D, MO.lst acc) :: (N ++ M') := fun c hc => List.mem_cons_of_mem _ (List.mem_append_right N (hG i acc M' hi hv c hc))
    by_cases hlt : i < n
    · refine .inr ⟨W.goes i F' _ H' hlt e2 w2 hg, fun H3 => ∃ F3 M3 acc3, acc3.length ≤ i + 1 ∧ Ex F' F3 ∧ inv (i + 1) acc3 M3 ∧ Wd K F3 ((D, .lst acc3) :: (N ++ M3)) H3, fun H3 ⟨F3, M3, acc3, l3, e3, hv3, w3⟩ => ⟨n - (i + 1), by omega, rfl, hlt, F3, M3, acc3, l3, e2.trans e3, hv3, w3⟩, fun x H3 hy => ?_⟩
      obtain ⟨F3, e3, w3, r3⟩ := W.yields i F' _ H' x H3 hlt e2 w2 hg hy
      refine hb _ _ _ _ ?_
      refine hs i acc M' hlt hv ((D, .lst acc) :: N) F3 (wipe σ vs) H3 x _ ⟨w3, ((S.e.mono ((e1.trans e2).trans e3)).wipe vs)⟩ r3 fun σ4 F4 H4 ρ4 M4 e4 h4 S4 hw => ⟨hw.trans wipe_wipe, ?_⟩
      refine h4 ((D, .lst acc) :: N) F4 σ4 H4 S4 _ fun b M5 F5 H5 e5 h5 w5 => ?_
      cases b with
      | false => exact ⟨F5, M5, acc, by omega, (e3.trans e4).trans e5, h5, w5⟩
      | true =>
        refine (show EvR K te ρ4 M5 _ from h5) ((D, .lst acc) :: N) F5 σ4 H5 ⟨w5, S4.e.mono e5⟩ _ fun v d M6 F6 H6 e6 h6 w6 r6 => ?_
        obtain ⟨_, xs, hx, hrx⟩ := w6.ce D _ List.mem_cons_self
        refine ⟨xs, hx, by rw [hrx.length]; exact Evl.sz_lt (by omega), F6, M6, acc ++ [d], by rw [List.length_append]; simp; omega, ((e3.trans e4).trans e5).trans e6, h6, ?_⟩
        exact w6.put (i := 0) rfl (mo' := .lst (acc ++ [d])) ⟨_, upd_same, hrx.snoc r6⟩
    · have en : i = n := by omega
      subst en
      exact .inl ⟨W.stops F' _ H' e2 w2 hg, q _ _ ((D, .lst acc) :: M') F' H' (e1.trans e2) (hd D acc M' hacc hv) (w2.perm List.perm_middle) (.raw _)⟩
/-- .. that stays -/
theorem evr_lc {tt : TT} {vs : List Nat} {RM : Ms → Prop} {R : DV → Ms → Prop} (hI : EvI K wi ρ M G n y RM) (hn : n ≤ 100000) (inv : Nat → List DV → Ms → Prop) (h0 : ∀ M', RM M' → inv 0 [] M') (hG : ∀ i acc M', i ≤ n → inv i acc M' → ∀ c ∈ G, c ∈ M') (hb : BdW g vs)
    (hs : ∀ i acc M', i < n → inv i acc M' → BdG K g (wipeD ρ vs) M' (y i) fun ρ2 M2 => EvTR K tt ρ2 M2 fun b M3 => if b = true then EvR K te ρ2 M3 fun d M4 => inv (i + 1) (acc ++ [d]) M4 else inv (i + 1) acc M3)
    (hd : ∀ acc M', acc.length ≤ n → inv n acc M' → R (.lst acc) M') : EvR K (tLc wi g tt te vs) ρ M R :=
  evr_freezeL (evr_lcC hI hn inv h0 hG hb hs fun D acc M' hl hv => ⟨D, acc, M', rfl, rfl, hd acc M' hl hv⟩)
/-- the elements f i where the tests are p i -/
def picked (p : Nat → Bool) (f : Nat → DV) : Nat → List DV
  | 0 => []
  | n + 1 => if p n = true then picked p f n ++ [f n] else picked p f n
theorem picked_yes {p : Nat → Bool} {f : Nat → DV} {n : Nat} (h : p n = true) : picked p f (n + 1) = picked p f n ++ [f n] := if_pos h
theorem picked_no {p : Nat → Bool} {f : Nat → DV} {n : Nat} (h : p n = false) : picked p f (n + 1) = picked p f n := if_neg (by rw [h]; decide)
theorem ev_lc {tt : TT} {vs : List Nat} (p : Nat → Bool) (f : Nat → DV) (hI : EvI K wi ρ M [] n y fun M' => M' = M) (hn : n ≤ 100000) (hb : BdW g vs)
    (hs : ∀ i, i < n → BdG K g (wipeD ρ vs) M (y i) fun ρ2 M2 => M2 = M ∧ EvT K tt ρ2 M (p i) ∧ (p i = true → Ev K te ρ2 M (f i))) : Ev K (tLc wi g tt te vs) ρ M (.lst (picked p f n)) := by
  refine evr_lc hI hn (fun i acc M' => M' = M ∧ acc = picked p f i) (fun M' e => ⟨e, rfl⟩) (fun _ _ _ _ _ c hc => nomatch hc) hb (fun i acc M' hi ⟨hM, ha⟩ => ?_) fun acc M' _ ⟨hM, ha⟩ => ⟨by rw [ha], hM⟩
  subst hM ha
  intro N F σ H v Q S r q
  refine hs i hi N F σ H v Q S r fun σ' F' H' ρ' M2 e1 ⟨hM, ht, he⟩ S1 => q σ' F' H' ρ' M2 e1 ?_ S1
  subst hM
  refine ht.go ?_
  cases hp : p i with
  | true => exact (he hp).go ⟨rfl, (picked_yes hp).symm⟩
  | false => exact ⟨rfl, (picked_no hp).symm⟩
theorem picked_all {f : Nat → DV} : ∀ {n : Nat}, picked (fun _ => true) f n = (List.range n).map f
  | 0 => rfl
  | n + 1 => by unfold picked; rw [if_pos rfl, picked_all, List.range_succ, List.map_append]; rfl
theorem et_yes : EvT K tYes ρ M true := fun N F σ H S Q q => q true M F H (Evl.Ex.refl F) ⟨rfl, rfl⟩ S.w
theorem etr_yes {RB : Bool → Ms → Prop} (h : RB true M) : EvTR K tYes ρ M RB := et_yes.go h
/-! ### the walks -/
theorem ei_rng1 {ta : TA} {RM : Ms → Prop} {j : Int} (h : EvAR K ta ρ M fun ds M' => ds = [.int j] ∧ RM M') (hj : -(2 ^ 62) ≤ j ∧ j < 2 ^ 62) : EvI K (iRng1 ta) ρ M [] j.toNat (fun i => .int i) RM := fun N F σ H S Q q =>
  h N F σ H S _ fun vs ds M1 F1 H1 e1 ⟨hd, hr⟩ w1 r1 => by
    subst hd
    cases r1 with
    | cons h t =>
      cases t
      cases h.int_of
      refine ⟨j, rfl, hj.1, hj.2, q _ M1 F1 H1 e1 hr w1 ⟨fun i _ _ _ hi _ _ _ => hi, fun _ _ _ _ _ _ => Nat.le_refl _, fun i F2 M2 H2 x H3 hi _ w2 _ hy => ?_⟩⟩
      obtain ⟨rfl, rfl⟩ := hy
      exact ⟨F2, Evl.Ex.refl _, w2, by rw [Int.zero_add]; exact .int _⟩
theorem ei_rng2 {ta : TA} {RM : Ms → Prop} {lo j : Int} (h : EvAR K ta ρ M fun ds M' => ds = [.int lo, .int j] ∧ RM M') (hj : -(2 ^ 62) ≤ lo ∧ lo < 2 ^ 62 ∧ -(2 ^ 62) ≤ j ∧ j < 2 ^ 62) : EvI K (iRng2 ta) ρ M [] (j - lo).toNat (fun i => .int (lo + i)) RM := fun N F σ H S Q q =>
  h N F σ H S _ fun vs ds M1 F1 H1 e1 ⟨hd, hr⟩ w1 r1 => by
    subst hd
    cases r1 with
    | cons h t =>
      cases t with
      | cons h2 t =>
        cases t
        cases h.int_of
        cases h2.int_of
        refine ⟨lo, j, rfl, hj, q _ M1 F1 H1 e1 hr w1 ⟨fun i _ _ _ hi _ _ _ => hi, fun _ _ _ _ _ _ => Nat.le_refl _, fun i F2 M2 H2 x H3 hi _ w2 _ hy => ?_⟩⟩
        obtain ⟨rfl, rfl⟩ := hy
        exact ⟨F2, Evl.Ex.refl _, w2, .int _⟩
/-- the i-th of data -/
def nth (ds : List DV) (i : Nat) : DV := ds.getD i .non
theorem nth_of {ds : List DV} {i : Nat} {d : DV} (h : ds[i]? = some d) : nth ds i = d := by unfold nth; rw [List.getD_eq_getElem?_getD, h]; rfl
theorem nth_get {ds : List DV} {i : Nat} (h : i < ds.length) : ds[i]? = some (nth ds i) := by
  rw [List.getElem?_eq_getElem h, nth_of (List.getElem?_eq_getElem h)]
theorem ei_tup {RM : Ms → Prop} {ds : List DV} (h : EvR K te ρ M fun d M' => d = .tup ds ∧ RM M') : EvI K (iTup K te) ρ M [] ds.length (nth ds) RM := fun N F σ H S Q q =>
  h N F σ H S _ fun v d M1 F1 H1 e1 ⟨hd, hr⟩ w1 r1 => by
    subst hd
    obtain ⟨a, xs, rfl, hx, hr1⟩ := r1.tup_of
    refine ⟨a, rfl, ⟨xs, Evl.ex_t w1.fr hx⟩, q _ M1 F1 H1 e1 hr w1 ⟨fun i F2 M2 H2 hi e2 w2 _ => ?_, fun F2 M2 H2 e2 w2 _ => ?_, fun i F2 M2 H2 x H3 hi e2 w2 _ hy => ?_⟩⟩
    · exact walk_tup.goes i H2 (by rw [hr1.length]; exact hi) (Evl.ex_t (e2.trans w2.fr) hx)
    · have := walk_tup.stops H2 (Evl.ex_t (e2.trans w2.fr) hx)
      rw [hr1.length] at this; exact this
    · obtain ⟨rfl, hg⟩ := walk_tup.yields i H2 x H3 (by rw [hr1.length]; exact hi) (Evl.ex_t (e2.trans w2.fr) hx) hy
      obtain ⟨d, hd, rd⟩ := hr1.get' hg
      exact ⟨F2, Evl.Ex.refl _, w2, by rw [nth_of hd]; exact rd.mono e2⟩
theorem ei_lst {RM : Ms → Prop} {ds : List DV} (h : EvR K te ρ M fun d M' => d = .lst ds ∧ RM M') : EvI K (iList K te) ρ M [] ds.length (nth ds) RM := fun N F σ H S Q q =>
  h N F σ H S _ fun v d M1 F1 H1 e1 ⟨hd, hr⟩ w1 r1 => by
    subst hd
    obtain ⟨a, xs, rfl, hx, hr1⟩ := r1.lst_of
    refine ⟨a, rfl, ⟨xs, SqL.of (w1.fr _ _ hx)⟩, q _ M1 F1 H1 e1 hr w1 ⟨fun i F2 M2 H2 hi e2 w2 _ => ?_, fun F2 M2 H2 e2 w2 _ => ?_, fun i F2 M2 H2 x H3 hi e2 w2 _ hy => ?_⟩⟩
    · exact walk_list.goes i H2 (by rw [hr1.length]; exact hi) (SqL.of ((e2.trans w2.fr) _ _ hx))
    · have := (walk_list (K := K)).stops H2 (SqL.of ((e2.trans w2.fr) _ _ hx))
      rw [hr1.length] at this; exact this
    · obtain ⟨rfl, hg⟩ := walk_list.yields i H2 x H3 (by rw [hr1.length]; exact hi) (SqL.of ((e2.trans w2.fr) _ _ hx)) hy
      obtain ⟨d, hd, rd⟩ := hr1.get' hg
      exact ⟨F2, Evl.Ex.refl _, w2, by rw [nth_of hd]; exact rd.mono e2⟩
theorem ei_rd {RM : Ms → Prop} {ds : List DV} (h : EvR K te ρ M fun d M' => d = .rd ds ∧ RM M') : EvI K (iList K te) ρ M [] ds.length (nth ds) RM := fun N F σ H S Q q =>
  h N F σ H S _ fun v d M1 F1 H1 e1 ⟨hd, hr⟩ w1 r1 => by
    subst hd
    obtain ⟨a, xs, rfl, hx, hr1⟩ := r1.rd_of
    refine ⟨a, rfl, ⟨xs, Evl.ex_l w1.fr hx⟩, q _ M1 F1 H1 e1 hr w1 ⟨fun i F2 M2 H2 hi e2 w2 _ => ?_, fun F2 M2 H2 e2 w2 _ => ?_, fun i F2 M2 H2 x H3 hi e2 w2 _ hy => ?_⟩⟩
    · exact walk_list.goes i H2 (by rw [hr1.length]; exact hi) (Evl.ex_l (e2.trans w2.fr) hx)
    · have := (walk_list (K := K)).stops H2 (Evl.ex_l (e2.trans w2.fr) hx)
      rw [hr1.length] at this; exact this
    · obtain ⟨rfl, hg⟩ := walk_list.yields i H2 x H3 (by rw [hr1.length]; exact hi) (Evl.ex_l (e2.trans w2.fr) hx) hy
      obtain ⟨d, hd, rd⟩ := hr1.get' hg
      exact ⟨F2, Evl.Ex.refl _, w2, by rw [nth_of hd]; exact rd.mono e2⟩
/-- of an owned list, that stays as it is meanwhile -/
theorem ei_lstC {RM : Ms → Prop} {ds : List DV} {a : Addr} (h : EvR K te ρ M fun d M' => d = .raw (.ref a) ∧ (a, MO.lst ds) ∈ M' ∧ RM M') : EvI K (iList K te) ρ M [(a, .lst ds)] ds.length (nth ds) RM := fun N F σ H S Q q =>
  h N F σ H S _ fun v d M1 F1 H1 e1 ⟨hd, hm, hr⟩ w1 r1 => by
    subst hd
    cases r1.raw_of
    obtain ⟨_, xs0, hx0, hr0⟩ := w1.ce a _ (List.mem_append_right N hm)
    refine ⟨a, rfl, ⟨xs0, SqL.of hx0⟩, q _ M1 F1 H1 e1 hr w1 ⟨fun i F2 M2 H2 hi e2 w2 hg => ?_, fun F2 M2 H2 e2 w2 hg => ?_, fun i F2 M2 H2 x H3 hi e2 w2 hg hy => ?_⟩⟩
    · obtain ⟨_, xs, hx, hr1⟩ := w2.ce a _ (hg _ List.mem_cons_self)
      exact walk_list.goes i H2 (by rw [hr1.length]; exact hi) (SqL.of hx)
    · obtain ⟨_, xs, hx, hr1⟩ := w2.ce a _ (hg _ List.mem_cons_self)
      have := (walk_list (K := K)).stops H2 (SqL.of hx)
      rw [hr1.length] at this; exact this
    · obtain ⟨_, xs, hx, hr1⟩ := w2.ce a _ (hg _ List.mem_cons_self)
      obtain ⟨rfl, hg⟩ := walk_list.yields i H2 x H3 (by rw [hr1.length]; exact hi) (SqL.of hx) hy
      obtain ⟨d, hd, rd⟩ := hr1.get' hg
      exact ⟨F2, Evl.Ex.refl _, w2, by rw [nth_of hd]; exact rd⟩
end
end DD

set_option Elab.async false
set_option linter.all false
set_option maxRecDepth 100000
set_option maxHeartbeats 4000000
/-! enumerate of a tuple -/
namespace DE
open PySem PySem.Spec PyProof.Rows L2
section
variable {P : Program} {w : World} {A : Around} {E : Value → Shared → Prop} {z : Shared} {c j a : Addr} {n : Nat} {its : Array Value}
/-- the inner draw: one more of the tuple -/
theorem draw1 {y : Value} {Q : Value → Shared → Prop} (hj : z.heap.IsTupleIter j a n) (ha : z.heap.IsTuple a its) (hy : its[n]? = some y) (k : ∀ g, g.IsTupleIter j a (n + 1) → Heap.SameBut j z.heap g → Q y { z with heap := g }) :
    wpAny (model P w) A (Builtin.SmallTypes.nextOf (.ref j)) Q E z := by
  obtain ⟨ob, hob, hcl, hdt⟩ := id hj
  obtain ⟨ot, hot, _, nt, hdtt⟩ := ha
  unfold Builtin.SmallTypes.nextOf
  refine wpAny_bind (wpAny_callSpecial?_slot (name := Str.ofString "__next__") hj.typeIs F.slot_tuple_iterator_next (wpAny_call_entry F.slot_tuple_iterator_next hj.typeIs F.entry_tuple_iterator_next ?_ (F.args_tuple_iterator_next_1 _)))
  show wpAny _ _ (field (.ref j) 0 >>= _) _ _ z
  refine wpAny_bind (wpAny_field hob hdt (x := .ref a) rfl ?_); show wpAny _ _ (if (Value.ref a == Value.none) = true then _ else _) _ _ z
  rw [if_neg (show ¬ ((Value.ref a == Value.none) = true) from Bool.false_ne_true)]; show wpAny _ _ (field (.ref j) 1 >>= _) _ _ z
  refine wpAny_bind (wpAny_field hob hdt (x := .int n 0) rfl ?_); show wpAny _ _ (seqItems? (.ref a) >>= _) _ _ z
  refine wpAny_bind (wpAny_seqItems hot hdtt ?_)
  simp only [Int.toNat_natCast, hy]
  refine wpAny_bind (wpAny_setField hob hdt (by simp) (wpAny_pure ⟨y, rfl, wpAny_pure (k _ ⟨_, Heap.get?_update_self _ hob (Obj.isFreed_of_fields (Obj.data_mapFields hdt _)), (Obj.cls_mapFields ..).trans hcl, ?_⟩ (Heap.SameBut.update ..))⟩))
  rw [Obj.data_mapFields hdt]; simp [rawInt]
theorem draw0 {Q : Value → Shared → Prop} (hh : A.handled = none) (hj : z.heap.IsTupleIter j a n) (ha : z.heap.IsTuple a its) (hy : its[n]? = none)
    (k : ∀ g x, Heap.ExtBut j z.heap g → (∃ o, g.get? x = some o ∧ o.cls = .type "StopIteration") → E (.ref x) { z with heap := g }) : wpAny (model P w) A (Builtin.SmallTypes.nextOf (.ref j)) Q E z := by
  obtain ⟨ob, hob, hcl, hdt⟩ := id hj
  obtain ⟨ot, hot, _, nt, hdtt⟩ := ha
  unfold Builtin.SmallTypes.nextOf
  refine wpAny_bind (wpAny_callSpecial?_slot (name := Str.ofString "__next__") hj.typeIs F.slot_tuple_iterator_next (wpAny_call_entry F.slot_tuple_iterator_next hj.typeIs F.entry_tuple_iterator_next ?_ (F.args_tuple_iterator_next_1 _)))
  show wpAny _ _ (field (.ref j) 0 >>= _) _ _ z
  refine wpAny_bind (wpAny_field hob hdt (x := .ref a) rfl ?_); show wpAny _ _ (if (Value.ref a == Value.none) = true then _ else _) _ _ z
  rw [if_neg (show ¬ ((Value.ref a == Value.none) = true) from Bool.false_ne_true)]; show wpAny _ _ (field (.ref j) 1 >>= _) _ _ z
  refine wpAny_bind (wpAny_field hob hdt (x := .int n 0) rfl ?_); show wpAny _ _ (seqItems? (.ref a) >>= _) _ _ z
  refine wpAny_bind (wpAny_seqItems hot hdtt ?_)
  simp only [Int.toNat_natCast, hy]
  refine wpAny_bind (wpAny_rule (wpAny_bind (wpAny_setField hob hdt (by simp) ?_)))
  refine (show wpAny _ _ (newExc (.type "StopIteration") [] >>= _) _ _ _ from wpAny_bind ?_)
  simp only [newExc, newTuple]
  refine wpAny_bind (wpAny_newObj_type ?_ (by size_fits))
  refine wpAny_bind (m := firstArgMember _ _) (wpAny_of_eq (a := Value.none) (by first | rfl | (simp only [firstArgMember]; rfl)) (wpAny_newObj_type ?_ (by size_fits)))
  simp only [raiseNew]
  refine wpAny_bind (wpAny_handled ?_)
  first | rw [show A.in1.handled = none from hh] | rw [hh]
  exact wpAny_bind (wpAny_pure (wpAny_throw (k _ _ (((Heap.SameBut.update ..).extBut.push _).push _) ⟨_, Heap.get?_push_size _ rfl, rfl⟩)))
theorem enext {y old : Value} {Q : Value → Shared → Prop} (hc : IsEnum z.heap c j n old) (hj : z.heap.IsTupleIter j a n) (ha : z.heap.IsTuple a its) (hy : its[n]? = some y) (hcj : c ≠ j)
    (k : ∀ g, IsEnumOut g c j ((n : Int) + 1) y z.heap.objs.size → g.IsTupleIter j a (n + 1) → g.get? z.heap.objs.size = some { cls := .type "tuple", data := .seq #[.int n z.toks, y] } → g.objs.size = z.heap.objs.size + 1 →
      (∀ b o, b ≠ c → b ≠ j → z.heap.get? b = some o → g.get? b = some o) → Q (.ref z.heap.objs.size) { z with heap := g, toks := z.toks + 1 }) :
    wpAny (model P w) A (Builtin.«enumerate.__next__» ⟨[.ref c], []⟩) (fun fin s' => ∃ v, fin = .done (.ret v) ∧ Q v s') E z := by
  obtain ⟨q0, gg, dd, tt, oo⟩ := z
  show wpAny _ _ (field (.ref c) 2 >>= _) _ _ _
  refine wpAny_bind (wpAny_field hc rfl (x := .ref j) rfl (wpAny_bind (draw1 hj ha hy fun q1 hj1 hs1 => ?_)))
  replace hs1 : Heap.SameBut j q0 q1 := hs1
  have hc1 : IsEnum q1 c j n old := (hs1.2 c hcj).trans hc
  show wpAny _ _ (field (.ref c) 3 >>= _) _ _ ⟨q1, gg, dd, tt, oo⟩
  refine wpAny_bind (wpAny_field hc1 rfl (x := rawInt n) rfl ?_); show wpAny _ _ (field (.ref c) 4 >>= _) _ _ ⟨q1, gg, dd, tt, oo⟩
  refine wpAny_bind (wpAny_field hc1 rfl (x := .none) rfl ?_); show wpAny _ _ (mkInt n >>= _) _ _ ⟨q1, gg, dd, tt, oo⟩
  refine wpAny_bind (wpAny_mkInt ?_); show wpAny _ _ (setField (.ref c) 3 (rawInt ((n : Int) + 1)) >>= _) _ _ ⟨q1, gg, dd, tt + 1, oo⟩
  refine wpAny_bind (wpAny_setField_rec hc1 (by simp) fun q2 hc2 hs2 => ?_)
  replace hs2 : Heap.SameBut c q1 q2 := hs2
  replace hc2 : IsEnum q2 c j ((n : Int) + 1) old := hc2
  show wpAny _ _ (setField (.ref c) 4 .none >>= _) _ _ ⟨q2, gg, dd, tt + 1, oo⟩
  refine wpAny_bind (wpAny_setField_rec hc2 (by simp) fun q3 hc3 hs3 => ?_)
  replace hs3 : Heap.SameBut c q2 q3 := hs3
  replace hc3 : IsEnum q3 c j ((n : Int) + 1) old := hc3
  show wpAny _ _ (newTuple [.int n tt, y] >>= _) _ _ ⟨q3, gg, dd, tt + 1, oo⟩
  refine wpAny_bind (wpAny_newTuple ?_)
  have hc4 : IsEnum (q3.push { cls := .type "tuple", data := .seq #[.int n tt, y] }) c j ((n : Int) + 1) old := Heap.get?_push_of_some _ hc3
  generalize hq4 : q3.push { cls := .type "tuple", data := .seq #[.int n tt, y] } = q4 at hc4
  have s3 : q3.objs.size = q0.objs.size := by rw [hs3.1, hs2.1, hs1.1]
  have cl : c < q0.objs.size := Heap.lt_size hc
  have t4 : q4.get? q0.objs.size = some { cls := .type "tuple", data := .seq #[.int n tt, y] } := by rw [← hq4, ← s3]; exact Heap.get?_push_size _ rfl
  have s4 : q4.objs.size = q0.objs.size + 1 := by rw [← hq4, Heap.size_push, s3]
  have k4 : ∀ b o, b ≠ c → b ≠ j → q0.get? b = some o → q4.get? b = some o := fun b o hb hb' ho => by
    rw [← hq4]; exact Heap.get?_push_of_some _ (hs3.extBut b o hb (hs2.extBut b o hb (hs1.extBut b o hb' ho)))
  have j4 : q4.IsTupleIter j a (n + 1) := by
    rw [← hq4]; obtain ⟨o, ho, rr⟩ := (hj1.extBut hs2.extBut (Ne.symm hcj)).extBut hs3.extBut (Ne.symm hcj); exact ⟨o, Heap.get?_push_of_some _ ho, rr⟩
  show wpAny _ _ (Builtin.SmallTypes.ownedTupleIsFree (.ref c) >>= _) _ _ ⟨q4, gg, dd, tt + 1, oo⟩
  rw [s3]
  clear hq4 hc3 hs3 hc2 hs2 hc1 hs1 hj1 s3 q3 q2 q1
  refine wpAny_bind ?_
  unfold Builtin.SmallTypes.ownedTupleIsFree
  refine wpAny_bind (wpAny_field hc4 rfl (x := .none) rfl (wpAny_pure ?_))
  simp only [if_true]
  refine wpAny_bind (wpAny_rule (wpAny_bind (wpAny_field hc4 rfl (x := old) rfl (wpAny_bind (wpAny_setField_rec hc4 (by simp) fun q5 hc5 hs5 => ?_)))))
  replace hs5 : Heap.SameBut c q4 q5 := hs5
  replace hc5 : IsEnum q5 c j ((n : Int) + 1) y := hc5
  show wpAny _ _ (Builtin.SmallTypes.ownedTupleHandOut (.ref c) (.ref q0.objs.size) >>= _) _ _ ⟨q5, gg, dd, tt + 1, oo⟩
  refine wpAny_bind ?_
  unfold Builtin.SmallTypes.ownedTupleHandOut
  refine wpAny_bind (wpAny_setField_rec hc5 (by simp) fun q6 hc6 hs6 => ?_)
  replace hs6 : Heap.SameBut c q5 q6 := hs6
  replace hc6 : IsEnumOut q6 c j ((n : Int) + 1) y q0.objs.size := hc6
  refine wpAny_setField_rec hc6 (by simp) fun q7 hc7 hs7 => ?_
  replace hs7 : Heap.SameBut c q6 q7 := hs7
  replace hc7 : IsEnumOut q7 c j ((n : Int) + 1) y q0.objs.size := hc7
  have gt : q0.objs.size ≠ c := Nat.ne_of_gt cl
  exact wpAny_bind (wpAny_letGo (wpAny_pure ⟨_, rfl, k q7 hc7 (((j4.extBut hs5.extBut (Ne.symm hcj)).extBut hs6.extBut (Ne.symm hcj)).extBut hs7.extBut (Ne.symm hcj))
    (hs7.extBut _ _ gt (hs6.extBut _ _ gt (hs5.extBut _ _ gt t4))) (by rw [hs7.1, hs6.1, hs5.1, s4]) fun b o hb hb' ho => hs7.extBut b o hb (hs6.extBut b o hb (hs5.extBut b o hb (k4 b o hb hb' ho)))⟩))
theorem pnext {y old : Value} {Q : Option Value → Shared → Prop} (hc : IsEnum z.heap c j n old) (hj : z.heap.IsTupleIter j a n) (ha : z.heap.IsTuple a its) (hy : its[n]? = some y) (hcj : c ≠ j)
    (k : ∀ g, IsEnumOut g c j ((n : Int) + 1) y z.heap.objs.size → g.IsTupleIter j a (n + 1) → g.get? z.heap.objs.size = some { cls := .type "tuple", data := .seq #[.int n z.toks, y] } → g.objs.size = z.heap.objs.size + 1 →
      (∀ b o, b ≠ c → b ≠ j → z.heap.get? b = some o → g.get? b = some o) → Q (some (.ref z.heap.objs.size)) { z with heap := g, toks := z.toks + 1 }) : wpAny (model P w) A (pyNext (.ref c)) Q E z := by
  have ty : z.TypeIs (.ref c) "enumerate" := ⟨_, hc, rfl⟩
  unfold pyNext
  exact wpAny_bind (wpAny_attempt (wpAny_callSpecial?_slot (name := Str.ofString "__next__") ty F.slot_enumerate_next (wpAny_call_entry F.slot_enumerate_next ty F.entry_enumerate_next (enext hc hj ha hy hcj fun g u1 u2 u3 u4 u5 => wpAny_pure (k g u1 u2 u3 u4 u5)) (F.args_enumerate_next_1 _))))
theorem pend {old : Value} {Q : Option Value → Shared → Prop} (hh : A.handled = none) (hc : IsEnum z.heap c j n old) (hj : z.heap.IsTupleIter j a n) (ha : z.heap.IsTuple a its) (hy : its[n]? = none)
    (k : ∀ g, Heap.ExtBut j z.heap g → Q none { z with heap := g }) : wpAny (model P w) A (pyNext (.ref c)) Q E z := by
  have ty : z.TypeIs (.ref c) "enumerate" := ⟨_, hc, rfl⟩
  unfold pyNext
  refine wpAny_bind (wpAny_attempt (wpAny_callSpecial?_slot (name := Str.ofString "__next__") ty F.slot_enumerate_next (wpAny_call_entry F.slot_enumerate_next ty F.entry_enumerate_next ?_ (F.args_enumerate_next_1 _))))
  show wpAny _ _ (field (.ref c) 2 >>= _) _ _ _
  refine wpAny_bind (wpAny_field hc rfl (x := .ref j) rfl (wpAny_bind (draw0 hh hj ha hy fun g x he hx => ?_)))
  obtain ⟨o, ho, hcl⟩ := hx
  exact wpAny_bind (wpAny_isInstance (T := "StopIteration") (b := true) ⟨o, ho, hcl⟩ isSubtype_stop (wpAny_pure (k _ he)))
theorem mk_new (a : Addr) (items : Array Value) (n : Nat) (dct : Option Addr) (sl : Array (Option Value)) :
    Meets (Builtin.«enumerate.__new__» ⟨[.type "enumerate", .ref a], []⟩) (fun _ R s => s.heap.get? a = some { cls := .type "tuple", dict := dct, data := .seq items n, slots := sl } ∧
      R (.ok (.ret (.ref (s.heap.push { cls := .type "tuple_iterator", data := .fields #[.ref a, .int 0 0] }).objs.size)))
        { s with heap := (s.heap.push { cls := .type "tuple_iterator", data := .fields #[.ref a, .int 0 0] }).push { cls := .type "enumerate", data := .fields #[.none, .bool false, .ref s.heap.objs.size, rawInt 0, .none, .none] } }) :=
  .of_wp fun prog w A R s h => by
    obtain ⟨q0, gg, dd, tt, oo⟩ := s; obtain ⟨hl, h⟩ := h
    have hsub := PySem.sub_enumerate
    have hT : Heap.IsTuple (Shared.heap ⟨q0, gg, dd, tt, oo⟩) a items := ⟨_, hl, rfl, n, rfl⟩
    wp_walk using AutoSeq1.wpAny_loadPart' hl
    refine wpAny_stack_any fun st => wpAny_pure ?_
    split
    · rename_i u _ _ _ _ _
      cases (u == Value.type "enumerate") <;> (wp_walk using AutoSeq1.wpAny_loadPart' hl, wpAny_pyIter_tuple hT; exact ⟨_, rfl, h⟩)
    · wp_walk using AutoSeq1.wpAny_loadPart' hl, wpAny_pyIter_tuple hT; exact ⟨_, rfl, h⟩
theorem ecall {Q : Value → Shared → Prop} (ha : z.heap.IsTuple a its) (k : ∀ g, IsEnum g (z.heap.objs.size + 1) z.heap.objs.size 0 .none → g.IsTupleIter z.heap.objs.size a 0 → g.objs.size = z.heap.objs.size + 2 →
      (∀ b o, z.heap.get? b = some o → g.get? b = some o) → Q (.ref (z.heap.objs.size + 1)) { z with heap := g }) : wpAny (model P w) A (call (.type "enumerate") [.ref a]) Q E z := by
  obtain ⟨⟨cl, dct, dt, sl⟩, hl, hcl, nn, hdt⟩ := ha
  replace hcl : cl = .type "tuple" := hcl
  replace hdt : dt = .seq its nn := hdt
  subst hcl hdt
  refine callType_new F.called_enumerate (by decide) (F.typeCall_enumerate_1 _) (F.newCall_enumerate_1 _) (fun ob => F.args_object_init_2 ob _) F.entry_enumerate_new (mk_new a its nn dct sl) ⟨hl, ?_⟩
  have sz1 : (z.heap.push { cls := .type "tuple_iterator", data := .fields #[.ref a, .int 0 0] }).objs.size = z.heap.objs.size + 1 := Heap.size_push ..
  show _ ∧ _
  rw [sz1]
  have he : IsEnum ((z.heap.push { cls := .type "tuple_iterator", data := .fields #[.ref a, .int 0 0] }).push { cls := .type "enumerate", data := .fields #[.none, .bool false, .ref z.heap.objs.size, rawInt 0, .none, .none] }) (z.heap.objs.size + 1) z.heap.objs.size 0 .none := by
    have q := Heap.get?_push_size (z.heap.push { cls := .type "tuple_iterator", data := .fields #[.ref a, .int 0 0] }) (o := { cls := .type "enumerate", data := .fields #[.none, .bool false, .ref z.heap.objs.size, rawInt 0, .none, .none] }) rfl
    rw [sz1] at q; exact q
  exact ⟨⟨_, he, rfl⟩, k _ he ⟨_, Heap.get?_push_of_some _ (Heap.get?_push_size _ rfl), rfl, rfl⟩ (by rw [Heap.size_push, sz1]) fun b o x => Heap.get?_push_of_some _ (Heap.get?_push_of_some _ x)⟩
end
/-- the tuple at a, each item in a new pair -/
def ItE (K : PySem.W.Frag) (a : Addr) : It :=
  ⟨fun i H => ∃ (xs : List V) (x : V), SqT K H a xs ∧ xs[i]? = some x, fun i H v H' => ∃ T x, v = .ref T ∧ H T = none ∧ H' = upd H T (.tup [.int (i : Nat), x]) ∧ ∀ xs, SqT K H a xs → xs[i]? = some x, fun i H => ∃ xs : List V, SqT K H a xs ∧ xs.length ≤ i⟩
theorem turnE {P : Program} {w : World} {K : PySem.W.Frag} {elts : List Expr} {kk : Nat} {tpos : Pos} (a e it : Addr) :
    Turn P w K (.Tuple elts kk tpos) (ItE K a) [e, it] e (fun i h => (∃ old, IsEnum h e it ((i : Nat) : Int) old) ∧ h.IsTupleIter it a i ∧ e ≠ it) where
  mem := List.mem_cons_self
  obj := fun i h st b hb => by
    obtain ⟨⟨prev, he⟩, ⟨ob, ho, hcl, hdt⟩, _⟩ := st
    rcases (show b = e ∨ b = it by simpa using hb) with q | q
    · rw [q]; exact ⟨_, he, fun v r => nomatch r⟩
    · rw [q]; exact ⟨ob, ho, fun v r => by rw [hdt] at r; cases r⟩
  keep := fun i h h' st k => let ⟨⟨prev, he⟩, hi, hcj⟩ := st; ⟨⟨prev, k e (by simp) _ he⟩, hi.at fun o q => k it (by simp) o q, hcj⟩
  item := by
    intro Y hP hw hK hc i pins z σ H E I hf st hg
    subst hP hw hK
    obtain ⟨⟨prev, he⟩, hit, hcj⟩ := st
    obtain ⟨xs, x, hq, hx⟩ := hg
    obtain ⟨us, rv, pl, hz⟩ := I.tuple hq
    obtain ⟨u, hu, ru⟩ := rv.get hx
    have el : e < z.heap.objs.size := Heap.lt_size he
    have il : it < z.heap.objs.size := let ⟨_, q, _⟩ := hit; Heap.lt_size q
    refine pnext he hit pl (y := u) (by simpa using hu) hcj fun g ho hit' hT hsz hk => ⟨_, rfl, wpAny_letOwnedTupleGo_enum (s := { z with heap := g, toks := z.toks + 1 }) ho fun g2 he' sb => ?_⟩
    have hT2 : g2.get? z.heap.objs.size = some { cls := .type "tuple", data := .seq #[.int i z.toks, u] } := (sb.2 _ (Nat.ne_of_gt el)).trans hT
    have fresh : ObjOk Y.prog Y.w (upd H z.heap.objs.size (.tup [.int (i : Nat), x])) g2 z.heap.objs.size (.tup [.int (i : Nat), x]) := ⟨by show 2 ≤ sizeLine; decide, [.int i z.toks, u], .cons ⟨_, rfl⟩ (.cons ru .nil), ⟨_, hT2, rfl, _, rfl⟩⟩
    have J1 : Inv Y pins σ (upd H z.heap.objs.size (.tup [.int (i : Nat), x])) { z with heap := g2, toks := z.toks + 1 } :=
      I.turnedNew (ch := [e, it]) (fun b ob hb q => (sb.2 b (fun r => hb (by simp [r]))).trans (hk b ob (fun r => hb (by simp [r])) (fun r => hb (by simp [r])) q)) hf (Nat.le_refl _) fresh
    refine ⟨.ref z.heap.objs.size, _, J1, rfl, ⟨_, x, rfl, I.hok.fresh (Nat.le_refl _), rfl, fun ys hy => by rw [I.tuple_inj hy hq]; exact hx⟩, ⟨⟨u, ?_⟩, hit'.at fun o q => (sb.2 it (Ne.symm hcj)).trans q, hcj⟩, fun b hb => ?_⟩
    · rw [show ((i + 1 : Nat) : Int) = (i : Int) + 1 by omega]; exact he'
    · have hlt : b < z.heap.objs.size := by
        rcases (show b = e ∨ b = it by simpa using hb) with q | q
        · rw [q]; exact el
        · rw [q]; exact il
      rw [upd_ne (Nat.ne_of_lt hlt)]
      exact (hf b hb).1
  done := by
    intro Y hP hw hK hc i pins z σ H E I hf st hg
    subst hP hw hK
    obtain ⟨⟨prev, he⟩, hit, hcj⟩ := st
    obtain ⟨xs, hq, hx⟩ := hg
    obtain ⟨us, rv, pl, hz⟩ := I.tuple hq
    obtain ⟨f0, f1, f2, f3, f4, f5⟩ := hf it (by simp)
    have ln := rv.length
    exact pend (I.ok.hd hc) he hit pl (by simp; omega) fun g eb => ⟨rfl, I.turned (t' := z.toks) (fun b o hb q => eb b o hb q) f0 f1 f3 f4 f5⟩
  self := fun A i z Q E st h => let ⟨⟨_, he⟩, _⟩ := st; wpAny_pyIter_enum he h
def iEnumT (K : PySem.W.Frag) (ta : TA) : TI := fun σ H R => ta σ H fun vs H1 => ∃ a xs, vs = [.ref a] ∧ SqT K H1 a xs ∧ R (ItE K a) H1
theorem pi_enumT {X : Cx} {e : Expr} {ta : TA} {p pos tpos : Pos} {elts : List Expr} {kk : Nat} (hg : Gl X "enumerate") (hm : X.mg "enumerate" = none) (ha : PA X [e] ta) (hs : starEach [e] X.env = [(false, eval e X.env)] := by rfl) :
    PI X (.Tuple elts kk tpos) (.Call (.Name "enumerate" p) [e] [] pos) (iEnumT X.K ta) := by
  refine ⟨fun pins z σ H R I h => Call_ (ld_blt I hg hm boot_enumerate (PyProof.Rows.callWith_type1 (thn (ha.run pos pins z σ H _ I h) fun us s1 ⟨vs, H1, I1, r1, q1⟩ => ?_) hs rfl))⟩
  obtain ⟨a, xs, ex, hq, q⟩ := q1
  subst ex
  cases r1 with
  | cons r rr =>
    cases rr
    cases r
    obtain ⟨us, rv, pl, hz⟩ := I1.tuple hq
    refine ecall pl fun g he hit hsz hk => wpAny_pyIter_enum he ?_
    have I2 : Inv X pins σ H1 { s1 with heap := g } := I1.kept (t' := s1.toks) hk
    refine ⟨s1.heap.objs.size + 1, [s1.heap.objs.size + 1, s1.heap.objs.size], _, _, H1, rfl, I2, turnE a (s1.heap.objs.size + 1) s1.heap.objs.size, ⟨⟨.none, he⟩, hit, Nat.succ_ne_self _⟩, fun b hb => ?_, q⟩
    have hle : s1.heap.objs.size ≤ b := by
      rcases (show b = s1.heap.objs.size + 1 ∨ b = s1.heap.objs.size by simpa using hb) with z | z
      · rw [z]; exact Nat.le_add_right _ _
      · rw [z]; exact Nat.le_refl _
    exact I1.fpOk hle (I1.hok.fresh hle)
end DE

set_option Elab.async false
set_option linter.all false
set_option maxRecDepth 100000
set_option maxHeartbeats 4000000
/-! defs that run where no repr is going on -/
namespace DD
open PySem PySem.Spec PyProof.Rows L2
section
variable {P : Program} {w : World} {K : PySem.W.Frag} {mg : Str → Option Value} {base : Heap} {CX : CXT} {k : Nat} {f : Addr} {fd : FuncData} {ps : List Str} {sp : Sp}
structure FnG (P : Program) (w : World) (K : PySem.W.Frag) (mg : Str → Option Value) (base : Heap) (CX : CXT) (k : Nat) (f : Addr) (fd : FuncData) (ps : List Str) (sp : Sp) : Prop where
  len : ∀ xs H Q E, sp xs H Q E → xs.length = ps.length
  run : ∀ (A : Around) (up : List Env) (z : Shared) (H : Hp) (args : Args) (us : List Value) (xs : List V) (Q : VK) (E : XK), A.guards = some [] → Room k A → Env0 P w K mg base A up z H → BindsTo z fd args (ps.zip us) → Vals xs us → sp xs H Q E →
    codeAny (model P w) A (.call (.ref f) args) (CR CX up P w H z Q E) z
theorem FnG.mono {j : Nat} (F : FnG P w K mg base CX j f fd ps sp) (h : j ≤ k) : FnG P w K mg base CX k f fd ps sp := ⟨F.len, fun A up z H args us xs Q E hg hr => F.run A up z H args us xs Q E hg (hr.mono h)⟩
theorem fnOk_g (F : FnOk P w K mg base CX k f fd ps sp) : FnG P w K mg base CX k f fd ps sp := ⟨F.len, fun A up z H args us xs Q E _ => F.run A up z H args us xs Q E⟩
/-- a def by its body -/
theorem fnG_of {name qual : Str} {params : Arguments} {body : List Stmt} {scope : Scope} {dV kV doc pm cdv ct oc : Value} {an od : Option Addr} {osl : Array (Option Value)} {N : List Str}
    (lk : K.lookup f = some ⟨oc, od, .func (PySem.W.fnOf name qual params body scope dV kV doc pm an cdv ct), osl⟩) (hcode : PySem.W.codeIn K cdv qual = true) (S : FnScope N ps scope) (len : ∀ xs H Q E, sp xs H Q E → xs.length = ps.length)
    (hb : ∀ (A : Around) (up : List Env) (z : Shared) (H : Hp) (xs : List V) (Q : VK) (E : XK), A.guards = some [] → Room k (A.deeper (envOfC qual scope z.heap.objs.size f cdv)) → sp xs H Q E → ∃ t, PSs (cxOf CX P w K mg base N qual scope f cdv A up z H E) body t ∧ t { nx := fun _ H' => Q .non H', rt := Q } (start N xs) H) :
    FnG P w K mg base CX (k + 1) f (PySem.W.fnOf name qual params body scope dV kV doc pm an cdv ct) ps sp := by
  refine ⟨len, fun A up z H args us xs Q E hg hr e0 hbi r hs => ?_⟩
  have KZ : K.In z.heap := e0.mod.kin.keeps fun b o e => (e0.bs b o e).1
  have nl : z.heap.NoLimit := e0.mod.nolimit.keeps fun b o e => (e0.bs b o e).1
  have hk : ∀ y ∈ ps.zip us, scope.names.lookup y.1 = some .local ∨ (scope.names.lookup y.1 = some .cell ∧ ((cellsFrom (z.heap.objs.size + 1) scope.names []).lookup y.1).isSome = true) := fun ⟨n, v⟩ hy => (S.par n (List.of_mem_zip hy).1).elim .inl fun q => .inr ⟨q, PySem.W.cellsFrom_some _ _ _ (.inl q)⟩
  refine codeAny_call_function hr.depth (KZ _ _ lk) rfl S.co S.gen rfl (PySem.W.codeRec_of KZ hcode) (hbi _ _ _ _ (wpAny_newFunctionEnv_cells S.kind hk fun env he z1 x => ?_))
  subst he
  refine ⟨nl.keeps x.toInCall.keep, codeAny_func ?_⟩
  obtain ⟨t, ht, hq⟩ := hb A up z H xs Q E hg (hr.deeper _) hs
  have J0 : Inv (cxOf CX P w K mg base N qual scope f cdv A up z H E) [] (start N xs) H z1 := inv_start S hr.hd e0 (len _ _ _ _ hs) r x
  refine wpAny_mono (ht.run [] z1 (start N xs) H _ J0 hq) (fun fl z2 hz => ?_) fun e z2 hz => hz
  cases fl with
  | ret u => obtain ⟨v, σ', H', J, rv, q⟩ := hz; exact ⟨v, H', J.os, J.bare, J.base, J.hok, rv, q⟩
  | next => obtain ⟨σ', H', J, q⟩ := hz; exact ⟨V.non, H', J.os, J.bare, J.base, J.hok, rfl, q⟩
  | brk => obtain ⟨_, _, _, q⟩ := hz; exact q.elim
  | cont => obtain ⟨_, _, _, q⟩ := hz; exact q.elim
theorem fun_okG {x qual : Str} {st : Stmt} {N : List Str} (F : Fun K x qual st f fd) (S : FnScope N ps (defScope st)) (len : ∀ xs H Q E, sp xs H Q E → xs.length = ps.length)
    (hb : ∀ (cdv : Value) (A : Around) (up : List Env) (z : Shared) (H : Hp) (xs : List V) (Q : VK) (E : XK), A.guards = some [] → Room k (A.deeper (envOfC qual (defScope st) z.heap.objs.size f cdv)) → sp xs H Q E →
      ∃ t, PSs (cxOf CX0 P w K mg base N qual (defScope st) f cdv A up z H E).nox (defBody st) t ∧ t { nx := fun _ H' => Q .non H', rt := Q } (start N xs) H) : FnG P w K mg base CX0 (k + 1) f fd ps sp := by
  obtain ⟨oc, od, kV, doc, pm, an, cdv, ct, osl, rfl, lk, hcd⟩ := F.ex
  refine fnG_of lk hcd S len fun A up z H xs Q E hg hr hsp => ?_
  obtain ⟨t, h, q⟩ := hb cdv A up z H xs Q E hg hr hsp
  exact ⟨t, h.nox, q⟩
end
section
variable {X : Cx} {CX : CXT} {k : Nat} {f C : Addr} {fd : FuncData} {ps : List Str} {sp : Sp} {dvs : List V} {ds : List Value} {E : XK} {x m : Str} {p pos apos : Pos} {e o : Expr} {es : List Expr} {ta : TE} {t : TA}
theorem runG {pins : List (Addr × Obj)} {σ : L2.St} {H : Hp} {z : Shared} {Q : VK} {us : List Value} {xs : List V} (hG : X.A.guards = some []) (F : FnG X.prog X.w X.K X.mg X.base CX k f fd ps sp) (hr : Room k X.A) (hb : Binds X.K fd ps ds) (hd : Vals dvs ds) (hx : Passes CX X E)
    (I : Inv X pins σ H z) (r : Vals xs us) (h : sp (xs ++ dvs) H Q E) : wpAny (model X.prog X.w) X.A (call (.ref f) us) (EP X pins σ Q) X.xe z := by
  have r2 : Vals (xs ++ dvs) (us ++ ds) := r.append hd
  refine wpAny_call (codeAny_mono (F.run X.A X.stack z H ⟨us, []⟩ (us ++ ds) (xs ++ dvs) Q E hG hr I.env0 (hb z us I.kIn (by rw [← r2.length]; exact F.len _ _ _ _ h)) r2 h) fun r z' hq => ?_)
  cases r with
  | error e => exact hx pins σ H z e z' I hq
  | ok fl => cases fl with
    | ret u => exact I.after hq
    | next => exact hq.elim
    | brk => exact hq.elim
    | cont => exact hq.elim
theorem pe_callG (hG : X.A.guards = some []) (F : FnG X.prog X.w X.K X.mg X.base CX k f fd ps sp) (hr : Room k X.A) (hg : Gl X x) (hm : X.mg x = some (.ref f)) (hk : PySem.W.keepIn X.K (.ref f) = true) (hb : Binds X.K fd ps ds) (hd : Vals dvs ds) (hx : Passes CX X E) (ha : PA X (e :: es) t)
    (hdb : (x == ("__debug__" : Str)) = false := by decide) (he : starEach (e :: es) X.env = (false, eval e X.env) :: starEach es X.env := by rfl) (hpl : (backTo pos (starEach es X.env)).any (·.1) = false := by rfl) : PE X (.Call (.Name x p) (e :: es) [] pos) (tCall sp dvs E t) :=
  ⟨fun pins z σ H Q I h => wpAny_Call_Name_kw (ld_glob I hg hm (PySem.W.callWith_K (h₀ := X.base) I.ok.mod.kin hk (thn (ha.run pos pins z σ H _ I h) fun us z1 ⟨xs, H1, I1, r, q⟩ => ⟨I1.kIn, runG hG F hr hb hd hx I1 r q⟩) he hpl) hdb)⟩
/-- repr of data -/
def rRepr (K : PySem.W.Frag) : List V → Hp → VK → Prop := fun xs H Q => ∃ (x : V) (d : PyData), xs = [x] ∧ Dp K H x d ∧ d.showable = true ∧ d.hasDict = false ∧ d.depth ≤ 100 ∧ d.shown.length ≤ sizeLine ∧ Q (.str d.shown) H
theorem call_reprD {k : Nat} (hG : X.A.guards = some []) (hr : Room k X.A) : CallR X (.builtin "repr") (rRepr X.K) := by
  intro pins z σ H xs us Q I r h
  obtain ⟨x, d, rfl, hd, hs, hn, hdp, hl, q⟩ := h
  obtain ⟨u, rfl, ru⟩ := vals1 r
  obtain ⟨as, hrd⟩ := Dp.reads I d x u hd ru
  have hu : X.A.units + (d.depth + 1) < cLine := by have := hr.un; omega
  cases hrd with
  | none => exact PySem.P.repr_of_none ⟨.str _, H, I.tok _, ⟨_, rfl⟩, q⟩
  | bool b => exact PySem.P.repr_of_bool ⟨.str _, H, I.tok _, ⟨_, rfl⟩, q⟩
  | int i t => exact PySem.P.repr_of_int (of_decide_eq_true hs) ⟨.str _, H, I.tok _, ⟨_, rfl⟩, q⟩
  | str y t => exact PySem.P.repr_of_str ⟨.str _, H, I.tok _, ⟨_, rfl⟩, q⟩
  | list h1 h2 h3 h4 => exact PySem.repr_of_reads' (.list h1 h2 h3 h4) hs (fun e => by rw [hn] at e; cases e) hG hu (fun _ _ e => e) (fun g tk tk2 hk => ⟨.str _, H, I.kept hk, ⟨_, rfl⟩, q⟩) hl
  | tuple h1 h2 h3 h4 => exact PySem.repr_of_reads' (.tuple h1 h2 h3 h4) hs (fun e => by rw [hn] at e; cases e) hG hu (fun _ _ e => e) (fun g tk tk2 hk => ⟨.str _, H, I.kept hk, ⟨_, rfl⟩, q⟩) hl
  | dict h1 h2 h3 h4 h5 => cases hn
end
/-! ### the law's own call -/
theorem lawG {P : Program} {w : World} {K : PySem.W.Frag} {mg mb : Str → Option Value} {CX : CXT} {k : Nat} {fa a : Addr} {fd : FuncData} {x : Str} {sp : Sp} {z : Shared} {vs : List Value} {ns : List Int} (KX : K.In z.heap) (hns : z.heap.Ns mainGlobals mg) (hb : z.heap.Ns builtinsNs mb)
    (hbb : ∀ x : Str, x ≠ "__name__" → mb x = bootBuiltins x) (hlim : z.heap.NoLimit) (hg : z.gens = #[]) (ha : z.heap.get? a = some { cls := .type "list", data := .seq vs.toArray }) (hi : IntsAre vs ns) (hl : ns.length ≤ sizeLine) (hr : Room k callerA)
    (F : ∀ base : Heap, K.In base → base.Ns mainGlobals mg → FnG P w K mg base CX k fa fd [x] sp) (hbind : ∀ (s : Shared) (u : Value), BindsTo s fd ⟨[u], []⟩ [(x, u)]) (hsp : ∀ H : Hp, Only H → SqL K H a (ns.map V.int) → sp [.ref a] H (fun v _ => v = .bl true) fun _ _ _ => False)
    (hCX : ∀ H e s', CX [] H z (fun _ _ _ => False) e s' → False) : codeAny (model P w) callerA (.call (.ref fa) ⟨[.ref a], []⟩) (fun r s' => r = .ok (.ret (.bool true)) ∧ OldK z.heap s'.heap ∧ s'.os = z.os ∧ AllBare s'.gens) z := by
  have rv := vals_ints hi
  have lv := hi.length
  have main : ∀ H : Hp, Only H → SqL K H a (ns.map V.int) → HOk P w H z.heap → (∀ b, H b ≠ none → b = a) → (H a ≠ none → K.lookup a = none) → codeAny (model P w) callerA (.call (.ref fa) ⟨[.ref a], []⟩) (fun r s' => r = .ok (.ret (.bool true)) ∧ OldK z.heap s'.heap ∧ s'.os = z.os ∧ AllBare s'.gens) z := by
    intro H hO hS hok hA hK
    have notA : ∀ {b : Addr} {o : Obj} {es : Array DictEntry} {ep : Nat}, z.heap.get? b = some o → o.data = .dict es ep → H b = none := fun {b o es ep} e d => by
      cases hq : H b with
      | none => rfl
      | some u =>
        have eb : b = a := hA b (by rw [hq]; simp)
        rw [eb, ha] at e; cases e
        cases (show Data.seq vs.toArray _ = Data.dict es ep from d)
    have carry : ∀ {b : Addr} {m : Str → Option Value}, z.heap.Ns b m → (hidT z.heap H).Ns b m := fun {b m} ⟨o, es, ep, e, d, r⟩ => ⟨o, es, ep, hidT_get e (notA e d), d, r⟩
    have inB : K.In (hidT z.heap H) := fun b o e => hidT_get (KX b o e) (by
      cases hq : H b with
      | none => rfl
      | some u =>
        have eb : b = a := hA b (by rw [hq]; simp)
        rw [eb] at e hq
        rw [hK (by rw [hq]; simp)] at e; cases e)
    have md : Mod K mg (hidT z.heap H) := ⟨inB, carry hns, ⟨mb, carry hb, hbb⟩, let ⟨mc, h1, h2⟩ := hlim; ⟨mc, carry h1, h2⟩⟩
    have ev : Env0 P w K mg (hidT z.heap H) callerA [] z H := ⟨rfl, md, fun b o e => of_hidT e, Nat.le_of_eq (hidT_size _ _), trivial, fun b hb => absurd (show b ∈ ([] : List Addr) from hb) (by simp), hok, .of_eq hg⟩
    refine codeAny_mono ((F _ inB (carry hns)).run callerA [] z H ⟨[.ref a], []⟩ [.ref a] [.ref a] _ _ rfl hr ev (hbind z (.ref a)) (.cons rfl .nil) (hsp H hO hS)) fun r s' h => ?_
    cases r with
    | error e => exact (hCX H e s' h).elim
    | ok fl => cases fl with
      | next => exact h.elim
      | brk => exact h.elim
      | cont => exact h.elim
      | ret u =>
        obtain ⟨v, H', os, bare, un, hok', r', q⟩ := h
        cases (show v = .bl true from q)
        cases (show u = Value.bool true from r')
        refine ⟨rfl, OldK.of_keep fun b o e => ?_, os, bare⟩
        cases hq : H b with
        | none => exact un.keep b o e hq (fun y => absurd (show b ∈ ([] : List Addr) from y) (by simp)) (by simp)
        | some u => rcases hO b with y | ⟨ob, xs, y⟩
                    · rw [hq] at y; cases y
                    · obtain ⟨e1, _⟩ := hok b _ y
                      obtain ⟨e2, _⟩ := hok' b _ (un.frzs b ob _ y)
                      rw [e] at e1; cases e1
                      exact e2
  cases hk : K.lookup a with
  | some o =>
    have e := KX a o hk
    rw [ha] at e
    cases e
    exact main (fun _ => none) (fun _ => .inl rfl) (.inr ⟨_, vs.toArray, _, hk, rfl, rfl, rfl, by rw [List.size_toArray, lv]; exact hl, by simpa using rv⟩) (fun b u y => nomatch (show (none : Option HO) = some u from y)) (fun b y => absurd rfl y) fun y => absurd rfl y
  | none =>
    refine main (fun b => if b = a then some (.frz { cls := .type "list", data := .seq vs.toArray } (.lst (ns.map V.int))) else none) (fun b => ?_) (.inl (.inr ⟨{ cls := .type "list", data := .seq vs.toArray }, if_pos rfl⟩)) (fun b u y => ?_) (fun b y => ?_) fun _ => hk
    all_goals by_cases hb : b = a
    · exact .inr ⟨_, _, if_pos hb⟩
    · exact .inl (if_neg hb)
    · cases (if_pos hb).symm.trans y
      subst hb
      exact ⟨ha, by rw [List.length_map]; exact hl, vs, _, rv, ha⟩
    · cases (if_neg hb).symm.trans y
    · exact hb
    · exact absurd (if_neg hb) y
theorem walkG {l : PySem.W.OpenLaw} {n k : Nat} {q : Program} {loose : List Str} {XP : (Str → Option Value) → Heap → Prop} {YP : World → Heap → Prop} {d : DefRec} {K : Params → PySem.W.Frag} {CX : World → CXT} {sp : World → Sp} {x : Str} (hn : l.most = some n) (hn2 : n ≤ sizeLine) (hdf : d.params.defaults = [])
    (hr : Room k callerA) (hY : ∀ (w : World) (h : Heap), YP w h → (K w.params).In h)
    (F : ∀ (w : World) (mg : Str → Option Value) (fa : Addr) (h : Heap), (K w.params).In h → h.Ns mainGlobals mg → mg d.name = some (.ref fa) → ∃ fd : FuncData, (∀ (s : Shared) (u : Value), BindsTo s fd ⟨[u], []⟩ [(x, u)]) ∧ ∀ base : Heap, (K w.params).In base → base.Ns mainGlobals mg → FnG l.prog w (K w.params) mg base (CX w) k fa fd [x] (sp w))
    (hsp : ∀ (w : World) (H : Hp) (a : Addr) (ns : List Int), ns.length ≤ n → Only H → SqL (K w.params) H a (ns.map V.int) → sp w [.ref a] H (fun v _ => v = .bl true) fun _ _ _ => False) (hCX : ∀ (w : World) (H : Hp) (s : Shared) (e : Value) (s' : Shared), CX w [] H s (fun _ _ _ => False) e s' → False) :
    PySem.W.WalkO q loose XP YP l.row.toRowW d [] (fun f vs => PySem.call f vs) := by
  refine Att.attach_call hn hdf fun w s0 s1 mg mb fa o pm cd doc a vs ns G Y ho hd hcd hmg hobj hints hlen hg => ?_
  obtain ⟨fd, hb, hF⟩ := F w mg fa _ (hY w _ Y) G.T.g hmg
  exact lawG (hY w _ Y) G.T.g G.T.b G.T.builtins G.T.nolimit hg hobj hints (Nat.le_trans hlen hn2) hr hF hb (fun H hO hS => hsp w H a ns hlen hO hS) fun H e s' => hCX w H s1 e s'
end DD

set_option Elab.async false
set_option linter.all false
set_option maxRecDepth 100000
set_option maxHeartbeats 4000000
namespace DD
open PySem PySem.Spec PyProof.Rows L2
/-! ### a def's promise -/
section
variable {P : Program} {w : World} {K : PySem.W.Frag} {mg : Str → Option Value} {base : Heap} {k : Nat} {f : Addr} {fd : FuncData} {N ps : List Str} {x qual : Str} {st : Stmt} {Sp : SpecD}
def rho0 (N : List Str) (ds : List DV) : Rho := ds.map Option.some ++ List.replicate (N.length - ds.length) Option.none
theorem spD_len (len : ∀ ds M R, Sp ds M R → ds.length = ps.length) : ∀ vs H Q E, spD K Sp vs H Q E → vs.length = ps.length := fun vs H Q E ⟨F, N, M, ds, R, w, r, hs, q⟩ => by rw [r.length]; exact len ds M R hs
theorem fnD_core {H : Hp} {vs : List V} {Q : VK} {E : XK} {X : Cx} {body : List Stmt} (h : spD K Sp vs H Q E)
    (hb : ∀ ds M R, Sp ds M R → ∃ t, PSs X body t ∧ XS K t (rho0 N ds) M { nx := fun _ M' => R .non M', rt := R }) : ∃ t, PSs X body t ∧ t { nx := fun _ H' => Q .non H', rt := Q } (L2.start N vs) H := by
  obtain ⟨F, N0, M, ds, R, w, r, hs, q⟩ := h
  obtain ⟨t, ht, hx⟩ := hb ds M R hs
  refine ⟨t, ht, hx N0 F (L2.start N vs) H _ ⟨w, ?_⟩ ⟨fun F' σ' H' ρ' M' e h1 S => q .non .non M' F' H' e h1 S.w .non, fun v F' H' d M' e h1 w1 r1 => q v d M' F' H' e h1 w1 r1, fun _ _ _ _ _ _ z => z.elim, fun _ _ _ _ _ _ z => z.elim⟩⟩
  have := EnvD.start r (N.length - ds.length)
  unfold L2.start rho0
  rw [r.length]
  exact this
theorem fnD (F : Fun K x qual st f fd) (S : FnScope N ps (defScope st)) (len : ∀ ds M R, Sp ds M R → ds.length = ps.length)
    (hb : ∀ (cdv : Value) (A : Around) (up : List Env) (z : Shared) (H : Hp) (E : XK), Room k (A.deeper (envOfC qual (defScope st) z.heap.objs.size f cdv)) → ∀ ds M R, Sp ds M R →
      ∃ t, PSs (cxOf CX0 P w K mg base N qual (defScope st) f cdv A up z H E).nox (defBody st) t ∧ XS K t (rho0 N ds) M { nx := fun _ M' => R .non M', rt := R }) : FnOk P w K mg base CX0 (k + 1) f fd ps (spD K Sp) :=
  F.ok S (spD_len len) fun cdv A up z H vs Q E hr h => fnD_core h fun ds M R hs => hb cdv A up z H E hr ds M R hs
theorem fnDG (F : Fun K x qual st f fd) (S : FnScope N ps (defScope st)) (len : ∀ ds M R, Sp ds M R → ds.length = ps.length)
    (hb : ∀ (cdv : Value) (A : Around) (up : List Env) (z : Shared) (H : Hp) (E : XK), (A.deeper (envOfC qual (defScope st) z.heap.objs.size f cdv)).guards = some [] → Room k (A.deeper (envOfC qual (defScope st) z.heap.objs.size f cdv)) → ∀ ds M R, Sp ds M R →
      ∃ t, PSs (cxOf CX0 P w K mg base N qual (defScope st) f cdv A up z H E).nox (defBody st) t ∧ XS K t (rho0 N ds) M { nx := fun _ M' => R .non M', rt := R }) : FnG P w K mg base CX0 (k + 1) f fd ps (spD K Sp) :=
  fun_okG F S (spD_len len) fun cdv A up z H vs Q E hg hr h => fnD_core h fun ds M R hs => hb cdv A up z H E hg hr ds M R hs
end
/-! ### either of two rules -/
theorem pe_or2 {X : Cx} {e : Expr} {t u : TE} (h1 : PE X e t) (h2 : PE X e u) : PE X e (tOr2 t u) := ⟨fun pins s σ H Q I h => h.elim (h1.run pins s σ H Q I) (h2.run pins s σ H Q I)⟩
theorem callR_or {X : Cx} {f : Value} {r r' : List V → Hp → VK → Prop} (h1 : CallR X f r) (h2 : CallR X f r') : CallR X f (fun xs H Q => r xs H Q ∨ r' xs H Q) := fun pins s σ H xs us Q I r h => h.elim (h1 pins s σ H xs us Q I r) (h2 pins s σ H xs us Q I r)
/-! ### operators -/
def rAddS : R2 := fun x y H Q => ∃ i j, x = .str i ∧ y = .str j ∧ i.length + j.length ≤ sizeLine ∧ Q (.str (i ++ j)) H
def rAddU (K : PySem.W.Frag) : R2 := fun x y H Q => rI0 (fun i j => .int (i + j)) x y H Q ∨ (rAddS x y H Q ∨ (rCatA K x y H Q ∨ rCat x y H Q))
theorem op_addU {X : Cx} : OpR X (binaryOp .Add) (rAddU X.K) := OpR.or op_add (OpR.or op_add_str (OpR.or op_catA op_cat))
def rMulU (K : PySem.W.Frag) : R2 := fun x y H Q => rI CMul (fun i j => .int (i * j)) x y H Q ∨ (rRepT K x y H Q ∨ rRep x y H Q)
theorem op_mulU {X : Cx} : OpR X (binaryOp .Mult) (rMulU X.K) := OpR.or op_mul (OpR.or op_repT op_rep)
section
variable {K : PySem.W.Frag} {M : Ms} {x y z d : DV} {ds es : List DV} {R : DV → Ms → Prop}
theorem rv_add {i j : Int} : RV K (rAddU K) (.int i) (.int j) M (.int (i + j)) := fun N F u v H w h1 h2 Q q => .inl ⟨i, j, h1.int_of, h2.int_of, q _ _ M F H (Evl.Ex.refl F) ⟨rfl, rfl⟩ w (.int _)⟩
theorem rv_addS {i j : Str} (h : i.length + j.length ≤ 100000) : RV K (rAddU K) (.str i) (.str j) M (.str (i ++ j)) := fun N F u v H w h1 h2 Q q => .inr (.inl ⟨i, j, h1.str_of, h2.str_of, Evl.sz_of h, q _ _ M F H (Evl.Ex.refl F) ⟨rfl, rfl⟩ w (.str _)⟩)
theorem rv_addT (h : ds.length + es.length ≤ 100000) : RV K (rAddU K) (.tup ds) (.tup es) M (.tup (ds ++ es)) := fun N F u v H w h1 h2 Q q => .inr (.inr (.inl (by
  obtain ⟨a, xs, rfl, ha, ra⟩ := h1.tup_of
  obtain ⟨b, ys, rfl, hb, rb⟩ := h2.tup_of
  refine ⟨a, b, xs, ys, rfl, rfl, Evl.ex_t w.fr ha, Evl.ex_t w.fr hb, Evl.sz_of (by rw [ra.length, rb.length]; exact h), fun e => ?_, fun _ e => ?_, fun _ _ p hp => ?_⟩
  · subst e; cases ra; exact q _ _ M F H (Evl.Ex.refl F) ⟨rfl, rfl⟩ w (.tup hb rb)
  · subst e; cases rb; exact q _ _ M F H (Evl.Ex.refl F) ⟨by rw [List.append_nil], rfl⟩ w (.tup ha ra)
  · have hn := w.fresh hp
    exact q _ _ M _ _ (ex_new hn) ⟨rfl, rfl⟩ (w.new hp _) (.tup (SqT.of upd_same) ((ra.append rb).mono (ex_new hn))))))
theorem rv_addL (h : ds.length + es.length ≤ 100000) : RV K (rAddU K) (.lst ds) (.lst es) M (.lst (ds ++ es)) := fun N F u v H w h1 h2 Q q => .inr (.inr (.inr (by
  obtain ⟨a, xs, rfl, ha, ra⟩ := h1.lst_of
  obtain ⟨b, ys, rfl, hb, rb⟩ := h2.lst_of
  refine ⟨a, b, xs, ys, rfl, rfl, w.fr _ _ ha, w.fr _ _ hb, Evl.sz_of (by rw [ra.length, rb.length]; exact h), fun p hp => ?_⟩
  have hn := w.fresh hp
  exact q _ _ M _ _ (ex_new hn) ⟨rfl, rfl⟩ (w.new hp _) (.lst upd_same ((ra.append rb).mono (ex_new hn))))))
theorem rv_mul {i j : Int} (h : CMul i j) : RV K (rMulU K) (.int i) (.int j) M (.int (i * j)) := fun N F u v H w h1 h2 Q q => .inl ⟨i, j, h1.int_of, h2.int_of, h, q _ _ M F H (Evl.Ex.refl F) ⟨rfl, rfl⟩ w (.int _)⟩
/-- int op int, an int -/
theorem rv_I0 {g : Int → Int → Int} {i j : Int} : RV K (rI0 fun i j => .int (g i j)) (.int i) (.int j) M (.int (g i j)) := fun N F u v H w h1 h2 Q q => ⟨i, j, h1.int_of, h2.int_of, q _ _ M F H (Evl.Ex.refl F) ⟨rfl, rfl⟩ w (.int _)⟩
theorem rv_B0 {g : Int → Int → Bool} {i j : Int} : RV K (rI0 fun i j => .bl (g i j)) (.int i) (.int j) M (.bl (g i j)) := fun N F u v H w h1 h2 Q q => ⟨i, j, h1.int_of, h2.int_of, q _ _ M F H (Evl.Ex.refl F) ⟨rfl, rfl⟩ w (.bl _)⟩
theorem rv_I {C : Int → Int → Prop} {g : Int → Int → Int} {i j : Int} (h : C i j) : RV K (rI C fun i j => .int (g i j)) (.int i) (.int j) M (.int (g i j)) := fun N F u v H w h1 h2 Q q => ⟨i, j, h1.int_of, h2.int_of, h, q _ _ M F H (Evl.Ex.refl F) ⟨rfl, rfl⟩ w (.int _)⟩
theorem ru_neg {i : Int} : RU K (rU fun i => .int (-i)) (.int i) M (.int (-i)) := fun N F u H w h1 Q q => ⟨i, h1.int_of, q _ _ M F H (Evl.Ex.refl F) ⟨rfl, rfl⟩ w (.int _)⟩
/-! ### data of the library's own kind -/
mutual
def toPy : DV → Option PyData
  | .non => some .none
  | .bl b => some (.bool b)
  | .int i => some (.int i)
  | .str s => some (.str s)
  | .tup xs => (toPyA xs).map .tuple
  | .lst xs => (toPyA xs).map .list
  | .ins _ _ => none
  | .rd _ => none
  | .raw _ => none
  | .dic => none
def toPyA : List DV → Option (List PyData)
  | [] => some []
  | x :: xs => match toPy x, toPyA xs with
    | some y, some ys => some (y :: ys)
    | _, _ => none
end
mutual
theorem Rp.dp {F H : Hp} (e : Ex F H) : ∀ {v : V} {d : DV} {p : PyData}, Rp K F v d → toPy d = some p → Dp K H v p
  | _, _, _, .non, h => by cases h; exact .non
  | _, _, _, .bl b, h => by cases h; exact .bl b
  | _, _, _, .int i, h => by cases h; exact .int i
  | _, _, _, .str s, h => by cases h; exact .str s
  | _, _, _, .raw v, h => by cases h
  | _, _, _, .ins _ _, h => by cases h
  | _, _, _, .rd _ _, h => by cases h
  | _, _, _, .dic _, h => by cases h
  | _, _, p, .tup (ds := ds) hs r, h => by
    unfold toPy at h
    cases hq : toPyA ds with
    | none => rw [hq] at h; cases h
    | some ps => rw [hq] at h; cases h; exact .tup (Evl.ex_t e hs) (RpA.dp e r hq)
  | _, _, p, .lst (ds := ds) hs r, h => by
    unfold toPy at h
    cases hq : toPyA ds with
    | none => rw [hq] at h; cases h
    | some ps => rw [hq] at h; cases h; exact .lst (SqL.of (e _ _ hs)) (RpA.dp e r hq)
theorem RpA.dp {F H : Hp} (e : Ex F H) : ∀ {vs : List V} {ds : List DV} {ps : List PyData}, RpA K F vs ds → toPyA ds = some ps → DpAll K H vs ps
  | _, _, _, .nil, h => by cases h; exact .nil
  | _, _, ps, .cons (d := d) (ds := ds) h1 t, h => by
    unfold toPyA at h
    cases hq : toPy d with
    | none => rw [hq] at h; cases h
    | some y => cases hq2 : toPyA ds with
      | none => rw [hq, hq2] at h; cases h
      | some ys => rw [hq, hq2] at h; cases h; exact .cons (Rp.dp e h1 hq) (RpA.dp e t hq2)
end
def rEqU (K : PySem.W.Frag) : R2 := fun x y H Q => rEq x y H Q ∨ rEqD K x y H Q
def rNeU (K : PySem.W.Frag) : R2 := fun x y H Q => rNe x y H Q ∨ rNeD K x y H Q
theorem op_eqU {X : Cx} {k : Nat} (hr : Room k X.A) : OpR X (compareOp .Eq) (rEqU X.K) := OpR.or op_eq (op_eqD hr.units)
theorem op_neU {X : Cx} {k : Nat} (hr : Room k X.A) : OpR X (compareOp .NotEq) (rNeU X.K) := OpR.or op_ne (op_neD hr.units)
theorem rv_eqD {p q : PyData} (hx : toPy x = some p) (hy : toPy y = some q) (sx : SeqAt.shaped p = true) (sy : SeqAt.shaped q = true) : RV K (rEqU K) x y M (.bl (PyData.eqv p q)) := fun N F u v H w h1 h2 Q k => .inr ⟨p, q, h1.dp w.fr hx, h2.dp w.fr hy, sx, sy, k _ _ M F H (Evl.Ex.refl F) ⟨rfl, rfl⟩ w (.bl _)⟩
theorem rv_neD {p q : PyData} (hx : toPy x = some p) (hy : toPy y = some q) (sx : SeqAt.shaped p = true) (sy : SeqAt.shaped q = true) : RV K (rNeU K) x y M (.bl (!PyData.eqv p q)) := fun N F u v H w h1 h2 Q k => .inr ⟨p, q, h1.dp w.fr hx, h2.dp w.fr hy, sx, sy, k _ _ M F H (Evl.Ex.refl F) ⟨rfl, rfl⟩ w (.bl _)⟩
theorem rv_eqI {i j : Int} : RV K (rEqU K) (.int i) (.int j) M (.bl (decide (i = j))) := fun N F u v H w h1 h2 Q k => by
  cases h1.int_of
  cases h2.int_of
  exact .inl ⟨rfl, k _ _ M F H (Evl.Ex.refl F) ⟨rfl, rfl⟩ w (by simp only [V.int.injEq]; exact .bl _)⟩
theorem rv_neI {i j : Int} : RV K (rNeU K) (.int i) (.int j) M (.bl (!decide (i = j))) := fun N F u v H w h1 h2 Q k => by
  cases h1.int_of
  cases h2.int_of
  exact .inl ⟨rfl, k _ _ M F H (Evl.Ex.refl F) ⟨rfl, rfl⟩ w (by simp only [V.int.injEq]; exact .bl _)⟩
theorem rv_eqS {i j : Str} : RV K (rEqU K) (.str i) (.str j) M (.bl (decide (i = j))) := fun N F u v H w h1 h2 Q k => by
  cases h1.str_of
  cases h2.str_of
  exact .inl ⟨rfl, k _ _ M F H (Evl.Ex.refl F) ⟨rfl, rfl⟩ w (by simp only [V.str.injEq]; exact .bl _)⟩
theorem rv_neS {i j : Str} : RV K (rNeU K) (.str i) (.str j) M (.bl (!decide (i = j))) := fun N F u v H w h1 h2 Q k => by
  cases h1.str_of
  cases h2.str_of
  exact .inl ⟨rfl, k _ _ M F H (Evl.Ex.refl F) ⟨rfl, rfl⟩ w (by simp only [V.str.injEq]; exact .bl _)⟩
theorem rv_eqB {i j : Bool} : RV K (rEqU K) (.bl i) (.bl j) M (.bl (decide (i = j))) := fun N F u v H w h1 h2 Q k => by
  cases h1.bl_of
  cases h2.bl_of
  exact .inl ⟨rfl, k _ _ M F H (Evl.Ex.refl F) ⟨rfl, rfl⟩ w (by simp only [V.bl.injEq]; exact .bl _)⟩
theorem rv_neB {i j : Bool} : RV K (rNeU K) (.bl i) (.bl j) M (.bl (!decide (i = j))) := fun N F u v H w h1 h2 Q k => by
  cases h1.bl_of
  cases h2.bl_of
  exact .inl ⟨rfl, k _ _ M F H (Evl.Ex.refl F) ⟨rfl, rfl⟩ w (by simp only [V.bl.injEq]; exact .bl _)⟩
/-- is this None -/
def isNon : DV → Bool
  | .non => true
  | .raw v => decide (v = .non)
  | _ => false
theorem Rp.non_iff {F : Hp} {v : V} (h : Rp K F v d) : decide (v = .non) = isNon d := by cases h <;> first | rfl | simp [isNon]
def rIsN : R2 := fun x y H Q => y = .non ∧ Q (.bl (decide (x = .non))) H
def rNotN : R2 := fun x y H Q => y = .non ∧ Q (.bl (!decide (x = .non))) H
theorem op_isN' {X : Cx} : OpR X (compareOp .Is) rIsN := op_isN
theorem op_notN' {X : Cx} : OpR X (compareOp .IsNot) rNotN := op_notN
theorem rv_isN : RV K rIsN d .non M (.bl (isNon d)) := fun N F u v H w h1 h2 Q k => ⟨h2.non_of, by rw [h1.non_iff]; exact k _ _ M F H (Evl.Ex.refl F) ⟨rfl, rfl⟩ w (.bl _)⟩
theorem rv_notN : RV K rNotN d .non M (.bl (!isNon d)) := fun N F u v H w h1 h2 Q k => ⟨h2.non_of, by rw [h1.non_iff]; exact k _ _ M F H (Evl.Ex.refl F) ⟨rfl, rfl⟩ w (.bl _)⟩
/-! ### subscripts, slices -/
theorem atI_rpa {F : Hp} {vs : List V} {i : Int} (r : RpA K F vs ds) (h : atI ds i = some d) : ∃ v, atI vs i = some v ∧ Rp K F v d := by
  unfold atI at h ⊢
  rw [r.length]
  cases hj : ixN ds.length i with
  | none => rw [hj] at h; cases h
  | some j =>
    rw [hj] at h
    exact r.get (i := j) (x := d) h
theorem rv_ixT {i : Int} (h : atI ds i = some d) : RV K (rIx K) (.tup ds) (.int i) M d := fun N F u v H w h1 h2 Q k => by
  obtain ⟨a, xs, rfl, ha, ra⟩ := h1.tup_of
  obtain ⟨y, hy, ry⟩ := atI_rpa ra h
  exact .inr (.inl ⟨a, xs, i, y, rfl, h2.int_of, Evl.ex_t w.fr ha, hy, k _ _ M F H (Evl.Ex.refl F) ⟨rfl, rfl⟩ w ry⟩)
theorem rv_ixL {i : Int} (h : atI ds i = some d) : RV K (rIx K) (.lst ds) (.int i) M d := fun N F u v H w h1 h2 Q k => by
  obtain ⟨a, xs, rfl, ha, ra⟩ := h1.lst_of
  obtain ⟨y, hy, ry⟩ := atI_rpa ra h
  exact .inl ⟨a, xs, i, y, rfl, h2.int_of, SqL.of (w.fr _ _ ha), hy, k _ _ M F H (Evl.Ex.refl F) ⟨rfl, rfl⟩ w ry⟩
theorem rv_ixR {i : Int} (h : atI ds i = some d) : RV K (rIx K) (.rd ds) (.int i) M d := fun N F u v H w h1 h2 Q k => by
  obtain ⟨a, xs, rfl, ha, ra⟩ := h1.rd_of
  obtain ⟨y, hy, ry⟩ := atI_rpa ra h
  exact .inl ⟨a, xs, i, y, rfl, h2.int_of, Evl.ex_l w.fr ha, hy, k _ _ M F H (Evl.Ex.refl F) ⟨rfl, rfl⟩ w ry⟩
theorem rv_ixC {i : Int} {a : Addr} (hm : (a, MO.lst ds) ∈ M) (h : atI ds i = some d) : RV K (rIx K) (.raw (.ref a)) (.int i) M d := fun N F u v H w h1 h2 Q k => by
  cases h1.raw_of
  obtain ⟨_, xs, hx, rx⟩ := w.ce a _ (List.mem_append_right N hm)
  obtain ⟨y, hy, ry⟩ := atI_rpa rx h
  exact .inl ⟨a, xs, i, y, rfl, h2.int_of, SqL.of hx, hy, k _ _ M F H (Evl.Ex.refl F) ⟨rfl, rfl⟩ w ry⟩
def EvO (K : PySem.W.Frag) (to : TO) (ρ : Rho) (M : Ms) (o : Option Int) : Prop := ∀ (N : Ms) (F : Hp) (σ : L2.St) (H : Hp), Sn K F (N ++ M) ρ σ H → ∀ Q : Option Int → Hp → Prop, (∀ F' H', Ex F F' → Wd K F' (N ++ M) H' → Q o H') → to σ H Q
variable {ρ : Rho} {te : TE} {tl th : TO} {lo hi : Option Int}
theorem eo_none : EvO K tNoPart ρ M none := fun N F σ H S Q q => q F H (Evl.Ex.refl F) S.w
theorem eo_some {i : Int} (h : Ev K te ρ M (.int i)) : EvO K (tPart te) ρ M (some i) := fun N F σ H S Q q => h N F σ H S _ fun v d M' F' H' e ⟨h1, h2⟩ w r => by
  subst h1 h2; exact ⟨i, r.int_of, q F' H' e w⟩
/-- cutV, of data -/
def cutL (xs : List DV) (lo hi : Option Int) : List DV := (xs.drop (HT.sIx xs.length 0 lo)).take (HT.sIx xs.length xs.length hi - HT.sIx xs.length 0 lo)
theorem cut_rpa {F : Hp} {vs : List V} (r : RpA K F vs ds) : RpA K F (cutV vs lo hi) (cutL ds lo hi) := by
  unfold cutV cutL
  rw [r.length]
  exact (r.drop _).take _
def rSlU (K : PySem.W.Frag) : V → Option Int → Option Int → Hp → VK → Prop := fun x lo hi H Q => rSlA K x lo hi H Q ∨ rSlL K x lo hi H Q
theorem sl_U {X : Cx} : SlR X (rSlU X.K) := SlR.or sl_tupA sl_list
theorem ev_slT (h : Ev K te ρ M (.tup ds)) (h1 : EvO K tl ρ M lo) (h2 : EvO K th ρ M hi) : Ev K (tSl (rSlU K) te tl th) ρ M (.tup (cutL ds lo hi)) := fun N F σ H S Q q => h N F σ H S _ fun v d M' F1 H1 e1 ⟨hd, hm⟩ w1 r1 => by
  subst hd hm
  refine h1 N F1 σ H1 ⟨w1, S.e.mono e1⟩ _ fun F2 H2 e2 w2 => h2 N F2 σ H2 ⟨w2, S.e.mono (e1.trans e2)⟩ _ fun F3 H3 e3 w3 => .inl ?_
  have e123 := (e1.trans e2).trans e3
  obtain ⟨a, xs, rfl, ha, ra⟩ := (r1.mono (e2.trans e3)).tup_of
  refine ⟨a, xs, rfl, Evl.ex_t w3.fr ha, fun hz => ?_, fun _ p hp => ?_⟩
  · refine q _ _ _ F3 H3 e123 ⟨?_, rfl⟩ w3 (.tup ha ra)
    unfold cutL
    rw [ra.length] at hz
    rw [hz.1, hz.2, List.drop_zero, Nat.sub_zero, List.take_length]
  · have hn := w3.fresh hp
    exact q _ _ _ _ _ (e123.trans (ex_new hn)) ⟨rfl, rfl⟩ (w3.new hp _) (.tup (SqT.of upd_same) ((cut_rpa ra).mono (ex_new hn)))
theorem ev_slL (h : Ev K te ρ M (.lst ds)) (h1 : EvO K tl ρ M lo) (h2 : EvO K th ρ M hi) : Ev K (tSl (rSlU K) te tl th) ρ M (.lst (cutL ds lo hi)) := fun N F σ H S Q q => h N F σ H S _ fun v d M' F1 H1 e1 ⟨hd, hm⟩ w1 r1 => by
  subst hd hm
  refine h1 N F1 σ H1 ⟨w1, S.e.mono e1⟩ _ fun F2 H2 e2 w2 => h2 N F2 σ H2 ⟨w2, S.e.mono (e1.trans e2)⟩ _ fun F3 H3 e3 w3 => .inr ?_
  have e123 := (e1.trans e2).trans e3
  obtain ⟨a, xs, rfl, ha, ra⟩ := (r1.mono (e2.trans e3)).lst_of
  refine ⟨a, xs, rfl, SqL.of (w3.fr _ _ ha), fun p hp => ?_⟩
  have hn := w3.fresh hp
  exact q _ _ _ _ _ (e123.trans (ex_new hn)) ⟨rfl, rfl⟩ (w3.new hp _) (.lst upd_same ((cut_rpa ra).mono (ex_new hn)))
theorem ev_slR (h : Ev K te ρ M (.rd ds)) (h1 : EvO K tl ρ M lo) (h2 : EvO K th ρ M hi) : Ev K (tSl (rSlU K) te tl th) ρ M (.lst (cutL ds lo hi)) := fun N F σ H S Q q => h N F σ H S _ fun v d M' F1 H1 e1 ⟨hd, hm⟩ w1 r1 => by
  subst hd hm
  refine h1 N F1 σ H1 ⟨w1, S.e.mono e1⟩ _ fun F2 H2 e2 w2 => h2 N F2 σ H2 ⟨w2, S.e.mono (e1.trans e2)⟩ _ fun F3 H3 e3 w3 => .inr ?_
  have e123 := (e1.trans e2).trans e3
  obtain ⟨a, xs, rfl, ha, ra⟩ := (r1.mono (e2.trans e3)).rd_of
  refine ⟨a, xs, rfl, Evl.ex_l w3.fr ha, fun p hp => ?_⟩
  have hn := w3.fresh hp
  exact q _ _ _ _ _ (e123.trans (ex_new hn)) ⟨rfl, rfl⟩ (w3.new hp _) (.lst upd_same ((cut_rpa ra).mono (ex_new hn)))
/-! ### calls of built-ins -/
theorem rpa1 {F : Hp} {us : List V} (h : RpA K F us [d]) : ∃ u, us = [u] ∧ Rp K F u d := by
  cases h with
  | cons h t => cases t; exact ⟨_, rfl, h⟩
theorem rpa2 {F : Hp} {us : List V} (h : RpA K F us [x, y]) : ∃ u v, us = [u, v] ∧ Rp K F u x ∧ Rp K F v y := by
  cases h with
  | cons h t => cases t with
    | cons h2 t => cases t; exact ⟨_, _, rfl, h, h2⟩
def rLen (K : PySem.W.Frag) : List V → Hp → VK → Prop := fun xs H Q => ∃ x n, xs = [x] ∧ LenV K x H n ∧ Q (.int n) H
theorem call_len' {X : Cx} : CallR X (.builtin "len") (rLen X.K) := call_len
theorem rc_lenT : RC K (rLen K) [.tup ds] M (.int ds.length) := fun N F us H w h Q k => by
  obtain ⟨u, rfl, r⟩ := rpa1 h
  obtain ⟨a, xs, rfl, ha, ra⟩ := r.tup_of
  exact ⟨_, ds.length, rfl, .inr ⟨xs, Evl.ex_t w.fr ha, ra.length.symm⟩, k _ _ M F H (Evl.Ex.refl F) ⟨rfl, rfl⟩ w (.int _)⟩
theorem rc_lenL : RC K (rLen K) [.lst ds] M (.int ds.length) := fun N F us H w h Q k => by
  obtain ⟨u, rfl, r⟩ := rpa1 h
  obtain ⟨a, xs, rfl, ha, ra⟩ := r.lst_of
  exact ⟨_, ds.length, rfl, .inl ⟨xs, SqL.of (w.fr _ _ ha), ra.length.symm⟩, k _ _ M F H (Evl.Ex.refl F) ⟨rfl, rfl⟩ w (.int _)⟩
theorem rc_lenR : RC K (rLen K) [.rd ds] M (.int ds.length) := fun N F us H w h Q k => by
  obtain ⟨u, rfl, r⟩ := rpa1 h
  obtain ⟨a, xs, rfl, ha, ra⟩ := r.rd_of
  exact ⟨_, ds.length, rfl, .inl ⟨xs, Evl.ex_l w.fr ha, ra.length.symm⟩, k _ _ M F H (Evl.Ex.refl F) ⟨rfl, rfl⟩ w (.int _)⟩
theorem rc_lenC {a : Addr} (hm : (a, MO.lst ds) ∈ M) : RC K (rLen K) [.raw (.ref a)] M (.int ds.length) := fun N F us H w h Q k => by
  obtain ⟨u, rfl, r⟩ := rpa1 h
  cases r.raw_of
  obtain ⟨_, xs, hx, rx⟩ := w.ce a _ (List.mem_append_right N hm)
  exact ⟨_, ds.length, rfl, .inl ⟨xs, SqL.of hx, rx.length.symm⟩, k _ _ M F H (Evl.Ex.refl F) ⟨rfl, rfl⟩ w (.int _)⟩
theorem rc_lenS {s : Str} (hl : s.length ≤ 100000) : RC K (rLen K) [.str s] M (.int s.length) := fun N F us H w h Q k => by
  obtain ⟨u, rfl, r⟩ := rpa1 h
  cases r.str_of
  exact ⟨_, s.length, rfl, ⟨Evl.sz_of hl, rfl⟩, k _ _ M F H (Evl.Ex.refl F) ⟨rfl, rfl⟩ w (.int _)⟩
/-- isinstance of a built-in type -/
def tyN : DV → Option String
  | .non => some "NoneType"
  | .bl _ => some "bool"
  | .int _ => some "int"
  | .str _ => some "str"
  | .tup _ => some "tuple"
  | .lst _ => some "list"
  | .dic => some "dict"
  | _ => none
theorem Rp.tyX {F H : Hp} {v : V} {T : String} (r : Rp K F v d) (e : Ex F H) (h : tyN d = some T) : TyX K H v (.type T) := by
  cases r with
  | non => cases h; exact .base .non
  | bl b => cases h; exact .base (.bl b)
  | int i => cases h; exact .base (.int i)
  | str s => cases h; exact .base (.str s)
  | raw v => cases h
  | ins h1 h2 => cases h
  | rd h1 h2 => cases h
  | lst h1 h2 => cases h; exact .base (.lst (e _ _ h1))
  | dic h1 => cases h; exact .base (.dK (e _ _ h1))
  | tup h1 h2 =>
    cases h
    rcases Evl.ex_t e h1 with (q | ⟨o, q⟩) | ⟨o, vs, n, q⟩
    · exact .base (.tup q)
    · exact .fTuple q
    · exact .kTuple q.1 q.2.1
theorem rc_isi {T n : String} {b : Bool} (h : tyN x = some T) (hb : kitB T n = some b) : RC K (rIsi K) [x, .raw (.ty n)] M (.bl b) := fun N F us H w hr Q k => by
  obtain ⟨u, v, rfl, r1, r2⟩ := rpa2 hr
  cases r2.raw_of
  exact ⟨u, .ty n, _, _, b, rfl, .ty n, r1.tyX w.fr h, kit_ty hb, k _ _ M F H (Evl.Ex.refl F) ⟨rfl, rfl⟩ w (.bl _)⟩
def rMax2 : List V → Hp → VK → Prop := fun xs H Q => ∃ i j, xs = [.int i, .int j] ∧ Q (.int (if j > i then j else i)) H
def rMin2 : List V → Hp → VK → Prop := fun xs H Q => ∃ i j, xs = [.int i, .int j] ∧ Q (.int (if j < i then j else i)) H
theorem rc_max2 {i j : Int} : RC K rMax2 [.int i, .int j] M (.int (if j > i then j else i)) := fun N F us H w hr Q k => by
  obtain ⟨u, v, rfl, r1, r2⟩ := rpa2 hr
  exact ⟨i, j, by rw [r1.int_of, r2.int_of], k _ _ M F H (Evl.Ex.refl F) ⟨rfl, rfl⟩ w (.int _)⟩
theorem rc_min2 {i j : Int} : RC K rMin2 [.int i, .int j] M (.int (if j < i then j else i)) := fun N F us H w hr Q k => by
  obtain ⟨u, v, rfl, r1, r2⟩ := rpa2 hr
  exact ⟨i, j, by rw [r1.int_of, r2.int_of], k _ _ M F H (Evl.Ex.refl F) ⟨rfl, rfl⟩ w (.int _)⟩
def rInt1 : List V → Hp → VK → Prop := fun xs H Q => (∃ i, xs = [.int i] ∧ Q (.int i) H) ∨ ∃ k, xs = [.bl k] ∧ Q (.int (if k then 1 else 0)) H
theorem rc_int {i : Int} : RC K rInt1 [.int i] M (.int i) := fun N F us H w hr Q k => by
  obtain ⟨u, rfl, r1⟩ := rpa1 hr
  exact .inl ⟨i, by rw [r1.int_of], k _ _ M F H (Evl.Ex.refl F) ⟨rfl, rfl⟩ w (.int _)⟩
def rAbs : List V → Hp → VK → Prop := fun xs H Q => ∃ i, xs = [.int i] ∧ Q (.int (if i < 0 then -i else i)) H
theorem rc_abs {i : Int} : RC K rAbs [.int i] M (.int (if i < 0 then -i else i)) := fun N F us H w hr Q k => by
  obtain ⟨u, rfl, r1⟩ := rpa1 hr
  exact ⟨i, by rw [r1.int_of], k _ _ M F H (Evl.Ex.refl F) ⟨rfl, rfl⟩ w (.int _)⟩
def rDivmod : List V → Hp → VK → Prop := fun xs H Q => ∃ i j, xs = [.int i, .int j] ∧ CDiv i j ∧ ∀ p, H p = none → Q (.ref p) (upd H p (.tup [.int (i / j), .int (i % j)]))
theorem rc_divmod {i j : Int} (h : 0 < j ∧ j < 1073741824) : RC K rDivmod [.int i, .int j] M (.tup [.int (i / j), .int (i % j)]) := fun N F us H w hr Q k => by
  obtain ⟨u, v, rfl, r1, r2⟩ := rpa2 hr
  exact ⟨i, j, by rw [r1.int_of, r2.int_of], h, fun p hp => k _ _ M _ _ (ex_new (w.fresh hp)) ⟨rfl, rfl⟩ (w.new hp _) (.tup (SqT.of upd_same) (.cons (.int _) (.cons (.int _) .nil)))⟩
theorem rc_repr {p : PyData} (hx : toPy x = some p) (h1 : p.showable = true) (h2 : p.hasDict = false) (h3 : p.depth ≤ 100) (h4 : p.shown.length ≤ sizeLine) : RC K (rRepr K) [x] M (.str p.shown) := fun N F us H w hr Q k => by
  obtain ⟨u, rfl, r1⟩ := rpa1 hr
  exact ⟨u, p, rfl, r1.dp w.fr hx, h1, h2, h3, h4, k _ _ M F H (Evl.Ex.refl F) ⟨rfl, rfl⟩ w (.str _)⟩
def rTupOf (K : PySem.W.Frag) : List V → Hp → VK → Prop := fun xs H Q => ∃ p ys, xs = [.ref p] ∧ ((SqL K H p ys ∧ ∀ l, H l = none → Q (.ref l) (upd H l (.tup ys))) ∨ (SqT K H p ys ∧ Q (.ref p) H))
theorem rc_tupL : RC K (rTupOf K) [.lst ds] M (.tup ds) := fun N F us H w hr Q k => by
  obtain ⟨u, rfl, r1⟩ := rpa1 hr
  obtain ⟨a, xs, rfl, ha, ra⟩ := r1.lst_of
  exact ⟨a, xs, rfl, .inl ⟨SqL.of (w.fr _ _ ha), fun p hp => k _ _ M _ _ (ex_new (w.fresh hp)) ⟨rfl, rfl⟩ (w.new hp _) (.tup (SqT.of upd_same) (ra.mono (ex_new (w.fresh hp))))⟩⟩
theorem rc_tupC {a : Addr} (hm : (a, MO.lst ds) ∈ M) : RC K (rTupOf K) [.raw (.ref a)] M (.tup ds) := fun N F us H w hr Q k => by
  obtain ⟨u, rfl, r1⟩ := rpa1 hr
  cases r1.raw_of
  obtain ⟨_, xs, ha, ra⟩ := w.ce a _ (List.mem_append_right N hm)
  exact ⟨a, xs, rfl, .inl ⟨SqL.of ha, fun p hp => k _ _ M _ _ (ex_new (w.fresh hp)) ⟨rfl, rfl⟩ (w.new hp _) (.tup (SqT.of upd_same) (ra.mono (ex_new (w.fresh hp))))⟩⟩
/-- max of a list of ints that is not empty -/
theorem rcr_maxL {ns : List Int} (h0 : 0 < ns.length) (k : ∀ m, m ∈ ns → (∀ y, y ∈ ns → y ≤ m) → R (.int m) M) : RCR K (rMax K) [.lst (ns.map DV.int)] M R := fun N F us H w hr Q q => by
  obtain ⟨u, rfl, r1⟩ := rpa1 hr
  obtain ⟨a, xs, rfl, ha, ra⟩ := r1.lst_of
  exact ⟨a, ns, rfl, by rw [← ra.ints_of]; exact SqL.of (w.fr _ _ ha), h0, fun m h1 h2 => q _ _ M F H (Evl.Ex.refl F) (k m h1 h2) w (.int m)⟩
theorem rc_sumL {ns : List Int} : RC K (rSum K) [.lst (ns.map DV.int)] M (.int ns.sum) := fun N F us H w hr Q q => by
  obtain ⟨u, rfl, r1⟩ := rpa1 hr
  obtain ⟨a, xs, rfl, ha, ra⟩ := r1.lst_of
  exact ⟨a, ns, rfl, by rw [← ra.ints_of]; exact SqL.of (w.fr _ _ ha), q _ _ M F H (Evl.Ex.refl F) ⟨rfl, rfl⟩ w (.int _)⟩
theorem rc_allL {bs : List Bool} : RC K (rAll K) [.lst (bs.map DV.bl)] M (.bl (bs.all id)) := fun N F us H w hr Q q => by
  obtain ⟨u, rfl, r1⟩ := rpa1 hr
  obtain ⟨a, xs, rfl, ha, ra⟩ := r1.lst_of
  exact ⟨a, bs, rfl, by rw [← ra.bls_of]; exact SqL.of (w.fr _ _ ha), q _ _ M F H (Evl.Ex.refl F) ⟨rfl, rfl⟩ w (.bl _)⟩
theorem rc_anyL {bs : List Bool} : RC K (rAny K) [.lst (bs.map DV.bl)] M (.bl (bs.any id)) := fun N F us H w hr Q q => by
  obtain ⟨u, rfl, r1⟩ := rpa1 hr
  obtain ⟨a, xs, rfl, ha, ra⟩ := r1.lst_of
  exact ⟨a, bs, rfl, by rw [← ra.bls_of]; exact SqL.of (w.fr _ _ ha), q _ _ M F H (Evl.Ex.refl F) ⟨rfl, rfl⟩ w (.bl _)⟩
/-! ### methods of owned lists -/
variable {ta : TA} {to : TE}
theorem ty_list {F H : Hp} {a : Addr} {vs : List V} (h : H a = some (.lst vs)) : tyV K "list" (.ref a) H := .inl ⟨rfl, _, .inl (.inl h)⟩
theorem evr_append {i : Nat} {a : Addr} {xs : List DV} (h : EvR K to ρ M fun o M1 => o = .raw (.ref a) ∧ M1[i]? = some (a, MO.lst xs) ∧ xs.length < 100000 ∧ EvAR K ta ρ M1 fun ds M2 => ∃ d, ds = [d] ∧ M2[i]? = some (a, MO.lst xs) ∧ R .non (M2.set i (a, MO.lst (xs ++ [d])))) :
    EvR K (tBM K "list" rAppend to ta) ρ M R := fun N F σ H S Q q =>
  h N F σ H S _ fun v o M1 F1 H1 e1 ⟨ho, hi, hl, h1⟩ w1 r1 => by
    subst ho
    cases r1.raw_of
    obtain ⟨_, vs, hv, rv⟩ := w1.ce a _ (List.mem_append_right N (List.mem_of_getElem? hi))
    refine ⟨ty_list (F := F1) hv, h1 N F1 σ H1 ⟨w1, S.e.mono e1⟩ _ fun us ds M2 F2 H2 e2 ⟨d, hd, hi2, hr⟩ w2 r2 => ?_⟩
    subst hd
    obtain ⟨u, rfl, ru⟩ := rpa1 r2
    obtain ⟨_, vs2, hv2, rv2⟩ := w2.ce a _ (List.mem_append_right N (List.mem_of_getElem? hi2))
    refine ⟨a, vs2, u, rfl, rfl, hv2, by rw [rv2.length]; exact Evl.sz_lt hl, ?_⟩
    have w3 := w2.put (i := N.length + i) (by rw [List.getElem?_append_right (Nat.le_add_right _ _), Nat.add_sub_cancel_left]; exact hi2) (mo' := .lst (xs ++ [d])) (o := .lst (vs2 ++ [u])) ⟨_, upd_same, rv2.snoc ru⟩
    rw [List.set_append_right _ _ (Nat.le_add_right _ _), Nat.add_sub_cancel_left] at w3
    exact q _ _ _ F2 _ (e1.trans e2) hr w3 .non
/-- pop(i) -/
theorem evr_popAt {i : Nat} {a : Addr} {xs : List DV} (h : EvR K to ρ M fun o M1 => o = .raw (.ref a) ∧ M1[i]? = some (a, MO.lst xs) ∧ EvAR K ta ρ M1 fun ds M2 => ∃ (j : Nat) (d : DV), ds = [.int j] ∧ j < 100000 ∧ M2[i]? = some (a, MO.lst xs) ∧ xs[j]? = some d ∧ R d (M2.set i (a, MO.lst (xs.eraseIdx j)))) :
    EvR K (tBM K "list" rPopAt to ta) ρ M R := fun N F σ H S Q q =>
  h N F σ H S _ fun v o M1 F1 H1 e1 ⟨ho, hi, h1⟩ w1 r1 => by
    subst ho
    cases r1.raw_of
    obtain ⟨_, vs, hv, rv⟩ := w1.ce a _ (List.mem_append_right N (List.mem_of_getElem? hi))
    refine ⟨ty_list (F := F1) hv, h1 N F1 σ H1 ⟨w1, S.e.mono e1⟩ _ fun us ds M2 F2 H2 e2 ⟨j, d, hd, hj, hi2, hx, hr⟩ w2 r2 => ?_⟩
    subst hd
    obtain ⟨u, rfl, ru⟩ := rpa1 r2
    cases ru.int_of
    obtain ⟨_, vs2, hv2, rv2⟩ := w2.ce a _ (List.mem_append_right N (List.mem_of_getElem? hi2))
    obtain ⟨y, hy, ry⟩ := rv2.get hx
    have hlt : j < vs2.length := (List.getElem?_eq_some_iff.mp hy).1
    refine ⟨a, vs2, j, j, y, rfl, rfl, hv2, by omega, by omega, ?_, hy, ?_⟩
    · unfold seqIndex?
      simp
      omega
    have w3 := w2.put (i := N.length + i) (by rw [List.getElem?_append_right (Nat.le_add_right _ _), Nat.add_sub_cancel_left]; exact hi2) (mo' := .lst (xs.eraseIdx j)) (o := .lst (vs2.eraseIdx j)) ⟨_, upd_same, rv2.eraseIdx j⟩
    rw [List.set_append_right _ _ (Nat.le_add_right _ _), Nat.add_sub_cancel_left] at w3
    exact q _ _ _ F2 _ (e1.trans e2) hr w3 (ry.mono (Evl.Ex.refl _))
/-- xs[k] = e -/
theorem bd_subL {i : Nat} {a : Addr} {xs : List DV} {ti : TE} {RR : Rho → Ms → Prop} (h : EvR K to ρ M fun o M1 => o = .raw (.ref a) ∧ EvR K ti ρ M1 fun k M2 => ∃ (n : Int) (j : Nat), k = .int n ∧ M2[i]? = some (a, MO.lst xs) ∧ ixN xs.length n = some j ∧ RR ρ (M2.set i (a, MO.lst (xs.set j d)))) : BdG K (gSub to ti rSetL) ρ M d RR := fun N F σ H v Q S r q =>
  h N F σ H S _ fun o od M1 F1 H1 e1 ⟨ho, h1⟩ w1 r1 => by
    subst ho
    cases r1.raw_of
    refine h1 N F1 σ H1 ⟨w1, S.e.mono e1⟩ _ fun kv kd M2 F2 H2 e2 ⟨n, j, hk, hi2, hj, hr⟩ w2 r2 => ?_
    subst hk
    cases r2.int_of
    obtain ⟨_, vs2, hv2, rv2⟩ := w2.ce a _ (List.mem_append_right N (List.mem_of_getElem? hi2))
    refine ⟨a, vs2, n, j, rfl, rfl, hv2, by rw [rv2.length]; exact hj, ?_⟩
    have w3 := w2.put (i := N.length + i) (by rw [List.getElem?_append_right (Nat.le_add_right _ _), Nat.add_sub_cancel_left]; exact hi2) (mo' := .lst (xs.set j d)) (o := .lst (vs2.set j v)) ⟨_, upd_same, (rv2.set (r.mono (e1.trans e2)) j)⟩
    rw [List.set_append_right _ _ (Nat.le_add_right _ _), Nat.add_sub_cancel_left] at w3
    exact q σ F2 _ ρ _ (e1.trans e2) hr ⟨w3, S.e.mono (e1.trans e2)⟩
/-! ### enumerate -/
theorem ei_enumT {ta : TA} {RM : Ms → Prop} (h : EvAR K ta ρ M fun xs M' => xs = [.tup ds] ∧ RM M') : EvI K (DE.iEnumT K ta) ρ M [] ds.length (fun i => .tup [.int i, nth ds i]) RM := fun N F σ H S Q q =>
  h N F σ H S _ fun vs dd M1 F1 H1 e1 ⟨hd, hr⟩ w1 r1 => by
    subst hd
    obtain ⟨u, rfl, r⟩ := rpa1 r1
    obtain ⟨a, xs, rfl, hx, hr1⟩ := r.tup_of
    refine ⟨a, xs, rfl, Evl.ex_t w1.fr hx, q _ M1 F1 H1 e1 hr w1 ⟨fun i F2 M2 H2 hi e2 w2 _ => ?_, fun F2 M2 H2 e2 w2 _ => ?_, fun i F2 M2 H2 x H3 hi e2 w2 _ hy => ?_⟩⟩
    · exact ⟨xs, xs[i]'(by rw [hr1.length]; exact hi), Evl.ex_t (e2.trans w2.fr) hx, by simp⟩
    · exact ⟨xs, Evl.ex_t (e2.trans w2.fr) hx, by rw [hr1.length]; exact Nat.le_refl _⟩
    · obtain ⟨T, x, rfl, hT, rfl, hg⟩ := hy
      obtain ⟨d, hd, rd⟩ := hr1.get' (hg xs (Evl.ex_t (e2.trans w2.fr) hx))
      have hn := w2.fresh hT
      exact ⟨_, ex_new hn, w2.new hT _, .tup (SqT.of upd_same) (.cons (.int _) (.cons (by rw [nth_of hd]; exact (rd.mono e2).mono (ex_new hn)) .nil))⟩
end
end DD

set_option Elab.async false
set_option linter.all false
set_option maxRecDepth 100000
set_option maxHeartbeats 4000000
/-! calls by keyword -/
namespace DD
open PySem PySem.Spec PyProof.Rows L2
/-- the positional values, then the keywords', put into the parameters' order -/
def gpick (n m : Nat) (perm : List Nat) {α : Type} (us ws : List α) : List α := if us.length = n ∧ ws.length = m then perm.filterMap (fun i => (us ++ ws)[i]?) else []
theorem pick_vals {xs : List V} {us : List Value} (r : Vals xs us) : ∀ perm : List Nat, Vals (perm.filterMap (fun i => xs[i]?)) (perm.filterMap (fun i => us[i]?))
  | [] => .nil
  | i :: perm => by
    cases h : xs[i]? with
    | none => rw [List.filterMap_cons_none h, List.filterMap_cons_none (r.none_of h)]; exact pick_vals r perm
    | some x =>
      obtain ⟨u, hu, ru⟩ := r.get h
      rw [List.filterMap_cons_some h, List.filterMap_cons_some hu]; exact .cons ru (pick_vals r perm)
theorem pick_rpa {K : PySem.W.Frag} {F : Hp} {xs : List V} {ds : List DV} (r : RpA K F xs ds) : ∀ perm : List Nat, RpA K F (perm.filterMap (fun i => xs[i]?)) (perm.filterMap (fun i => ds[i]?))
  | [] => .nil
  | i :: perm => by
    cases h : xs[i]? with
    | none =>
      have h2 : ds[i]? = none := List.getElem?_eq_none (by rw [← r.length]; exact List.getElem?_eq_none_iff.mp h)
      rw [List.filterMap_cons_none h, List.filterMap_cons_none h2]; exact pick_rpa r perm
    | some x =>
      obtain ⟨u, hu, ru⟩ := r.get' h
      rw [List.filterMap_cons_some h, List.filterMap_cons_some hu]; exact .cons ru (pick_rpa r perm)
theorem gpick_rel {n m : Nat} {perm : List Nat} {vs : List V} {us : List Value} {zs : List V} {ws : List Value} (r : Vals vs us) (rz : Vals zs ws) : Vals (gpick n m perm vs zs) (gpick n m perm us ws) := by
  unfold gpick
  rw [r.length, rz.length]
  split
  · exact pick_vals (r.append rz) perm
  · exact .nil
theorem gpick_rpa {K : PySem.W.Frag} {F : Hp} {n m : Nat} {perm : List Nat} {vs zs : List V} {ds es : List DV} (r : RpA K F vs ds) (rz : RpA K F zs es) : RpA K F (gpick n m perm vs zs) (gpick n m perm ds es) := by
  unfold gpick
  rw [r.length, rz.length]
  split
  · exact pick_rpa (r.append rz) perm
  · exact .nil
theorem kbinds_mk {K : PySem.W.Frag} {x qual : Str} {st : Stmt} {f : Addr} {fd : FuncData} {ps ks : List Str} {n m : Nat} {perm : List Nat} (F : Fun K x qual st f fd) (hp : ps ≠ [])
    (h : ∀ (kV doc pm : Value) (an : Option Addr) (cdv ct : Value) (us ws : List Value), us.length = n → ws.length = m → bindArgs (PySem.W.fnOf x qual (defArgs st) (defBody st) (defScope st) .none kV doc pm an cdv ct) ⟨us, ks.zip ws⟩ = pure (ps.zip (perm.filterMap (fun i => (us ++ ws)[i]?)))) :
    KBinds K fd ps ks (gpick n m perm) (gpick n m perm) := by
  obtain ⟨oc, od, kV, doc, pm, an, cdv, ct, osl, rfl, lk, hcd⟩ := F.ex
  refine ⟨fun s us ws _ hl => ?_, fun r rz => gpick_rel r rz⟩
  unfold gpick at hl ⊢
  split at hl
  · rename_i hc
    rw [if_pos hc]
    exact .of_eq (h kV doc pm an cdv ct us ws hc.1 hc.2)
  · exact absurd (List.eq_nil_of_length_eq_zero hl.symm) hp
section
variable {X : Cx} {CX : CXT} {k : Nat} {f C : Addr} {fd : FuncData} {ps ks : List Str} {sp : Sp} {E : XK} {x : Str} {p pos : Pos} {kws : List Keyword} {tk : TA} {g : List Value → List Value → List Value} {gV : List V → List V → List V}
/-- f(k = v, ..) -/
theorem pe_callK0 (F : FnOk X.prog X.w X.K X.mg X.base CX k f fd ps sp) (hr : Room k X.A) (hg : Gl X x) (hm : X.mg x = some (.ref f)) (hk : PySem.W.keepIn X.K (.ref f) = true) (hb : KBinds X.K fd ps ks g gV) (hx : Passes CX X E) (hkw : PK X kws tk)
    (hall : (backToKw pos (keywordEach kws X.env)).all (·.1.isSome) = true := by rfl) (hks : (backToKw pos (keywordEach kws X.env)).filterMap (·.1) = ks := by rfl) (hdb : (x == ("__debug__" : Str)) = false := by decide)
    (hpl : ((backTo pos (starEach [] X.env)).any (·.1) || (backToKw pos (keywordEach kws X.env)).any (·.1.isNone)) = false := by rfl) : PE X (.Call (.Name x p) [] kws pos) (tCallK sp gV E tNil tk) := by
  refine ⟨fun pins z σ H Q I h => wpAny_Call_Name_kw (ld_glob I hg hm (PySem.W.callWith_KW0 (h₀ := X.base) I.ok.mod.kin hk hall (thn (hkw.run pos pins z σ H _ I h) fun ws z2 ⟨zs, H2, I2, rz, q2⟩ => ⟨I2.kIn, ?_⟩) hpl) hdb)⟩
  rw [hks]
  exact run_fnk (us := []) F hr hb hx I2 .nil rz q2
end
section
variable {K : PySem.W.Frag} {ρ : Rho} {M : Ms} {S : SpecD} {E : XK} {d : DV} {R : DV → Ms → Prop} {t tk : TA} {n m : Nat} {perm : List Nat}
theorem evr_callK (h : EvAR K t ρ M fun ds M1 => EvAR K tk ρ M1 fun es M2 => S (gpick n m perm ds es) M2 R) : EvR K (tCallK (spD K S) (gpick n m perm) E t tk) ρ M R := fun N F σ H Z Q q =>
  h N F σ H Z _ fun vs ds M1 F1 H1 e1 h1 w1 r1 => h1 N F1 σ H1 ⟨w1, Z.e.mono e1⟩ _ fun zs es M2 F2 H2 e2 h2 w2 r2 =>
    ⟨F2, N, M2, _, R, w2, gpick_rpa (r1.mono e2) r2, h2, fun v d M3 F3 H3 e3 hr w3 r3 => q v d M3 F3 H3 ((e1.trans e2).trans e3) hr w3 r3⟩
theorem ev_callK {ds es : List DV} (h : EvA K t ρ M ds) (hk : EvA K tk ρ M es) (hs : S (gpick n m perm ds es) M fun d' M' => d' = d ∧ M' = M) : Ev K (tCallK (spD K S) (gpick n m perm) E t tk) ρ M d := evr_callK (h.go (hk.go hs))
end
end DD

set_option Elab.async false
set_option linter.all false
set_option maxRecDepth 100000
set_option maxHeartbeats 4000000
/-! the rules with the written part named -/
namespace DD
open PySem PySem.Spec PyProof.Rows L2
section
variable {X : Cx} (K : PySem.W.Frag) (hK : X.K = K) {a b e o : Expr} {ta tb te : TE} {pos pos' apos : Pos} {f : Str}
include hK
theorem wAdd : OpR X (binaryOp .Add) (rAddU K) := hK ▸ op_addU
theorem wMul : OpR X (binaryOp .Mult) (rMulU K) := hK ▸ op_mulU
theorem wEq {k : Nat} (hr : Room k X.A) : OpR X (compareOp .Eq) (rEqU K) := hK ▸ op_eqU hr
theorem wNe {k : Nat} (hr : Room k X.A) : OpR X (compareOp .NotEq) (rNeU K) := hK ▸ op_neU hr
theorem wIn : OpR X (compareOp .In) (rIn K false) := hK ▸ op_in_seq
theorem wNotIn : OpR X (compareOp .NotIn) (rIn K true) := hK ▸ op_notIn_seq
theorem wIx : IxR X (rIx K) := hK ▸ ix_seq
theorem wSl : SlR X (rSlU K) := hK ▸ sl_U
theorem wFld (he : PE X e ta) (hb : attributeBase e f X.env (eval e X.env) = eval e X.env) : PE X (.Attribute e f pos) (tFld K ta f) := hK ▸ pe_fld he hb
theorem wPutF {tv : TE} {value : Expr} (ha : PE X o ta) (hv : PE X value tv) (hs : swapsWith value (some (.Attribute o f pos')) pos.line X.env = pure false) : PS X (.Assign [.Attribute o f pos'] value pos) (sFld K ta tv f) := hK ▸ ps_fld ha hv hs
theorem wTup {tg : Expr} (hl : PE X e te) : PI X tg e (iTup K te) := hK ▸ pi_tup hl
theorem wList {tg : Expr} (hl : PE X e te) : PI X tg e (iList K te) := hK ▸ pi_list hl
theorem wEnumT {ta : TA} {p tpos : Pos} {elts : List Expr} {kk : Nat} (hg : Gl X "enumerate") (hm : X.mg "enumerate" = none) (ha : PA X [e] ta) (hs : starEach [e] X.env = [(false, eval e X.env)] := by rfl) : PI X (.Tuple elts kk tpos) (.Call (.Name "enumerate" p) [e] [] pos) (DE.iEnumT K ta) := hK ▸ DE.pi_enumT hg hm ha hs
theorem wLen : CallR X (.builtin "len") (rLen K) := hK ▸ call_len
theorem wIsi : CallR X (.builtin "isinstance") (rIsi K) := hK ▸ call_isi
theorem wTupOf : CallR X (.type "tuple") (rTupOf K) := hK ▸ call_tuple_of
theorem wRepr {k : Nat} (hG : X.A.guards = some []) (hr : Room k X.A) : CallR X (.builtin "repr") (rRepr K) := hK ▸ call_reprD hG hr
theorem wSum (hc : X.calm = true) : CallR X (.builtin "sum") (rSum K) := hK ▸ cr_sum hc
theorem wMaxL (hc : X.calm = true) : CallR X (.builtin "max") (rMax K) := hK ▸ cr_max hc
theorem wMinL (hc : X.calm = true) : CallR X (.builtin "min") (rMin K) := hK ▸ cr_min hc
theorem wAny (hc : X.calm = true) : CallR X (.builtin "any") (rAny K) := hK ▸ cr_any hc
theorem wAll (hc : X.calm = true) : CallR X (.builtin "all") (rAll K) := hK ▸ cr_all hc
theorem wSorted : CallR X (.builtin "sorted") (rSortedI K) := hK ▸ cr_sortedI
theorem wTupG {n : Nat} {t : TGs} (h : PG X e (gTup X.K n t)) : PG X e (gTup K n t) := hK ▸ h
theorem wBm {T : String} {r : V → List V → Hp → VK → Prop} {t : TA} (h : PE X e (tBM X.K T r ta t)) : PE X e (tBM K T r ta t) := hK ▸ h
theorem wBm0 {T : String} {r : V → List V → Hp → VK → Prop} (h : PE X e (tBM0 X.K T r ta)) : PE X e (tBM0 K T r ta) := hK ▸ h
end
section
variable {X : Cx}
theorem wMax2 (hc : X.calm = true) : CallR X (.builtin "max") rMax2 := call_max2 hc
theorem wMin2 (hc : X.calm = true) : CallR X (.builtin "min") rMin2 := call_min2 hc
theorem wInt : CallR X (.type "int") rInt1 := call_int1
theorem wAbs : CallR X (.builtin "abs") rAbs := call_abs
theorem wDivmod : CallR X (.builtin "divmod") rDivmod := call_divmod
end
end DD

set_option Elab.async false
set_option linter.all false
set_option maxRecDepth 100000
set_option maxHeartbeats 4000000
namespace DD
open PySem PySem.Spec PyProof.Rows L2
/-! isinstance with the built-in types -/
def isIntD : DV → Bool
  | .int _ => true | .bl _ => true | _ => false
def isBoolD : DV → Bool
  | .bl _ => true | _ => false
def isTupD : DV → Bool
  | .tup _ => true | _ => false
def isStrD : DV → Bool
  | .str _ => true | _ => false
def isLstD : DV → Bool
  | .lst _ => true | _ => false
section
variable {K : PySem.W.Frag} {M : Ms} {x y d : DV} {ρ : Rho} {ta tb te : TE} {R : DV → Ms → Prop}
theorem rc_isiInt (h : (tyN x).isSome = true) : RC K (rIsi K) [x, .raw (.ty "int")] M (.bl (isIntD x)) := by
  cases x <;> first | exact rc_isi (b := true) rfl (by decide +kernel) | exact rc_isi (b := false) rfl (by decide +kernel) | cases h
theorem rc_isiBool (h : (tyN x).isSome = true) : RC K (rIsi K) [x, .raw (.ty "bool")] M (.bl (isBoolD x)) := by
  cases x <;> first | exact rc_isi (b := true) rfl (by decide +kernel) | exact rc_isi (b := false) rfl (by decide +kernel) | cases h
theorem rc_isiTup (h : (tyN x).isSome = true) : RC K (rIsi K) [x, .raw (.ty "tuple")] M (.bl (isTupD x)) := by
  cases x <;> first | exact rc_isi (b := true) rfl (by decide +kernel) | exact rc_isi (b := false) rfl (by decide +kernel) | cases h
theorem rc_isiStr (h : (tyN x).isSome = true) : RC K (rIsi K) [x, .raw (.ty "str")] M (.bl (isStrD x)) := by
  cases x <;> first | exact rc_isi (b := true) rfl (by decide +kernel) | exact rc_isi (b := false) rfl (by decide +kernel) | cases h
theorem rc_isiLst (h : (tyN x).isSome = true) : RC K (rIsi K) [x, .raw (.ty "list")] M (.bl (isLstD x)) := by
  cases x <;> first | exact rc_isi (b := true) rfl (by decide +kernel) | exact rc_isi (b := false) rfl (by decide +kernel) | cases h
/-- of an own class -/
theorem rc_isiOwn {C : Addr} {fs : List (Str × DV)} (cl : Cls K C) (ty : PySem.W.findIn K (.ref C) "__class__" = some (some (.builtin "object.__class__")) ∧ PySem.W.specialIn K (.builtin "object.__class__") "__get__" = some (some (.builtin "getset_descriptor.__get__")) ∧ PySem.W.takesIn K (.builtin "object.__class__") = some true ∧ PySem.W.mroIn K C (.type "object") = some true ∧ PySem.W.kitOne K (.ref C) (.ref C) = some true) :
    RC K (rIsi K) [.ins C fs, .raw (.ref C)] M (.bl true) := fun N F us H w hr Q k => by
  obtain ⟨u, v, rfl, r1, r2⟩ := rpa2 hr
  cases r2.raw_of
  obtain ⟨a, dx, gs, rfl, ha, hf⟩ := r1.ins_of
  exact ⟨_, _, _, _, true, rfl, .own C, .base (.ins (w.fr _ _ ha) cl ty.1 ty.2.1 ty.2.2.1 ty.2.2.2.1), ty.2.2.2.2, k _ _ M F H (Evl.Ex.refl F) ⟨rfl, rfl⟩ w (.bl true)⟩
/-! short ways -/
theorem ev_andF (h : Ev K ta ρ M (.bl false)) : Ev K (tAndV ta tb) ρ M (.bl false) := evr_andV (h.go ⟨false, rfl, rfl, rfl⟩)
theorem ev_andTr (h : Ev K ta ρ M (.bl true)) (h2 : Ev K tb ρ M d) : Ev K (tAndV ta tb) ρ M d := evr_andV (h.go ⟨true, rfl, h2⟩)
theorem ev_orTr (h : Ev K ta ρ M (.bl true)) : Ev K (tOrV ta tb) ρ M (.bl true) := evr_orV (h.go ⟨true, rfl, rfl, rfl⟩)
theorem ev_orF (h : Ev K ta ρ M (.bl false)) (h2 : Ev K tb ρ M d) : Ev K (tOrV ta tb) ρ M d := evr_orV (h.go ⟨false, rfl, h2⟩)
theorem evr_of (h : Ev K te ρ M d) (hr : R d M) : EvR K te ρ M R := h.go hr
theorem xs_retE {P : Post} (h : Ev K te ρ M d) (hr : P.rt d M) : XS K (tRet te) ρ M P := xs_ret (h.go hr)
theorem xs_setE {i : Nat} {t : TS} {P : Post} (h : Ev K te ρ M d) (k : XS K t (ρ.set i (some d)) M P) : XS K (tSeq (tAsg te (gName i)) t) ρ M P := xs_seq (xs_set h k)
theorem xs_ifE {tt : TT} {t u v : TS} {P : Post} {b : Bool} (h : EvT K tt ρ M b) (h1 : b = true → XS K t ρ M { P with nx := fun ρ' M' => XS K v ρ' M' P }) (h2 : b = false → XS K u ρ M { P with nx := fun ρ' M' => XS K v ρ' M' P }) : XS K (tSeq (tIfS tt t u) v) ρ M P := xs_seq (xs_if2 h h1 h2)
/-- a word between a statement and the rest -/
theorem xs_cut {t u : TS} {P : Post} (Mid : Rho → Ms → Prop) (h : XS K t ρ M { P with nx := Mid }) (k : ∀ ρ' M', Mid ρ' M' → XS K u ρ' M' P) : XS K (tSeq t u) ρ M P := xs_seq fun N F σ H D S e => h N F σ H D S ⟨fun F' σ' H' ρ' M' e1 h1 S1 => e.nx F' σ' H' ρ' M' e1 (k ρ' M' h1) S1, e.rt, e.bk, e.ct⟩
theorem xs_asgE {g : TG} {t : TS} {P : Post} (h : EvR K te ρ M fun d M' => BdG K g ρ M' d fun ρ' M'' => XS K t ρ' M'' P) : XS K (tSeq (tAsg te g) t) ρ M P := xs_seq (xs_asg h)
/-- if t: leave; then the rest -/
theorem xs_whenE {tt : TT} {t v : TS} {P : Post} {b : Bool} (h : EvT K tt ρ M b) (h1 : b = true → XS K t ρ M { P with nx := fun ρ' M' => XS K v ρ' M' P }) (h2 : b = false → XS K v ρ M P) : XS K (tSeq (tIfS tt t tNext) v) ρ M P := xs_ifE h h1 fun e => xs_next (h2 e)
theorem xs_unpackE {n : Nat} {gs : TGs} {t : TS} {P : Post} {ds : List DV} (h : Ev K te ρ M (.tup ds)) (hn : ds.length = n) (k : BdGs K gs ρ M ds fun ρ' M' => XS K t ρ' M' P) : XS K (tSeq (tAsg te (gTup K n gs)) t) ρ M P := xs_seq (xs_asg (h.go (bd_tup k hn)))
theorem bds_nm {i : Nat} {gs : TGs} {ds : List DV} {RR : Rho → Ms → Prop} (h : BdGs K gs (ρ.set i (some d)) M ds RR) : BdGs K (gCons (gName i) gs) ρ M (d :: ds) RR := bds_cons (bd_name h)
/-- a, b = e1, e2 -/
theorem xs_par {i j : Nat} {ta : TA} {t : TS} {P : Post} (h : EvAR K ta ρ M fun ds M1 => ∃ d e, ds = [d, e] ∧ XS K t ((ρ.set i (some d)).set j (some e)) M1 P) : XS K (tSeq (tPar i j ta) t) ρ M P := xs_seq fun N F σ H D S e => h N F σ H S _ fun vs ds M1 F1 H1 e1 ⟨d, e', hd, hx⟩ w1 r1 => by
  subst hd
  obtain ⟨u, v, rfl, r2, r3⟩ := rpa2 r1
  exact ⟨u, v, rfl, e.nx F1 _ H1 _ M1 e1 hx ⟨w1, ((S.e.mono e1).set r2 i).set r3 j⟩⟩
theorem xs_par3 {i j l : Nat} {ta : TA} {t : TS} {P : Post} (h : EvAR K ta ρ M fun ds M1 => ∃ d e g, ds = [d, e, g] ∧ XS K t (((ρ.set i (some d)).set j (some e)).set l (some g)) M1 P) : XS K (tSeq (tPar3 i j l ta) t) ρ M P := xs_seq fun N F σ H D S e => h N F σ H S _ fun vs ds M1 F1 H1 e1 ⟨d, e', g, hd, hx⟩ w1 r1 => by
  subst hd
  cases r1 with
  | cons r1 t1 => cases t1 with
    | cons r2 t2 => cases t2 with
      | cons r3 t3 => cases t3; exact ⟨_, _, _, rfl, e.nx F1 _ H1 _ M1 e1 hx ⟨w1, (((S.e.mono e1).set r1 i).set r2 j).set r3 l⟩⟩
/-- self.f = e, of an owned instance -/
theorem xs_putF1 {tv : TE} {f : Str} {P : Post} {a C : Addr} {fs : List (Str × DV)} {i : Nat} (c : Cls K C) (n : NoAttr K C f) (hl : fs.length < 1000) (h : Ev K tv ρ M d) (ha : Ev K ta ρ M (.raw (.ref a))) (hi : M[i]? = some (a, MO.ins C fs)) (k : P.nx ρ (M.set i (a, MO.ins C (putD f d fs)))) : XS K (sFld K ta tv f) ρ M P :=
  fun N F σ H D S e => h N F σ H S _ fun v d' M1 F1 H1 e1 ⟨h1, h2⟩ w1 r1 => ha N F1 σ H1 ⟨by subst h2; exact w1, S.e.mono e1⟩ _ fun u o M2 F2 H2 e2 ⟨h3, h4⟩ w2 r2 => by
    subst h1 h2 h3 h4
    cases r2.raw_of
    obtain ⟨_, dx, gs, hg, hf⟩ := w2.ce a _ (List.mem_append_right N (List.mem_of_getElem? hi))
    refine ⟨a, C, dx, gs, rfl, hg, c, n, by rw [hf.length]; exact hl, ?_⟩
    have hp : ∀ {gs : List (Str × V)} {fs : List (Str × DV)}, RpF K F2 gs fs → RpF K F2 (putF f v gs) (putD f d' fs) := by
      intro gs fs hf
      induction fs generalizing gs with
      | nil => cases hf; exact .cons (r1.mono e2) .nil
      | cons q fs ih =>
        cases hf with
        | cons hq ht =>
          unfold putF putD
          split
          · exact .cons (r1.mono e2) ht
          · exact .cons hq (ih ht)
    have w3 := w2.put (i := N.length + i) (by rw [List.getElem?_append_right (Nat.le_add_right _ _), Nat.add_sub_cancel_left]; exact hi) (mo' := .ins C (putD f d' fs)) (o := .ins C dx (putF f v gs)) ⟨dx, _, upd_same, hp hf⟩
    rw [List.set_append_right _ _ (Nat.le_add_right _ _), Nat.add_sub_cancel_left] at w3
    exact e.nx F2 _ _ _ _ (e1.trans e2) k ⟨w3, S.e.mono (e1.trans e2)⟩
theorem xs_putF {tv : TE} {f : Str} {t : TS} {P : Post} {a C : Addr} {fs : List (Str × DV)} {i : Nat} (c : Cls K C) (n : NoAttr K C f) (hl : fs.length < 1000) (h : Ev K tv ρ M d) (ha : Ev K ta ρ M (.raw (.ref a))) (hi : M[i]? = some (a, MO.ins C fs)) (k : XS K t ρ (M.set i (a, MO.ins C (putD f d fs))) P) : XS K (tSeq (sFld K ta tv f) t) ρ M P := xs_seq (xs_putF1 c n hl h ha hi k)
end
end DD

set_option Elab.async false
set_option linter.all false
set_option maxRecDepth 100000
set_option maxHeartbeats 4000000
namespace DD
open PySem PySem.Spec PyProof.Rows L2
/-! data that can be shown and compared: small ints, plain texts, tuples and lists of such -/
mutual
def fit : DV → Bool
  | .non => true
  | .bl _ => true
  | .int i => decide (i.natAbs < 10 ^ 40)
  | .str s => PyData.canLay0 (.str s) && s.cps.toList.all fun c => decide (c < 16 ^ 8)
  | .tup xs => fitA xs
  | .lst xs => fitA xs
  | .ins _ _ => false
  | .rd _ => false
  | .raw _ => false
  | .dic => false
def fitA : List DV → Bool
  | [] => true
  | x :: xs => fit x && fitA xs
end
mutual
/-- how deep, how much -/
def dep : DV → Nat
  | .tup xs => depA xs + 1
  | .lst xs => depA xs + 1
  | _ => 0
def depA : List DV → Nat
  | [] => 0
  | x :: xs => max (dep x) (depA xs)
end
mutual
def blk : DV → Nat
  | .str s => s.cps.size
  | .tup xs => blkA xs
  | .lst xs => blkA xs
  | _ => 0
def blkA : List DV → Nat
  | [] => 0
  | x :: xs => blk x + 1 + blkA xs
end
theorem int_short {i : Int} (h : i.natAbs < 10 ^ 40) : (PyData.shown (.int i)).length ≤ 41 ∧ i.natAbs.log2 < 1920 := by
  refine ⟨?_, ?_⟩
  · rw [PyData.shown_int]
    have := int_text_length_le10 (k := 40) (by decide) h
    show (Str.ofString (toString i)).length ≤ 41
    rw [PySem.ofString_length]
    exact this
  · refine log2_small (Nat.lt_of_lt_of_le h ?_)
    decide +kernel
mutual
theorem fit_py : ∀ (d : DV), fit d = true → ∃ p, toPy d = some p ∧ p.showable = true ∧ p.hasDict = false ∧ p.depth = dep d ∧ p.leavesShort 41 = true ∧ p.bulk = blk d ∧ p.canLay0 = true
  | .non, _ => ⟨.none, rfl, rfl, rfl, rfl, rfl, rfl, rfl⟩
  | .bl b, _ => ⟨.bool b, rfl, rfl, rfl, rfl, rfl, rfl, rfl⟩
  | .int i, h => by
    have hi := int_short (of_decide_eq_true h)
    exact ⟨.int i, rfl, decide_eq_true hi.2, rfl, rfl, decide_eq_true hi.1, rfl, rfl⟩
  | .str s, h => by
    have h' := Bool.and_eq_true_iff.mp h
    exact ⟨.str s, rfl, rfl, rfl, rfl, h'.2, rfl, h'.1⟩
  | .tup xs, h => by
    obtain ⟨ps, h1, h2, h3, h4, h5, h6, h7⟩ := fitA_py xs h
    refine ⟨.tuple ps, by unfold toPy; rw [h1]; rfl, h2, h3, ?_, h5, h6, h7⟩
    show PyData.depthAll ps + 1 = depA xs + 1
    rw [h4]
  | .lst xs, h => by
    obtain ⟨ps, h1, h2, h3, h4, h5, h6, h7⟩ := fitA_py xs h
    refine ⟨.list ps, by unfold toPy; rw [h1]; rfl, h2, h3, ?_, h5, h6, h7⟩
    show PyData.depthAll ps + 1 = depA xs + 1
    rw [h4]
  | .ins _ _, h => by cases h
  | .rd _, h => by cases h
  | .raw _, h => by cases h
  | .dic, h => by cases h
theorem fitA_py : ∀ (xs : List DV), fitA xs = true → ∃ ps, toPyA xs = some ps ∧ PyData.showableAll ps = true ∧ PyData.hasDictAll ps = false ∧ PyData.depthAll ps = depA xs ∧ PyData.leavesShortAll 41 ps = true ∧ PyData.bulkAll ps = blkA xs ∧ PyData.canLayAll0 ps = true
  | [], _ => ⟨[], rfl, rfl, rfl, rfl, rfl, rfl, rfl⟩
  | x :: xs, h => by
    have h' := Bool.and_eq_true_iff.mp h
    obtain ⟨p, a1, a2, a3, a4, a5, a6, a7⟩ := fit_py x h'.1
    obtain ⟨ps, b1, b2, b3, b4, b5, b6, b7⟩ := fitA_py xs h'.2
    refine ⟨p :: ps, by unfold toPyA; rw [a1, b1], ?_, ?_, ?_, ?_, ?_, ?_⟩
    · show (p.showable && PyData.showableAll ps) = true; rw [a2, b2]; rfl
    · show (p.hasDict || PyData.hasDictAll ps) = false; rw [a3, b3]; rfl
    · show max p.depth (PyData.depthAll ps) = max (dep x) (depA xs); rw [a4, b4]
    · show (p.leavesShort 41 && PyData.leavesShortAll 41 ps) = true; rw [a5, b5]; rfl
    · show p.bulk + 1 + PyData.bulkAll ps = blk x + 1 + blkA xs; rw [a6, b6]
    · show (p.canLay0 && PyData.canLayAll0 ps) = true; rw [a7, b7]; rfl
end
/-- what is asked where data is shown or compared -/
structure Fit (d : DV) : Prop where
  f : fit d = true
  dp : dep d ≤ 60
  b : blk d ≤ 100000
theorem Fit.py {d : DV} (h : Fit d) : ∃ p, toPy d = some p ∧ p.showable = true ∧ p.hasDict = false ∧ p.depth ≤ 100 ∧ p.shown.length ≤ sizeLine ∧ SeqAt.shaped p = true := by
  obtain ⟨p, h1, h2, h3, h4, h5, h6, h7⟩ := fit_py d h.f
  have hd := h.dp
  have hb := h.b
  refine ⟨p, h1, h2, h3, by omega, ?_, ?_⟩
  · have := PyData.shown_le_bulk 41 (by decide) p h5
    rw [h6] at this
    rw [sizeLine_eq]
    omega
  · unfold SeqAt.shaped
    rw [h7, decide_eq_true (show p.depth ≤ 64 by omega)]
    rfl
def showD (d : DV) : Str := match toPy d with
  | some p => p.shown
  | none => Str.empty
def eqD (d e : DV) : Bool := match toPy d, toPy e with
  | some p, some q => PyData.eqv p q
  | _, _ => false
section
variable {K : PySem.W.Frag} {M : Ms} {x y : DV}
theorem rc_show (h : Fit x) : RC K (rRepr K) [x] M (.str (showD x)) := by
  obtain ⟨p, h1, h2, h3, h4, h5, h6⟩ := h.py
  have := rc_repr (K := K) (M := M) h1 h2 h3 h4 h5
  unfold showD
  rw [h1]
  exact this
theorem rv_eqF (hx : Fit x) (hy : Fit y) : RV K (rEqU K) x y M (.bl (eqD x y)) := by
  obtain ⟨p, h1, _, _, _, _, h6⟩ := hx.py
  obtain ⟨q, k1, _, _, _, _, k6⟩ := hy.py
  have := rv_eqD (K := K) (M := M) h1 k1 h6 k6
  unfold eqD
  rw [h1, k1]
  exact this
theorem rv_neF (hx : Fit x) (hy : Fit y) : RV K (rNeU K) x y M (.bl (!eqD x y)) := by
  obtain ⟨p, h1, _, _, _, _, h6⟩ := hx.py
  obtain ⟨q, k1, _, _, _, _, k6⟩ := hy.py
  have := rv_neD (K := K) (M := M) h1 k1 h6 k6
  unfold eqD
  rw [h1, k1]
  exact this
end
mutual
theorem eqv_self : ∀ (p : PyData), p.hasDict = false → PyData.eqv p p = true
  | .none, _ => rfl
  | .bool b, _ => by show (b == b) = true; simp
  | .int i, _ => by show (i == i) = true; simp
  | .str s, _ => by show (s == s) = true; simp
  | .list xs, h => by show PyData.eqvAll xs xs = true; exact eqvA_self xs h
  | .tuple xs, h => by show PyData.eqvAll xs xs = true; exact eqvA_self xs h
  | .dict _, h => by cases h
theorem eqvA_self : ∀ (ps : List PyData), PyData.hasDictAll ps = false → PyData.eqvAll ps ps = true
  | [], _ => rfl
  | p :: ps, h => by
    have h' := Bool.or_eq_false_iff.mp (show (p.hasDict || PyData.hasDictAll ps) = false from h)
    show (PyData.eqv p p && PyData.eqvAll ps ps) = true
    rw [eqv_self p h'.1, eqvA_self ps h'.2]; rfl
end
theorem eqD_self {d : DV} (h : Fit d) : eqD d d = true := by
  obtain ⟨p, h1, h2, h3, h4, h5, h6⟩ := h.py
  unfold eqD
  rw [h1]
  exact eqv_self p h3
theorem fitA_ints {ns : List Int} (h : ∀ n ∈ ns, n.natAbs < 10 ^ 40) : fitA (ns.map .int) = true := by
  induction ns with
  | nil => rfl
  | cons n r ih =>
    show (decide (n.natAbs < 10 ^ 40) && fitA (r.map .int)) = true
    rw [decide_eq_true (h n List.mem_cons_self), ih fun m hm => h m (List.mem_cons_of_mem _ hm)]; rfl
theorem depA_ints {ns : List Int} : depA (ns.map .int) = 0 := by
  induction ns with
  | nil => rfl
  | cons n r ih => show max 0 (depA (r.map .int)) = 0; rw [ih]; rfl
theorem blkA_ints {ns : List Int} : blkA (ns.map .int) = ns.length := by
  induction ns with
  | nil => rfl
  | cons n r ih => show 0 + 1 + blkA (r.map .int) = r.length + 1; rw [ih]; omega
theorem Fit.intsL {ns : List Int} (h : ∀ n ∈ ns, n.natAbs < 10 ^ 40) (hl : ns.length ≤ 100000) : Fit (.lst (ns.map .int)) := ⟨fitA_ints h, by show depA (ns.map .int) + 1 ≤ 60; rw [depA_ints]; decide, by show blkA (ns.map .int) ≤ _; rw [blkA_ints]; exact hl⟩
theorem Fit.intsT {ns : List Int} (h : ∀ n ∈ ns, n.natAbs < 10 ^ 40) (hl : ns.length ≤ 100000) : Fit (.tup (ns.map .int)) := ⟨fitA_ints h, by show depA (ns.map .int) + 1 ≤ 60; rw [depA_ints]; decide, by show blkA (ns.map .int) ≤ _; rw [blkA_ints]; exact hl⟩
/-- a list of two alike -/
theorem Fit.two {d : DV} (h : Fit d) (hd : dep d ≤ 50) (hb : blk d ≤ 40000) : Fit (.lst [d, d]) := ⟨by show (fit d && (fit d && true)) = true; rw [h.f]; rfl, by show max (dep d) (max (dep d) 0) + 1 ≤ 60; omega, by show blk d + 1 + (blk d + 1 + 0) ≤ 100000; omega⟩
theorem eq_nil_ints {ns : List Int} : eqD (.lst (ns.map .int)) (.lst []) = ns.isEmpty := by
  cases ns with
  | nil => rfl
  | cons n r =>
    unfold eqD
    cases h : toPy (.lst ((n :: r).map .int)) with
    | none => rfl
    | some p =>
      have : ∃ ps q, p = .list (q :: ps) := by
        unfold toPy at h
        cases h2 : toPyA ((n :: r).map DV.int) with
        | none => rw [h2] at h; cases h
        | some qs =>
          rw [h2] at h
          cases h
          unfold List.map toPyA at h2
          cases h3 : toPyA (r.map DV.int) with
          | none => rw [h3] at h2; cases h2
          | some rs => rw [h3] at h2; cases h2; exact ⟨_, _, rfl⟩
      obtain ⟨ps, q, rfl⟩ := this
      rfl
end DD

set_option Elab.async false
set_option linter.all false
set_option maxRecDepth 100000
set_option maxHeartbeats 4000000
namespace DD
open PySem PySem.Spec PyProof.Rows L2
/-- what is not come to -/
def tNv : TE := fun _ _ _ => False
theorem pe_nv {X : Cx} {e : Expr} : PE X e tNv := ⟨fun _ _ _ _ _ _ h => h.elim⟩
section
variable {K : PySem.W.Frag} {ρ : Rho} {M : Ms} {ta : TE} {R : DV → Ms → Prop}
theorem rpa_rg {F : Hp} {a : Int} : ∀ (n : Nat), RpA K F ((List.range n).map fun i => V.int (a + (i : Nat))) ((List.range n).map fun i : Nat => DV.int (a + (i : Nat)))
  | 0 => .nil
  | n + 1 => by
    rw [List.range_succ, List.map_append, List.map_append]
    exact (rpa_rg n).snoc (.int _)
/-- list(range(n)) -/
theorem ev_listRg1 {n : Int} (h : Ev K ta ρ M (.int n)) (h0 : 0 ≤ n) (h1 : n ≤ 100000) : Ev K (tLstRg (tRg1 ta)) ρ M (.lst ((List.range n.toNat).map fun i : Nat => DV.int (0 + (i : Nat)))) := fun N F σ H S Q q => h N F σ H S _ fun v d M' F1 H1 e1 ⟨hd, hm⟩ w1 r1 => by
  subst hd hm
  refine ⟨n, r1.int_of, RgOk.of_le (Int.le_refl 0) (by omega) (by omega) h0, fun p hp => ?_⟩
  refine q _ _ _ _ _ (e1.trans (ex_new (w1.fresh hp))) ⟨rfl, rfl⟩ (w1.new hp _) (.lst upd_same ?_)
  show RpA K _ (rgV 0 n) _
  unfold rgV
  rw [Int.sub_zero]
  exact rpa_rg _
/-- a text in a tuple of texts -/
theorem rv_inS {s : Str} {ss : List Str} : RV K (rIn K false) (.str s) (.tup (ss.map .str)) M (.bl (ss.any fun t => t == s)) := fun N F u v H w h1 h2 Q k => by
  obtain ⟨a, xs, rfl, ha, ra⟩ := h2.tup_of
  have hx := ra.strs_of
  subst hx
  rw [h1.str_of]
  refine ⟨a, _, rfl, .inr (Evl.ex_t w.fr ha), rfl, ?_, ?_⟩
  · rw [List.all_eq_true]; intro x hx; obtain ⟨t, _, rfl⟩ := List.mem_map.mp hx; rfl
  · show Q (.bl (inV (.str s) (ss.map .str))) H
    have e : inV (.str s) (ss.map V.str) = ss.any fun t => t == s := by unfold inV; rw [List.any_map]; rfl
    rw [e]
    exact k _ _ M F H (Evl.Ex.refl F) ⟨rfl, rfl⟩ w (.bl _)
/-- max of an owned list -/
theorem rcr_maxC {ns : List Int} {a : Addr} (hm : (a, MO.lst (ns.map DV.int)) ∈ M) (h0 : 0 < ns.length) (k : ∀ m, m ∈ ns → (∀ y, y ∈ ns → y ≤ m) → R (.int m) M) : RCR K (rMax K) [.raw (.ref a)] M R := fun N F us H w hr Q q => by
  obtain ⟨u, rfl, r1⟩ := rpa1 hr
  cases r1.raw_of
  obtain ⟨_, xs, ha, ra⟩ := w.ce a _ (List.mem_append_right N hm)
  exact ⟨a, ns, rfl, by rw [← ra.ints_of]; exact SqL.of ha, h0, fun m h1 h2 => q _ _ M F H (Evl.Ex.refl F) (k m h1 h2) w (.int m)⟩
end
end DD

set_option Elab.async false
set_option linter.all false
set_option maxRecDepth 100000
set_option maxHeartbeats 4000000
namespace DD
open PySem PySem.Spec PyProof.Rows L2
section
variable {X : Cx} (K : PySem.W.Frag) (hK : X.K = K)
include hK
theorem wListOf : CallR X (.type "list") (Evl.rListS K) := hK ▸ call_list_of
end
section
variable {K : PySem.W.Frag} {ρ : Rho} {M : Ms} {ds es : List DV} {te : TE} {R : DV → Ms → Prop}
theorem rc_listT : RC K (Evl.rListS K) [.tup ds] M (.lst ds) := fun N F us H w hr Q k => by
  obtain ⟨u, rfl, r1⟩ := rpa1 hr
  obtain ⟨a, xs, rfl, ha, ra⟩ := r1.tup_of
  exact ⟨a, xs, rfl, .inr (Evl.ex_t w.fr ha), fun p hp => k _ _ M _ _ (ex_new (w.fresh hp)) ⟨rfl, rfl⟩ (w.new hp _) (.lst upd_same (ra.mono (ex_new (w.fresh hp))))⟩
theorem rc_listL : RC K (Evl.rListS K) [.lst ds] M (.lst ds) := fun N F us H w hr Q k => by
  obtain ⟨u, rfl, r1⟩ := rpa1 hr
  obtain ⟨a, xs, rfl, ha, ra⟩ := r1.lst_of
  exact ⟨a, xs, rfl, .inl (SqL.of (w.fr _ _ ha)), fun p hp => k _ _ M _ _ (ex_new (w.fresh hp)) ⟨rfl, rfl⟩ (w.new hp _) (.lst upd_same (ra.mono (ex_new (w.fresh hp))))⟩
/-- an owned list and another one: owned -/
theorem rvr_addC {a : Addr} (hm : (a, MO.lst ds) ∈ M) (hl : ds.length + es.length ≤ 100000) (k : ∀ p, R (.raw (.ref p)) ((p, .lst (ds ++ es)) :: M)) : RVR K (rAddU K) (.raw (.ref a)) (.lst es) M R := fun N F u v H w h1 h2 Q q => .inr (.inr (.inr (by
  cases h1.raw_of
  obtain ⟨_, xs, hx, rx⟩ := w.ce a _ (List.mem_append_right N hm)
  obtain ⟨b, ys, rfl, hb, rb⟩ := h2.lst_of
  refine ⟨a, b, xs, ys, rfl, rfl, hx, w.fr _ _ hb, Evl.sz_of (by rw [rx.length, rb.length]; exact hl), fun p hp => ?_⟩
  exact q _ _ ((p, .lst (ds ++ es)) :: M) F _ (Evl.Ex.refl F) (k p) ((w.cell hp (mo := .lst (ds ++ es)) ⟨_, upd_same, rx.append rb⟩).perm List.perm_middle) (.raw _))))
/-- .. not owned -/
theorem rv_addC {a : Addr} (hm : (a, MO.lst ds) ∈ M) (hl : ds.length + es.length ≤ 100000) : RV K (rAddU K) (.raw (.ref a)) (.lst es) M (.lst (ds ++ es)) := fun N F u v H w h1 h2 Q q => .inr (.inr (.inr (by
  cases h1.raw_of
  obtain ⟨_, xs, hx, rx⟩ := w.ce a _ (List.mem_append_right N hm)
  obtain ⟨b, ys, rfl, hb, rb⟩ := h2.lst_of
  refine ⟨a, b, xs, ys, rfl, rfl, hx, w.fr _ _ hb, Evl.sz_of (by rw [rx.length, rb.length]; exact hl), fun p hp => ?_⟩
  have hn := w.fresh hp
  exact q _ _ M _ _ (ex_new hn) ⟨rfl, rfl⟩ (w.new hp _) (.lst upd_same ((rx.append rb).mono (ex_new hn))))))
theorem evr_drop2 (h : EvR K te ρ M fun d M1 => ∃ c c' M2, M1 = c :: c' :: M2 ∧ R d (c :: M2)) : EvR K te ρ M R := fun N F σ H Z Q q =>
  h N F σ H Z Q fun v d M1 F1 H1 e1 ⟨c, c', M2, hm, hr⟩ w1 r1 => by
    subst hm
    exact q _ _ (c :: M2) F1 H1 e1 hr (w1.perm (List.perm_middle.symm.trans ((List.Perm.swap c c' M2).append_left N))).drop r1
end
end DD

set_option Elab.async false
set_option linter.all false
set_option maxRecDepth 100000
set_option maxHeartbeats 4000000
namespace DD
open PySem PySem.Spec PyProof.Rows L2
/-! max of a tuple of ints; is True -/
def rMaxT (K : PySem.W.Frag) : List V → Hp → VK → Prop := fun vs H Q => ∃ (a : Addr) (ns : List Int), vs = [V.ref a] ∧ SqT K H a (ns.map V.int) ∧ 0 < ns.length ∧ ∀ m, m ∈ ns → (∀ y, y ∈ ns → y ≤ m) → Q (.int m) H
theorem hold_ints {h : Heap} {vs : List Value} {ns : List Int} (hi : IntsAre vs ns) : PySem.W.HoldAll h vs ns := by
  induction hi with
  | nil => exact ⟨_, .nil⟩
  | cons n t _ ih => obtain ⟨as, r⟩ := ih; exact ⟨_, .cons (.int n t) r⟩
theorem maxOf_int : ∀ (xs : List Int) (x : Int), PySem.W.maxOf x xs ∈ x :: xs ∧ ∀ y ∈ x :: xs, y ≤ PySem.W.maxOf x xs
  | [], x => ⟨List.mem_cons_self, fun y h => by rw [List.mem_singleton.mp h]; exact Int.le_refl _⟩
  | z :: r, x => by
    have e : PySem.W.maxOf x (z :: r) = PySem.W.maxOf (if decide (x < z) = true then z else x) r := rfl
    have ih := maxOf_int r (if decide (x < z) = true then z else x)
    rw [e]
    have hh := ih.2 _ List.mem_cons_self
    refine ⟨?_, fun y hy => ?_⟩
    · rcases List.mem_cons.mp ih.1 with h | h
      · rw [h]; split
        · exact List.mem_cons_of_mem _ List.mem_cons_self
        · exact List.mem_cons_self
      · exact List.mem_cons_of_mem _ (List.mem_cons_of_mem _ h)
    · rcases List.mem_cons.mp hy with rfl | hy
      · refine Int.le_trans ?_ hh
        split
        · rename_i h; exact Int.le_of_lt (of_decide_eq_true h)
        · exact Int.le_refl _
      · rcases List.mem_cons.mp hy with rfl | hy
        · refine Int.le_trans ?_ hh
          split
          · exact Int.le_refl _
          · rename_i h; exact Int.not_lt.mp fun z => h (decide_eq_true z)
        · exact ih.2 y (List.mem_cons_of_mem _ hy)
theorem cr_maxT {X : Cx} {k : Nat} (hr : Room k X.A) : CallR X (.builtin "max") (rMaxT X.K) := by
  intro pins s σ H vs us Q I r h
  obtain ⟨a, ns, rfl, hs, hne, q⟩ := h
  obtain ⟨its, rv, hl, _⟩ := I.tuple hs
  rw [Vals.ref1 r]
  cases ns with
  | nil => exact absurd hne (Nat.lt_irrefl 0)
  | cons x xs =>
    refine PySem.W.max_tuple_datum (x := x) (xs := xs) hr.hd hl (hold_ints rv.ints) (by have := hr.units; show X.A.units + 1 + 0 < cLine; omega) fun i v h' tk hv hh hk => ?_
    obtain ⟨as, hh⟩ := hh
    have hm := maxOf_int xs x
    generalize PySem.W.maxOf x xs = m at hh hm
    cases hh with
    | int _ t => exact ⟨.int _, H, I.kept hk, ⟨_, rfl⟩, q m hm.1 hm.2⟩
theorem wMaxT {X : Cx} (K : PySem.W.Frag) (hK : X.K = K) {k : Nat} (hr : Room k X.A) : CallR X (.builtin "max") (rMaxT K) := hK ▸ cr_maxT hr
def rNotB : R2 := fun x y H Q => ∃ c d, x = .bl c ∧ y = .bl d ∧ Q (.bl (c != d)) H
theorem op_notB {X : Cx} : OpR X (compareOp .IsNot) rNotB := by
  intro pins s σ H x y v u Q I rx ry h
  obtain ⟨c, d, rfl, rfl, q⟩ := h
  cases rx; cases ry
  exact isnot_bool ⟨.bl _, H, I, rfl, q⟩
section
variable {K : PySem.W.Frag} {M : Ms} {R : DV → Ms → Prop}
theorem rcr_maxT {ns : List Int} (h0 : 0 < ns.length) (k : ∀ m, m ∈ ns → (∀ y, y ∈ ns → y ≤ m) → R (.int m) M) : RCR K (rMaxT K) [.tup (ns.map DV.int)] M R := fun N F us H w hr Q q => by
  obtain ⟨u, rfl, r1⟩ := rpa1 hr
  obtain ⟨a, xs, rfl, ha, ra⟩ := r1.tup_of
  exact ⟨a, ns, rfl, by rw [← ra.ints_of]; exact Evl.ex_t w.fr ha, h0, fun m h1 h2 => q _ _ M F H (Evl.Ex.refl F) (k m h1 h2) w (.int m)⟩
theorem rv_notB {c d : Bool} : RV K rNotB (.bl c) (.bl d) M (.bl (c != d)) := fun N F u v H w h1 h2 Q k => ⟨c, d, h1.bl_of, h2.bl_of, k _ _ M F H (Evl.Ex.refl F) ⟨rfl, rfl⟩ w (.bl _)⟩
end
end DD

set_option Elab.async false
set_option linter.all false
set_option maxRecDepth 100000
set_option maxHeartbeats 4000000
namespace DD
open PySem PySem.Spec PyProof.Rows L2
/-! an empty dict; what it is shown as -/
def rReprE : List V → Hp → VK → Prop := fun xs H Q => ∃ p, xs = [.ref p] ∧ H p = some (.dK []) ∧ Q (.str (PyData.shown (.dict []))) H
def rReprU (K : PySem.W.Frag) : List V → Hp → VK → Prop := fun xs H Q => rRepr K xs H Q ∨ rReprE xs H Q
theorem call_reprE {X : Cx} {k : Nat} (hG : X.A.guards = some []) (hr : Room k X.A) : CallR X (.builtin "repr") rReprE := by
  intro pins z σ H xs us Q I r h
  obtain ⟨p, rfl, hp, q⟩ := h
  obtain ⟨u, rfl, ru⟩ := vals1 r
  cases (show u = Value.ref p from ru)
  obtain ⟨_, hsm, vs, rel, o, es, ep, ho, hx, hd, _, hpr, _⟩ := dk_of I.hok hp
  cases rel
  have he : es.toList = [] := by
    generalize es.toList = l at hpr ⊢
    cases hpr; rfl
  have rd : Reads z.heap (.ref p) (.dict []) (p :: [] ++ []) := .dict ho hx.1 hd (by rw [he]; exact .nil) (by rw [he]; exact .nil)
  have hu : X.A.units + ((PyData.dict []).depth + 1) < cLine := by have := hr.units; show X.A.units + (1 + 1) < cLine; omega
  exact PySem.repr_of_reads' rd rfl (fun _ hm => by
    have e : sysModules = p := by simpa using hm
    subst e
    simp at hsm) hG hu (fun _ _ e => e) (fun g tk tk2 hk => ⟨.str _, H, I.kept hk, ⟨_, rfl⟩, q⟩) (by decide +kernel)
theorem wReprU {X : Cx} (K : PySem.W.Frag) (hK : X.K = K) {k : Nat} (hG : X.A.guards = some []) (hr : Room k X.A) : CallR X (.builtin "repr") (rReprU K) := hK ▸ callR_or (call_reprD hG hr) (call_reprE hG hr)
section
variable {K : PySem.W.Frag} {ρ : Rho} {M : Ms} {x : DV} {R : DV → Ms → Prop}
theorem ev_dic : Ev K tDNewK ρ M .dic := fun N F σ H S Q q => fun p hp => q _ _ _ _ _ (ex_new (S.w.fresh hp)) ⟨rfl, rfl⟩ (S.w.new hp _) (.dic upd_same)
theorem rc_showU (h : Fit x) : RC K (rReprU K) [x] M (.str (showD x)) := fun N F us H w hr Q k => .inl (rc_show h N F us H w hr Q k)
theorem rc_showE : RC K (rReprU K) [.dic] M (.str (PyData.shown (.dict []))) := fun N F us H w hr Q k => by
  obtain ⟨u, rfl, r1⟩ := rpa1 hr
  cases r1 with
  | dic h => exact .inr ⟨_, rfl, w.fr _ _ h, k _ _ M F H (Evl.Ex.refl F) ⟨rfl, rfl⟩ w (.str _)⟩
end
end DD

set_option Elab.async false
set_option linter.all false
set_option maxRecDepth 100000
set_option maxHeartbeats 4000000
namespace PySem.W
open PySem PySem.SeqAt PyProof.Rows
section
variable {prog : Program} {w : World} {A : Around} {E : Value → Shared → Prop} {s : Shared}
/-- min of a list of alike data: which item it is -/
theorem min_list_ixD {p : Addr} {ys : Array Value} {d : PyData} {ds : List PyData} {js : List Addr} {Q : Value → Shared → Prop} (h0 : A.handled = none) (h1 : s.heap.IsList p ys) (h2 : ReadsAll s.heap ys.toList (d :: ds) js) (h3 : AlikeAll (d :: ds)) (h4 : A.units + 1 + PyData.depthAll (d :: ds) < cLine)
    (k : ∀ (i : Nat) y g tk, ys[i]? = some y → (d :: ds).getD i .none = minD d ds → (∀ b o, s.heap.get? b = some o → g.get? b = some o) → Q y { s with heap := g, toks := tk }) :
    wpAny (model prog w) A (call (.builtin "min") [.ref p]) Q E s := by
  have size : ys.size = ds.length + 1 := readsAll_len h2
  refine call_min_walkH (iter_listW (A := A.in1) h0 h1 fun z2 eq1 walks start pins writes keeps => ?_)
  refine ⟨_, _, _, _, _, _, _, s.heap, _, rfl, walks, start, pins, by omega, writes, keeps, cmpIn_lt (A := A.in1) h2 h3 (by show A.units + 1 + _ < _; exact h4), fun y z3 at' moves => ?_⟩
  obtain ⟨g, tk, rfl, old⟩ := moved_old eq1 rfl moves
  have last : ys.size - 1 = ds.length := by omega
  have fold := (argBest_fold dataLt PyData.none d ds ds.length (Nat.le_refl _)).2
  rw [List.take_length] at fold
  refine k _ y g tk at' ?_ old
  rw [last]
  exact fold
end
end PySem.W
namespace DD
open PySem PySem.Spec PyProof.Rows L2
abbrev TI3 := PySem.W.T3 Int Int Int
/-- three ints -/
def tri (t : TI3) : DV := .tup [.int t.a, .int t.b, .int t.c]
def rMinT (K : PySem.W.Frag) : List V → Hp → VK → Prop := fun vs H Q => ∃ (a : Addr) (xs : List V) (t : TI3) (ts : List TI3), vs = [V.ref a] ∧ SqL K H a xs ∧ DpAll K H xs ((t :: ts).map PySem.W.Datum.toD) ∧ ∀ (i : Nat) (x : V), xs[i]? = some x → (t :: ts)[i]? = some (PySem.W.minOf t ts) → Q x H
theorem vals_at : ∀ {xs : List V} {us : List Value} {i : Nat} {u : Value}, Vals xs us → us[i]? = some u → ∃ x, xs[i]? = some x ∧ RelV x u
  | _, _, _, _, .nil, h => by simp at h
  | _, _, 0, _, .cons r _, h => by simp at h; subst h; exact ⟨_, rfl, r⟩
  | _, _, i + 1, u, .cons _ t, h => by
    obtain ⟨x, h1, h2⟩ := vals_at (i := i) (u := u) t (by simpa using h)
    exact ⟨x, by simpa using h1, h2⟩
theorem toD_inj {t u : TI3} (h : (PySem.W.Datum.toD t : PyData) = PySem.W.Datum.toD u) : t = u := by
  obtain ⟨a, b, c⟩ := t
  obtain ⟨d, e, f⟩ := u
  have h : PyData.tuple [.int a, .int b, .int c] = PyData.tuple [.int d, .int e, .int f] := h
  injection h with h
  injection h with h1 h
  injection h with h2 h
  injection h with h3 h
  injection h1 with h1
  injection h2 with h2
  injection h3 with h3
  subst h1 h2 h3; rfl
theorem cr_minT {X : Cx} {k : Nat} (hr : Room k X.A) : CallR X (.builtin "min") (rMinT X.K) := by
  intro pins s σ H vs us Q I r h
  obtain ⟨a, xs, t, ts, rfl, hs, hd, q⟩ := h
  obtain ⟨its, rv, hl, _⟩ := I.list hs
  rw [Vals.ref1 r]
  obtain ⟨as, hrd⟩ := Dp.readsAll I _ _ _ hd rv
  have hal := PySem.W.alikeAll_datum (t :: ts)
  have hdep : PyData.depthAll (PySem.W.Datum.toD t :: ts.map PySem.W.Datum.toD) ≤ PySem.W.Datum.depth TI3 := PySem.W.depthAll_map (t :: ts)
  have hmn := PySem.W.minD_map t ts
  have hu := hr.units
  have hdp : PySem.W.Datum.depth TI3 ≤ 10 := by decide
  refine PySem.W.min_list_ixD hr.hd hl.isList (by simpa using hrd) hal (Nat.lt_of_le_of_lt (Nat.add_le_add_left hdep _) (by omega)) fun i v h' tk hi he hk => ?_
  have hi2 : its[i]? = some v := by simpa using hi
  obtain ⟨x, hx, rx⟩ := vals_at rv hi2
  rw [hmn] at he
  have hlen : i < (t :: ts).length := by
    have h1 := (List.getElem?_eq_some_iff.mp hi2).1
    have h2 := rv.length
    have h3 : xs.length = ((t :: ts).map PySem.W.Datum.toD).length := by
      have : ∀ {vs : List V} {ds : List PyData}, DpAll X.K H vs ds → vs.length = ds.length := fun {vs ds} h => by
        induction ds generalizing vs with
        | nil => cases h; rfl
        | cons d r ih => cases h with | cons _ t => simp [ih t]
      exact this hd
    rw [List.length_map] at h3
    omega
  refine ⟨x, H, I.kept hk, rx, q i x hx ?_⟩
  rw [List.getElem?_eq_getElem hlen]
  congr 1
  refine toD_inj ?_
  have : (PySem.W.Datum.toD t :: ts.map PySem.W.Datum.toD).getD i PyData.none = PySem.W.Datum.toD ((t :: ts)[i]) := by
    rw [← List.map_cons, List.getD_eq_getElem?_getD, List.getElem?_map, List.getElem?_eq_getElem hlen]; rfl
  rw [← this]
  exact he
theorem wMinT {X : Cx} (K : PySem.W.Frag) (hK : X.K = K) {k : Nat} (hr : Room k X.A) : CallR X (.builtin "min") (rMinT K) := hK ▸ cr_minT hr
theorem minOf_le : ∀ (ts : List TI3) (t : TI3), PySem.W.minOf t ts ∈ t :: ts ∧ ∀ u ∈ t :: ts, (PySem.W.minOf t ts).a ≤ u.a
  | [], t => ⟨List.mem_cons_self, fun u h => by rw [List.mem_singleton.mp h]; exact Int.le_refl _⟩
  | z :: r, t => by
    have e : PySem.W.minOf t (z :: r) = PySem.W.minOf (if PySem.W.DatumOrd.lt z t = true then z else t) r := rfl
    have ih := minOf_le r (if PySem.W.DatumOrd.lt z t = true then z else t)
    have hlt : PySem.W.DatumOrd.lt z t = if z.a = t.a then (if z.b = t.b then decide (z.c < t.c) else decide (z.b < t.b)) else decide (z.a < t.a) := rfl
    rw [e]
    have hh := ih.2 _ List.mem_cons_self
    have hz : (if PySem.W.DatumOrd.lt z t = true then z else t).a ≤ z.a ∧ (if PySem.W.DatumOrd.lt z t = true then z else t).a ≤ t.a := by
      split
      · rename_i h
        rw [hlt] at h
        split at h
        · rename_i e1; exact ⟨Int.le_refl _, by omega⟩
        · have := of_decide_eq_true h; exact ⟨Int.le_refl _, by omega⟩
      · rename_i h
        rw [hlt] at h
        split at h
        · rename_i e1; exact ⟨by omega, Int.le_refl _⟩
        · have : ¬ z.a < t.a := fun z2 => h (decide_eq_true z2)
          exact ⟨by omega, Int.le_refl _⟩
    refine ⟨?_, fun u hu => ?_⟩
    · rcases List.mem_cons.mp ih.1 with h | h
      · rw [h]; split
        · exact List.mem_cons_of_mem _ List.mem_cons_self
        · exact List.mem_cons_self
      · exact List.mem_cons_of_mem _ (List.mem_cons_of_mem _ h)
    · rcases List.mem_cons.mp hu with rfl | hu
      · omega
      · rcases List.mem_cons.mp hu with rfl | hu
        · omega
        · exact ih.2 u (List.mem_cons_of_mem _ hu)
theorem toPyA_tri : ∀ ts : List TI3, toPyA (ts.map tri) = some (ts.map PySem.W.Datum.toD)
  | [] => rfl
  | t :: r => by
    show (match toPy (tri t), toPyA (r.map tri) with | some y, some ys => some (y :: ys) | _, _ => none) = _
    rw [toPyA_tri r]; rfl
theorem rcr_minT {K : PySem.W.Frag} {M : Ms} {R : DV → Ms → Prop} {ts : List TI3} (h0 : 0 < ts.length) (k : ∀ t, t ∈ ts → (∀ u, u ∈ ts → t.a ≤ u.a) → R (tri t) M) : RCR K (rMinT K) [.lst (ts.map tri)] M R := fun N F us H w hr Q q => by
  obtain ⟨u, rfl, r1⟩ := rpa1 hr
  obtain ⟨a, xs, rfl, ha, ra⟩ := r1.lst_of
  cases ts with
  | nil => exact absurd h0 (Nat.lt_irrefl 0)
  | cons t ts =>
    refine ⟨a, xs, t, ts, rfl, SqL.of (w.fr _ _ ha), RpA.dp w.fr ra (toPyA_tri (t :: ts)), fun i x hx hi => ?_⟩
    obtain ⟨d, hd, rd⟩ := ra.get' hx
    rw [List.getElem?_map, hi] at hd
    cases hd
    have hm := minOf_le ts t
    exact q _ _ M F H (Evl.Ex.refl F) (k _ hm.1 hm.2) w rd
end DD

set_option Elab.async false
set_option linter.all false
set_option maxRecDepth 100000
set_option maxHeartbeats 4000000
namespace DD
open PySem PySem.Spec PyProof.Rows L2
/-! list * int -/
theorem RpA.rep {K : PySem.W.Frag} {F : Hp} {vs : List V} {ds : List DV} (h : RpA K F vs ds) : ∀ n : Nat, RpA K F (List.replicate n vs).flatten (List.replicate n ds).flatten
  | 0 => .nil
  | n + 1 => by
    rw [List.replicate_succ, List.replicate_succ, List.flatten_cons, List.flatten_cons]
    exact h.append (RpA.rep h n)
theorem rv_mulL {K : PySem.W.Frag} {M : Ms} {ds : List DV} {k : Int} (h0 : -(2 ^ 63) ≤ k ∧ k < 2 ^ 63) (hl : ds.length * k.toNat ≤ 100000) : RV K (rMulU K) (.lst ds) (.int k) M (.lst (List.replicate k.toNat ds).flatten) := fun N F u v H w h1 h2 Q q => .inr (.inr (by
  obtain ⟨a, xs, rfl, ha, ra⟩ := h1.lst_of
  cases h2.int_of
  refine ⟨a, k, xs, rfl, rfl, w.fr _ _ ha, h0.1, h0.2, Evl.sz_of (by rw [ra.length]; exact hl), fun p hp => ?_⟩
  have hn := w.fresh hp
  exact q _ _ M _ _ (ex_new hn) ⟨rfl, rfl⟩ (w.new hp _) (.lst upd_same ((ra.rep _).mono (ex_new hn)))))
/-- tuple * int -/
theorem rv_mulT {K : PySem.W.Frag} {M : Ms} {ds : List DV} {k : Int} (h0 : 2 ≤ k ∧ k ≤ 1000) (hn : ds ≠ []) (hl : ds.length ≤ 1000) : RV K (rMulU K) (.tup ds) (.int k) M (.tup (List.replicate k.toNat ds).flatten) := fun N F u v H w h1 h2 Q q => .inr (.inl (by
  obtain ⟨a, xs, rfl, ha, ra⟩ := h1.tup_of
  cases h2.int_of
  refine ⟨a, k, xs, rfl, rfl, Evl.ex_t w.fr ha, fun e => hn (by subst e; cases ra; rfl), h0.1, h0.2, by rw [ra.length]; exact hl, fun p hp => ?_⟩
  have hn := w.fresh hp
  exact q _ _ M _ _ (ex_new hn) ⟨rfl, rfl⟩ (w.new hp _) (.tup (SqT.of upd_same) ((ra.rep _).mono (ex_new hn)))))
end DD

set_option Elab.async false
set_option linter.all false
set_option maxRecDepth 100000
set_option maxHeartbeats 4000000
namespace DD
open PySem PySem.Spec PyProof.Rows L2
/-! rules that hand on what comes, for walks by word -/
section
variable {K : PySem.W.Frag} {ρ : Rho} {M : Ms} {R : DV → Ms → Prop} {RB : Bool → Ms → Prop} {te ta tb to : TE} {t u : TS} {tt : TT} {P : Post} {d x y z : DV} {ds es : List DV} {A B : Prop}
theorem w_var {i : Nat} (h : ρ[i]? = some (some d)) (k : R d M) : EvR K (tVar i) ρ M R := (ev_var h).go k
theorem w_cI {i : Int} (k : R (.int i) M) : EvR K (tC (.int i)) ρ M R := ev_cI.go k
theorem w_cB {i : Bool} (k : R (.bl i) M) : EvR K (tC (.bl i)) ρ M R := ev_cB.go k
theorem w_cN (k : R .non M) : EvR K (tC .non) ρ M R := ev_cN.go k
theorem w_cS {i : Str} (k : R (.str i) M) : EvR K (tC (.str i)) ρ M R := ev_cS.go k
theorem w_cT {n : String} (k : R (.raw (.ty n)) M) : EvR K (tC (.ty n)) ρ M R := ev_cT.go k
theorem w_cR {a : Addr} (k : R (.raw (.ref a)) M) : EvR K (tC (.ref a)) ρ M R := ev_cR.go k
/-- a field, of what stays or of what is owned -/
def FldR (K : PySem.W.Frag) (f : Str) (x : DV) (M : Ms) (R : DV → Ms → Prop) : Prop :=
  (∃ C fs d, x = .ins C fs ∧ Cls K C ∧ NoAttr K C f ∧ fs.lookup f = some d ∧ R d M) ∨ (∃ a C fs d, x = .raw (.ref a) ∧ (a, MO.ins C fs) ∈ M ∧ Cls K C ∧ NoAttr K C f ∧ fs.lookup f = some d ∧ R d M)
theorem w_fld {f : Str} (h : EvR K ta ρ M fun x M1 => FldR K f x M1 R) : EvR K (tFld K ta f) ρ M R := fun N F σ H S Q q => h N F σ H S _ fun v d M1 F1 H1 e1 hd w1 r1 => by
  rcases hd with ⟨C, fs, d', rfl, c, n, l, hr⟩ | ⟨a, C, fs, d', rfl, hm, c, n, l, hr⟩
  · obtain ⟨b, dx, gs, rfl, hg, hf⟩ := r1.ins_of
    obtain ⟨u, hu, ru⟩ := hf.lookup l
    exact ⟨b, C, dx, gs, u, rfl, w1.fr _ _ hg, c, n, hu, q u d' M1 F1 H1 e1 hr w1 ru⟩
  · cases r1.raw_of
    obtain ⟨_, dx, gs, hg, hf⟩ := w1.ce a _ (List.mem_append_right N hm)
    obtain ⟨u, hu, ru⟩ := hf.lookup l
    exact ⟨a, C, dx, gs, u, rfl, hg, c, n, hu, q u d' M1 F1 H1 e1 hr w1 ru⟩
theorem FldR.ins {f : Str} {C : Addr} {fs : List (Str × DV)} (c : Cls K C) (n : NoAttr K C f) (l : fs.lookup f = some d) (k : R d M) : FldR K f (.ins C fs) M R := .inl ⟨_, _, _, rfl, c, n, l, k⟩
theorem FldR.own {f : Str} {a C : Addr} {fs : List (Str × DV)} (hm : (a, MO.ins C fs) ∈ M) (c : Cls K C) (n : NoAttr K C f) (l : fs.lookup f = some d) (k : R d M) : FldR K f (.raw (.ref a)) M R := .inr ⟨_, _, _, _, rfl, hm, c, n, l, k⟩
/-- a method, of what stays or of what is owned -/
def MethR (K : PySem.W.Frag) (C : Addr) (m : Str) (S : SpecD) (t : TA) (ρ : Rho) (x : DV) (M : Ms) (R : DV → Ms → Prop) : Prop :=
  (∃ fs, x = .ins C fs ∧ fs.lookup m = none ∧ EvAR K t ρ M fun ds M2 => S (.ins C fs :: ds) M2 R) ∨ (∃ a fs, x = .raw (.ref a) ∧ (a, MO.ins C fs) ∈ M ∧ fs.lookup m = none ∧ EvAR K t ρ M fun ds M2 => S (.raw (.ref a) :: ds) M2 R)
theorem w_meth {S : SpecD} {E : XK} {ta' : TA} {C : Addr} {m : Str} (h : EvR K ta ρ M fun x M1 => MethR K C m S ta' ρ x M1 R) : EvR K (tMeth C m (spD K S) [] E ta ta') ρ M R := fun N F σ H Z Q q =>
  h N F σ H Z _ fun v x M1 F1 H1 e1 hx w1 r1 => by
    rcases hx with ⟨fs, rfl, hl, h1⟩ | ⟨a, fs, rfl, hm, hl, h1⟩
    · obtain ⟨a, dx, gs, rfl, ha, hf⟩ := id r1.ins_of
      refine ⟨a, dx, gs, rfl, w1.fr _ _ ha, hf.lookup_none hl, ?_⟩
      refine h1 N F1 σ H1 ⟨w1, Z.e.mono e1⟩ _ fun vs ds M2 F2 H2 e2 h2 w2 r2 => ?_
      rw [List.append_nil]
      exact ⟨F2, N, M2, _, R, w2, .cons (r1.mono e2) r2, h2, fun v d M3 F3 H3 e3 hr w3 r3 => q v d M3 F3 H3 ((e1.trans e2).trans e3) hr w3 r3⟩
    · cases r1.raw_of
      obtain ⟨_, dx, gs, ha, hf⟩ := w1.ce a _ (List.mem_append_right N hm)
      refine ⟨a, dx, gs, rfl, ha, hf.lookup_none hl, ?_⟩
      refine h1 N F1 σ H1 ⟨w1, Z.e.mono e1⟩ _ fun vs ds M2 F2 H2 e2 h2 w2 r2 => ?_
      rw [List.append_nil]
      exact ⟨F2, N, M2, _, R, w2, .cons (.raw _) r2, h2, fun v d M3 F3 H3 e3 hr w3 r3 => q v d M3 F3 H3 ((e1.trans e2).trans e3) hr w3 r3⟩
theorem MethR.ins {S : SpecD} {ta' : TA} {C : Addr} {m : Str} {fs : List (Str × DV)} (hl : fs.lookup m = none) (k : EvAR K ta' ρ M fun ds M2 => S (.ins C fs :: ds) M2 R) : MethR K C m S ta' ρ (.ins C fs) M R := .inl ⟨_, rfl, hl, k⟩
theorem MethR.own {S : SpecD} {ta' : TA} {C a : Addr} {m : Str} {fs : List (Str × DV)} (hm : (a, MO.ins C fs) ∈ M) (hl : fs.lookup m = none) (k : EvAR K ta' ρ M fun ds M2 => S (.raw (.ref a) :: ds) M2 R) : MethR K C m S ta' ρ (.raw (.ref a)) M R := .inr ⟨_, _, rfl, hm, hl, k⟩
/-- xs.append(e) -/
def AppE (i : Nat) (a : Addr) (xs : List DV) (ds : List DV) (M : Ms) (R : DV → Ms → Prop) : Prop := ∃ d, ds = [d] ∧ M[i]? = some (a, MO.lst xs) ∧ R .non (M.set i (a, MO.lst (xs ++ [d])))
def AppR (K : PySem.W.Frag) (t : TA) (ρ : Rho) (o : DV) (M : Ms) (R : DV → Ms → Prop) : Prop := ∃ (i : Nat) (a : Addr) (xs : List DV), o = .raw (.ref a) ∧ M[i]? = some (a, MO.lst xs) ∧ xs.length < 100000 ∧ EvAR K t ρ M fun ds M2 => ∃ d, ds = [d] ∧ M2[i]? = some (a, MO.lst xs) ∧ R .non (M2.set i (a, MO.lst (xs ++ [d])))
theorem w_append {ta' : TA} (h : EvR K to ρ M fun o M1 => AppR K ta' ρ o M1 R) : EvR K (tBM K "list" rAppend to ta') ρ M R := fun N F σ H S Q q =>
  h N F σ H S _ fun v o M1 F1 H1 e1 ⟨i, a, xs, ho, hi, hl, h1⟩ w1 r1 => by
    subst ho
    cases r1.raw_of
    obtain ⟨_, vs, hv, rv⟩ := w1.ce a _ (List.mem_append_right N (List.mem_of_getElem? hi))
    refine ⟨ty_list (F := F1) hv, h1 N F1 σ H1 ⟨w1, S.e.mono e1⟩ _ fun us ds M2 F2 H2 e2 ⟨d, hd, hi2, hr⟩ w2 r2 => ?_⟩
    subst hd
    obtain ⟨u, rfl, ru⟩ := rpa1 r2
    obtain ⟨_, vs2, hv2, rv2⟩ := w2.ce a _ (List.mem_append_right N (List.mem_of_getElem? hi2))
    refine ⟨a, vs2, u, rfl, rfl, hv2, by rw [rv2.length]; exact Evl.sz_lt hl, ?_⟩
    have w3 := w2.put (i := N.length + i) (by rw [List.getElem?_append_right (Nat.le_add_right _ _), Nat.add_sub_cancel_left]; exact hi2) (mo' := .lst (xs ++ [d])) (o := .lst (vs2 ++ [u])) ⟨_, upd_same, rv2.snoc ru⟩
    rw [List.set_append_right _ _ (Nat.le_add_right _ _), Nat.add_sub_cancel_left] at w3
    exact q _ _ _ F2 _ (e1.trans e2) hr w3 .non
theorem AppR.at {ta' : TA} (i : Nat) {a : Addr} {xs : List DV} (hi : M[i]? = some (a, MO.lst xs)) (hl : xs.length < 100000) (k : EvAR K ta' ρ M fun ds M2 => AppE i a xs ds M2 R) : AppR K ta' ρ (.raw (.ref a)) M R := ⟨i, a, xs, rfl, hi, hl, k⟩
theorem AppR.fin {i : Nat} {a : Addr} {xs : List DV} (hi : M[i]? = some (a, MO.lst xs)) (k : R .non (M.set i (a, MO.lst (xs ++ [d])))) : AppE i a xs [d] M R := ⟨d, rfl, hi, k⟩
/-! tests -/
theorem w_T {c : Bool} (h : c = true) (a : A) : if c = true then A else B := by rw [if_pos h]; exact a
theorem w_F {c : Bool} (h : c = false) (b : B) : if c = true then A else B := by rw [if_neg (by rw [h]; decide)]; exact b
theorem w_not {c : Bool} (h : if c = true then B else A) : if (!c) = true then A else B := by cases c <;> exact h
theorem w_dec {p : Prop} [Decidable p] (a : p → A) (b : ¬ p → B) : if decide p = true then A else B := by
  by_cases h : p
  · rw [if_pos (decide_eq_true h)]; exact a h
  · rw [if_neg (by rw [decide_eq_false h]; decide)]; exact b h
theorem w_decT {p : Prop} [Decidable p] (h : p) (a : A) : if decide p = true then A else B := w_T (decide_eq_true h) a
theorem w_decF {p : Prop} [Decidable p] (h : ¬ p) (b : B) : if decide p = true then A else B := w_F (decide_eq_false h) b
theorem w_bl {b : Bool} {Q : Bool → Prop} (h : Q b) : ∃ c, DV.bl b = .bl c ∧ Q c := ⟨b, rfl, h⟩
theorem w_le {n m : Nat} (h : Nat.ble n m = true) (a : A) : n ≤ m ∧ A := ⟨Nat.le_of_ble_eq_true h, a⟩
/-! statements -/
theorem w_par {i j : Nat} {ta : TA} (h : EvAR K ta ρ M fun ds M1 => ∃ d e, ds = [d, e] ∧ P.nx ((ρ.set i (some d)).set j (some e)) M1) : XS K (tPar i j ta) ρ M P := fun N F σ H D S e => h N F σ H S _ fun vs ds M1 F1 H1 e1 ⟨d, e', hd, hx⟩ w1 r1 => by
  subst hd
  obtain ⟨u, v, rfl, r2, r3⟩ := rpa2 r1
  exact ⟨u, v, rfl, e.nx F1 _ H1 _ M1 e1 hx ⟨w1, ((S.e.mono e1).set r2 i).set r3 j⟩⟩
theorem w_par3 {i j l : Nat} {ta : TA} (h : EvAR K ta ρ M fun ds M1 => ∃ d e g, ds = [d, e, g] ∧ P.nx (((ρ.set i (some d)).set j (some e)).set l (some g)) M1) : XS K (tPar3 i j l ta) ρ M P := fun N F σ H D S e => h N F σ H S _ fun vs ds M1 F1 H1 e1 ⟨d, e', g, hd, hx⟩ w1 r1 => by
  subst hd
  cases r1 with
  | cons r1 t1 => cases t1 with
    | cons r2 t2 => cases t2 with
      | cons r3 t3 => cases t3; exact ⟨_, _, _, rfl, e.nx F1 _ H1 _ M1 e1 hx ⟨w1, (((S.e.mono e1).set r1 i).set r2 j).set r3 l⟩⟩
theorem w_aug {i : Nat} {op : Int → Int → Int} {a : Int} (h : ρ[i]? = some (some (.int a))) (he : EvR K te ρ M fun d M' => ∃ b, d = .int b ∧ P.nx (ρ.set i (some (.int (op a b)))) M') : XS K (tAug i te (ipI op)) ρ M P := fun N F σ H D S e => by
  obtain ⟨v, h1, h2⟩ := S.e.get h
  refine ⟨v, h1, he N F σ H S _ fun w d M' F' H' e1 ⟨b, hd, k⟩ wd r => ?_⟩
  subst hd
  exact ⟨a, b, h2.int_of, r.int_of, e.nx F' _ H' _ M' e1 k ⟨wd, (S.e.mono e1).set (.int _) i⟩⟩
theorem w_int {i : Int} {Q : Int → Prop} (h : Q i) : ∃ c, DV.int i = .int c ∧ Q c := ⟨i, rfl, h⟩
theorem w_2 {Q : DV → DV → Prop} (h : Q x y) : ∃ d e, [x, y] = [d, e] ∧ Q d e := ⟨_, _, rfl, h⟩
theorem w_3 {Q : DV → DV → DV → Prop} (h : Q x y z) : ∃ d e g, [x, y, z] = [d, e, g] ∧ Q d e g := ⟨_, _, _, rfl, h⟩
theorem w_neg {i : Int} (k : R (.int (-i)) M) : RUR K (rU fun i => .int (-i)) (.int i) M R := fun N F u H w h1 Q q => ⟨i, h1.int_of, q _ _ M F H (Evl.Ex.refl F) k w (.int _)⟩
/-! loops in which nothing owned changes -/
theorem w_for {wi : TI} {G : Ms} {n : Nat} {v : Nat → DV} {g : TG} (hI : EvI K wi ρ M G n v fun M' => M' = M) (hG : ∀ c ∈ G, c ∈ M) (inv : Nat → Rho → Prop) (h0 : inv 0 ρ)
    (hs : ∀ i ρ', i < n → inv i ρ' → BdG K g ρ' M (v i) fun ρ2 M2 => XS K t ρ2 M2 { P with nx := fun ρ3 M3 => M3 = M ∧ inv (i + 1) ρ3, ct := fun ρ3 M3 => M3 = M ∧ inv (i + 1) ρ3, bk := P.nx })
    (hd : ∀ ρ', inv n ρ' → P.nx ρ' M) : XS K (tFor wi g t) ρ M P :=
  xs_for hI (fun i ρ' M' => M' = M ∧ inv i ρ') (fun M' e => ⟨e, h0⟩) (fun i ρ' M' _ ⟨e, _⟩ c hc => by rw [e]; exact hG c hc)
    (fun i ρ' M' hi ⟨e, hv⟩ => by subst e; exact hs i ρ' hi hv) fun ρ' M' ⟨e, hv⟩ => by subst e; exact hd ρ' hv
theorem nil_sub {M : Ms} : ∀ c ∈ ([] : Ms), c ∈ M := fun _ h => nomatch h
theorem w_rng1 {ta : TA} {j : Int} (h : EvA K ta ρ M [.int j]) (hj : -(2 ^ 62) ≤ j ∧ j < 2 ^ 62) : EvI K (iRng1 ta) ρ M [] j.toNat (fun i => .int i) fun M' => M' = M := ei_rng1 (h.go ⟨rfl, rfl⟩) hj
theorem w_rng2 {ta : TA} {lo j : Int} (h : EvA K ta ρ M [.int lo, .int j]) (hj : -(2 ^ 62) ≤ lo ∧ lo < 2 ^ 62 ∧ -(2 ^ 62) ≤ j ∧ j < 2 ^ 62) : EvI K (iRng2 ta) ρ M [] (j - lo).toNat (fun i => .int (lo + i)) fun M' => M' = M := ei_rng2 (h.go ⟨rfl, rfl⟩) hj
theorem w_lenTm {α : Type} {f : α → DV} {xs : List α} : RC K (rLen K) [.tup (xs.map f)] M (.int xs.length) := by
  have := rc_lenT (K := K) (M := M) (ds := xs.map f)
  rw [List.length_map] at this; exact this
theorem w_lenLm {α : Type} {f : α → DV} {xs : List α} : RC K (rLen K) [.lst (xs.map f)] M (.int xs.length) := by
  have := rc_lenL (K := K) (M := M) (ds := xs.map f)
  rw [List.length_map] at this; exact this
theorem w_lenCm {α : Type} {f : α → DV} {xs : List α} {a : Addr} (hm : (a, MO.lst (xs.map f)) ∈ M) : RC K (rLen K) [.raw (.ref a)] M (.int xs.length) := by
  have := rc_lenC (K := K) (M := M) (ds := xs.map f) hm
  rw [List.length_map] at this; exact this
end
end DD

set_option Elab.async false
set_option linter.all false
set_option maxRecDepth 100000
set_option maxHeartbeats 4000000
namespace DD
open PySem PySem.Spec PyProof.Rows L2
/-! loops and comprehensions over ranges and over what is known, in which nothing owned changes -/
section
variable {K : PySem.W.Frag} {ρ : Rho} {M : Ms} {R : DV → Ms → Prop} {te : TE} {ta : TA} {t : TS} {tt : TT} {P : Post} {vs : List Nat} {k : Nat}
theorem w_rg1 {a b : Int} (h : a = b) : [DV.int a] = [DV.int b] ∧ M = M := ⟨by rw [h], rfl⟩
theorem w_rg2 {a b c d : Int} (h : a = b) (h2 : c = d) : [DV.int a, DV.int c] = [DV.int b, DV.int d] ∧ M = M := ⟨by rw [h, h2], rfl⟩
/-- for x in range(n) -/
theorem w_for1 (n : Nat) (hn : n ≤ 1000000) (hI : EvAR K ta ρ M fun ds M' => ds = [.int n] ∧ M' = M) (inv : Nat → Rho → Prop) (h0 : inv 0 ρ)
    (hs : ∀ i ρ', i < n → inv i ρ' → XS K t (ρ'.set k (some (.int i))) M { P with nx := fun ρ3 M3 => M3 = M ∧ inv (i + 1) ρ3, ct := fun ρ3 M3 => M3 = M ∧ inv (i + 1) ρ3, bk := P.nx })
    (hd : ∀ ρ', inv n ρ' → P.nx ρ' M) : XS K (tFor (iRng1 ta) (gName k) t) ρ M P := by
  have := ei_rng1 hI (show -(2 ^ 62) ≤ (n : Int) ∧ (n : Int) < 2 ^ 62 by omega)
  rw [Int.toNat_natCast] at this
  exact w_for this nil_sub inv h0 (fun i ρ' hi hv => bd_name (hs i ρ' hi hv)) hd
/-- for x in range(lo, lo + n) -/
theorem w_for2 (lo : Int) (n : Nat) (hl : -1000000 ≤ lo ∧ lo ≤ 1000000) (hn : n ≤ 1000000) (hI : EvAR K ta ρ M fun ds M' => ds = [.int lo, .int (lo + n)] ∧ M' = M) (inv : Nat → Rho → Prop) (h0 : inv 0 ρ)
    (hs : ∀ i ρ', i < n → inv i ρ' → XS K t (ρ'.set k (some (.int (lo + i)))) M { P with nx := fun ρ3 M3 => M3 = M ∧ inv (i + 1) ρ3, ct := fun ρ3 M3 => M3 = M ∧ inv (i + 1) ρ3, bk := P.nx })
    (hd : ∀ ρ', inv n ρ' → P.nx ρ' M) : XS K (tFor (iRng2 ta) (gName k) t) ρ M P := by
  have := ei_rng2 hI (show -(2 ^ 62) ≤ lo ∧ lo < 2 ^ 62 ∧ -(2 ^ 62) ≤ lo + (n : Int) ∧ lo + (n : Int) < 2 ^ 62 by omega)
  rw [show (lo + (n : Int) - lo).toNat = n by omega] at this
  exact w_for this nil_sub inv h0 (fun i ρ' hi hv => bd_name (hs i ρ' hi hv)) hd
/-- for x in xs, a tuple; a list -/
theorem w_forT {ds : List DV} (hI : EvR K te ρ M fun d M' => d = .tup ds ∧ M' = M) (inv : Nat → Rho → Prop) (h0 : inv 0 ρ)
    (hs : ∀ i ρ' d, ds[i]? = some d → inv i ρ' → XS K t (ρ'.set k (some d)) M { P with nx := fun ρ3 M3 => M3 = M ∧ inv (i + 1) ρ3, ct := fun ρ3 M3 => M3 = M ∧ inv (i + 1) ρ3, bk := P.nx })
    (hd : ∀ ρ', inv ds.length ρ' → P.nx ρ' M) : XS K (tFor (iTup K te) (gName k) t) ρ M P :=
  w_for (ei_tup hI) nil_sub inv h0 (fun i ρ' hi hv => bd_name (hs i ρ' _ (nth_get hi) hv)) hd
theorem w_forL {ds : List DV} (hI : EvR K te ρ M fun d M' => d = .lst ds ∧ M' = M) (inv : Nat → Rho → Prop) (h0 : inv 0 ρ)
    (hs : ∀ i ρ' d, ds[i]? = some d → inv i ρ' → XS K t (ρ'.set k (some d)) M { P with nx := fun ρ3 M3 => M3 = M ∧ inv (i + 1) ρ3, ct := fun ρ3 M3 => M3 = M ∧ inv (i + 1) ρ3, bk := P.nx })
    (hd : ∀ ρ', inv ds.length ρ' → P.nx ρ' M) : XS K (tFor (iList K te) (gName k) t) ρ M P :=
  w_for (ei_lst hI) nil_sub inv h0 (fun i ρ' hi hv => bd_name (hs i ρ' _ (nth_get hi) hv)) hd
/-- for (x, y, ..) in xs -/
theorem w_forTt {ds : List DV} {g : TG} (hI : EvR K te ρ M fun d M' => d = .tup ds ∧ M' = M) (inv : Nat → Rho → Prop) (h0 : inv 0 ρ)
    (hs : ∀ i ρ' d, ds[i]? = some d → inv i ρ' → BdG K g ρ' M d fun ρ2 M2 => XS K t ρ2 M2 { P with nx := fun ρ3 M3 => M3 = M ∧ inv (i + 1) ρ3, ct := fun ρ3 M3 => M3 = M ∧ inv (i + 1) ρ3, bk := P.nx })
    (hd : ∀ ρ', inv ds.length ρ' → P.nx ρ' M) : XS K (tFor (iTup K te) g t) ρ M P :=
  w_for (ei_tup hI) nil_sub inv h0 (fun i ρ' hi hv => hs i ρ' _ (nth_get hi) hv) hd
theorem w_forLt {ds : List DV} {g : TG} (hI : EvR K te ρ M fun d M' => d = .lst ds ∧ M' = M) (inv : Nat → Rho → Prop) (h0 : inv 0 ρ)
    (hs : ∀ i ρ' d, ds[i]? = some d → inv i ρ' → BdG K g ρ' M d fun ρ2 M2 => XS K t ρ2 M2 { P with nx := fun ρ3 M3 => M3 = M ∧ inv (i + 1) ρ3, ct := fun ρ3 M3 => M3 = M ∧ inv (i + 1) ρ3, bk := P.nx })
    (hd : ∀ ρ', inv ds.length ρ' → P.nx ρ' M) : XS K (tFor (iList K te) g t) ρ M P :=
  w_for (ei_lst hI) nil_sub inv h0 (fun i ρ' hi hv => hs i ρ' _ (nth_get hi) hv) hd
/-- for i, x in enumerate(xs) -/
theorem w_forE {ds : List DV} {k2 : Nat} (hI : EvAR K ta ρ M fun xs M' => xs = [.tup ds] ∧ M' = M) (inv : Nat → Rho → Prop) (h0 : inv 0 ρ)
    (hs : ∀ i ρ' d, ds[i]? = some d → inv i ρ' → XS K t ((ρ'.set k (some (.int i))).set k2 (some d)) M { P with nx := fun ρ3 M3 => M3 = M ∧ inv (i + 1) ρ3, ct := fun ρ3 M3 => M3 = M ∧ inv (i + 1) ρ3, bk := P.nx })
    (hd : ∀ ρ', inv ds.length ρ' → P.nx ρ' M) : XS K (tFor (DE.iEnumT K ta) (gTup K 2 (gCons (gName k) (gCons (gName k2) gNil))) t) ρ M P :=
  w_for (ei_enumT hI) nil_sub inv h0 (fun i ρ' hi hv => bd_tup (bds_nm (bds_nm (bds_nil (hs i ρ' _ (nth_get hi) hv)))) rfl) hd
theorem w_bool {c : Bool} {A B : Prop} (a : c = true → A) (b : c = false → B) : if c = true then A else B := by
  cases c with
  | true => exact a rfl
  | false => exact b rfl
theorem rc_allM {α : Type} {xs : List α} {p : α → Bool} : RC K (rAll K) [.lst (xs.map fun x => .bl (p x))] M (.bl (xs.all p)) := by
  have := rc_allL (K := K) (M := M) (bs := xs.map p)
  rw [List.map_map, List.all_map] at this
  exact this
theorem rc_anyM {α : Type} {xs : List α} {p : α → Bool} : RC K (rAny K) [.lst (xs.map fun x => .bl (p x))] M (.bl (xs.any p)) := by
  have := rc_anyL (K := K) (M := M) (bs := xs.map p)
  rw [List.map_map, List.any_map] at this
  exact this
/-! comprehensions -/
theorem w_lc1 (n : Nat) (f : Nat → DV) (hn : n ≤ 100000) (hI : EvAR K ta ρ M fun ds M' => ds = [.int n] ∧ M' = M) (hs : ∀ i : Nat, i < n → EvR K te ((wipeD ρ vs).set k (some (.int i))) M fun d M' => d = f i ∧ M' = M)
    (kk : R (.lst ((List.range n).map f)) M) (hk : k ∈ vs := by simp) : EvR K (tLc (iRng1 ta) (gName k) tYes te vs) ρ M R := by
  have := ei_rng1 hI (show -(2 ^ 62) ≤ (n : Int) ∧ (n : Int) < 2 ^ 62 by omega)
  rw [Int.toNat_natCast] at this
  have h := ev_lc (K := K) (te := te) (tt := tYes) (fun _ => true) f this hn (bdw_name hk) fun i hi => bd_name ⟨rfl, et_yes, fun _ => hs i hi⟩
  rw [picked_all] at h
  exact h.go kk
theorem w_lc2 (lo : Int) (n : Nat) (f : Nat → DV) (hl : -1000000 ≤ lo ∧ lo ≤ 1000000) (hn : n ≤ 100000) (hI : EvAR K ta ρ M fun ds M' => ds = [.int lo, .int (lo + n)] ∧ M' = M) (hs : ∀ i : Nat, i < n → EvR K te ((wipeD ρ vs).set k (some (.int (lo + i)))) M fun d M' => d = f i ∧ M' = M)
    (kk : R (.lst ((List.range n).map f)) M) (hk : k ∈ vs := by simp) : EvR K (tLc (iRng2 ta) (gName k) tYes te vs) ρ M R := by
  have := ei_rng2 hI (show -(2 ^ 62) ≤ lo ∧ lo < 2 ^ 62 ∧ -(2 ^ 62) ≤ lo + (n : Int) ∧ lo + (n : Int) < 2 ^ 62 by omega)
  rw [show (lo + (n : Int) - lo).toNat = n by omega] at this
  have h := ev_lc (K := K) (te := te) (tt := tYes) (fun _ => true) f this hn (bdw_name hk) fun i hi => bd_name ⟨rfl, et_yes, fun _ => hs i hi⟩
  rw [picked_all] at h
  exact h.go kk
/-- with a test -/
theorem w_lc1t (n : Nat) (p : Nat → Bool) (f : Nat → DV) (hn : n ≤ 100000) (hI : EvAR K ta ρ M fun ds M' => ds = [.int n] ∧ M' = M) (ht : ∀ i : Nat, i < n → EvTR K tt ((wipeD ρ vs).set k (some (.int i))) M fun b M' => b = p i ∧ M' = M)
    (hs : ∀ i : Nat, i < n → p i = true → EvR K te ((wipeD ρ vs).set k (some (.int i))) M fun d M' => d = f i ∧ M' = M)
    (kk : R (.lst (((List.range n).filter p).map f)) M) (hk : k ∈ vs := by simp) : EvR K (tLc (iRng1 ta) (gName k) tt te vs) ρ M R := by
  have := ei_rng1 hI (show -(2 ^ 62) ≤ (n : Int) ∧ (n : Int) < 2 ^ 62 by omega)
  rw [Int.toNat_natCast] at this
  have h := ev_lc (K := K) (te := te) (tt := tt) p f this hn (bdw_name hk) fun i hi => bd_name ⟨rfl, ht i hi, fun e => hs i hi e⟩
  have e : ∀ n, picked p f n = ((List.range n).filter p).map f := fun n => by
    induction n with
    | zero => rfl
    | succ n ih =>
      unfold picked
      rw [ih, List.range_succ, List.filter_append]
      cases h : p n <;> simp [h]
  rw [e] at h
  exact h.go kk
/-- over what is known -/
theorem map_range_nth {F : DV → DV} {ds : List DV} : (List.range ds.length).map (fun i => F (nth ds i)) = ds.map F := by
  refine List.ext_getElem? fun i => ?_
  rw [List.getElem?_map, List.getElem?_map]
  by_cases h : i < ds.length
  · rw [List.getElem?_range h, nth_get h]; rfl
  · rw [List.getElem?_eq_none (by simpa using h), List.getElem?_eq_none (by simpa using h)]; rfl
theorem w_lcT {ds : List DV} (F : DV → DV) (hn : ds.length ≤ 100000) {te0 : TE} (hI : EvR K te0 ρ M fun d M' => d = .tup ds ∧ M' = M) (hs : ∀ d, d ∈ ds → EvR K te ((wipeD ρ vs).set k (some d)) M fun d' M' => d' = F d ∧ M' = M)
    (kk : R (.lst (ds.map F)) M) (hk : k ∈ vs := by simp) : EvR K (tLc (iTup K te0) (gName k) tYes te vs) ρ M R := by
  have h := ev_lc (K := K) (te := te) (tt := tYes) (fun _ => true) (fun i => F (nth ds i)) (ei_tup hI) hn (bdw_name hk) fun i hi => bd_name ⟨rfl, et_yes, fun _ => hs _ (List.mem_of_getElem? (nth_get hi))⟩
  rw [picked_all, map_range_nth] at h
  exact h.go kk
theorem w_lcL {ds : List DV} (F : DV → DV) (hn : ds.length ≤ 100000) {te0 : TE} (hI : EvR K te0 ρ M fun d M' => d = .lst ds ∧ M' = M) (hs : ∀ d, d ∈ ds → EvR K te ((wipeD ρ vs).set k (some d)) M fun d' M' => d' = F d ∧ M' = M)
    (kk : R (.lst (ds.map F)) M) (hk : k ∈ vs := by simp) : EvR K (tLc (iList K te0) (gName k) tYes te vs) ρ M R := by
  have h := ev_lc (K := K) (te := te) (tt := tYes) (fun _ => true) (fun i => F (nth ds i)) (ei_lst hI) hn (bdw_name hk) fun i hi => bd_name ⟨rfl, et_yes, fun _ => hs _ (List.mem_of_getElem? (nth_get hi))⟩
  rw [picked_all, map_range_nth] at h
  exact h.go kk
theorem w_lcTm {α : Type} {xs : List α} {g : α → DV} (F : α → DV) (hn : xs.length ≤ 100000) {te0 : TE} (hI : EvR K te0 ρ M fun d M' => d = .tup (xs.map g) ∧ M' = M) (hs : ∀ x, x ∈ xs → EvR K te ((wipeD ρ vs).set k (some (g x))) M fun d' M' => d' = F x ∧ M' = M)
    (kk : R (.lst (xs.map F)) M) (hk : k ∈ vs := by simp) : EvR K (tLc (iTup K te0) (gName k) tYes te vs) ρ M R := by
  have e : ∀ i, i < (xs.map g).length → ∃ x, xs[i]? = some x ∧ nth (xs.map g) i = g x := fun i hi => by
    rw [List.length_map] at hi
    exact ⟨xs[i], List.getElem?_eq_getElem hi, nth_of (by rw [List.getElem?_map, List.getElem?_eq_getElem hi]; rfl)⟩
  have h := ev_lc (K := K) (te := te) (tt := tYes) (fun _ => true) (fun i => match xs[i]? with | some x => F x | none => .non) (ei_tup hI) (by rw [List.length_map]; exact hn) (bdw_name hk) fun i hi => bd_name ⟨rfl, et_yes, fun _ => by
    obtain ⟨x, h1, h2⟩ := e i hi
    rw [h1, h2]
    exact hs x (List.mem_of_getElem? h1)⟩
  rw [picked_all] at h
  have e2 : (List.range (xs.map g).length).map (fun i => match xs[i]? with | some x => F x | none => .non) = xs.map F := by
    rw [List.length_map]
    refine List.ext_getElem? fun i => ?_
    rw [List.getElem?_map, List.getElem?_map]
    by_cases hh : i < xs.length
    · rw [List.getElem?_range hh, List.getElem?_eq_getElem hh]; simp [List.getElem?_eq_getElem hh]
    · rw [List.getElem?_eq_none (by simpa using hh), List.getElem?_eq_none (by simpa using hh)]; rfl
  rw [e2] at h
  exact h.go kk
end
end DD

set_option Elab.async false
set_option linter.all false
set_option maxRecDepth 100000
set_option maxHeartbeats 4000000
namespace DD
open PySem PySem.Spec PyProof.Rows L2
/-! how deep and how much, by parts -/
structure Fs (d : DV) (p b : Nat) : Prop where
  f : fit d = true
  dp : dep d ≤ p
  b : blk d ≤ b
structure FsA (ds : List DV) (p b : Nat) : Prop where
  f : fitA ds = true
  dp : depA ds ≤ p
  b : blkA ds ≤ b
section
variable {d e : DV} {ds es : List DV} {p q b c : Nat}
theorem Fs.non : Fs .non 0 0 := ⟨rfl, Nat.le_refl _, Nat.le_refl _⟩
theorem Fs.bl {x : Bool} : Fs (.bl x) 0 0 := ⟨rfl, Nat.le_refl _, Nat.le_refl _⟩
theorem Fs.int {i : Int} (h : -1000000000000000000000000000000 < i ∧ i < 1000000000000000000000000000000) : Fs (.int i) 0 0 := ⟨decide_eq_true (Nat.lt_of_lt_of_le (show i.natAbs < 1000000000000000000000000000000 by omega) (by decide)), Nat.le_refl _, Nat.le_refl _⟩
theorem Fs.str {s : Str} (h : fit (.str s) = true) (hl : s.cps.size ≤ 1000) : Fs (.str s) 0 1000 := ⟨h, Nat.le_refl _, hl⟩
theorem Fs.tup (h : FsA ds p b) : Fs (.tup ds) (p + 1) b := ⟨h.f, Nat.succ_le_succ h.dp, h.b⟩
theorem Fs.lst (h : FsA ds p b) : Fs (.lst ds) (p + 1) b := ⟨h.f, Nat.succ_le_succ h.dp, h.b⟩
theorem FsA.nil : FsA [] 0 0 := ⟨rfl, Nat.le_refl _, Nat.le_refl _⟩
theorem FsA.cons (h : Fs d p b) (t : FsA ds q c) : FsA (d :: ds) (max p q) (b + 1 + c) := ⟨by show (fit d && fitA ds) = true; rw [h.f, t.f]; rfl, by show max (dep d) (depA ds) ≤ _; have := h.dp; have := t.dp; omega, by show blk d + 1 + blkA ds ≤ _; have := h.b; have := t.b; omega⟩
theorem FsA.all : ∀ {ds : List DV} {n : Nat}, (∀ d, d ∈ ds → Fs d p b) → ds.length ≤ n → FsA ds p (n * (b + 1))
  | [], _, _, _ => ⟨rfl, Nat.zero_le _, Nat.zero_le _⟩
  | d :: ds, n, h, hl => by
    have h1 := h d List.mem_cons_self
    have h2 := FsA.all (n := n - 1) (fun e he => h e (List.mem_cons_of_mem _ he)) (by simp at hl; omega)
    have hn : 1 ≤ n := by simp at hl; omega
    refine ⟨by show (fit d && fitA ds) = true; rw [h1.f, h2.f]; rfl, by show max (dep d) (depA ds) ≤ _; have := h1.dp; have := h2.dp; omega, ?_⟩
    show blk d + 1 + blkA ds ≤ _
    have := h1.b; have := h2.b
    obtain ⟨m, rfl⟩ : ∃ m, n = m + 1 := ⟨n - 1, by omega⟩
    rw [Nat.add_sub_cancel] at this
    rw [Nat.add_mul, Nat.one_mul]
    omega
theorem Fs.le (h : Fs d p b) (h1 : p ≤ q) (h2 : b ≤ c) : Fs d q c := ⟨h.f, Nat.le_trans h.dp h1, Nat.le_trans h.b h2⟩
theorem Fs.fit (h : Fs d p b) (h1 : p ≤ 60) (h2 : b ≤ 100000) : Fit d := ⟨h.f, Nat.le_trans h.dp h1, Nat.le_trans h.b h2⟩
/-- of small ints, up to a hundred; up to two thousand -/
theorem FsA.ints {ns : List Int} (h : ∀ n ∈ ns, -1000000000000000000000000000000 < n ∧ n < 1000000000000000000000000000000) (hl : ns.length ≤ 100) : FsA (ns.map DV.int) 0 100 := by
  have := FsA.all (p := 0) (b := 0) (n := 100) (ds := ns.map DV.int) (fun d hd => by
    obtain ⟨n, hn, rfl⟩ := List.mem_map.mp hd
    exact Fs.int (h n hn)) (by rw [List.length_map]; exact hl)
  exact this
end
section
variable {K : PySem.W.Frag} {M : Ms} {x y : DV} {p b q c : Nat}
theorem rc_showF (h : Fs x p b) (h1 : p ≤ 60) (h2 : b ≤ 100000) : RC K (rRepr K) [x] M (.str (showD x)) := rc_show (h.fit h1 h2)
theorem rc_showUF (h : Fs x p b) (h1 : p ≤ 60) (h2 : b ≤ 100000) : RC K (rReprU K) [x] M (.str (showD x)) := rc_showU (h.fit h1 h2)
theorem eqD_selfF (h : Fs x p b) (h1 : p ≤ 60) (h2 : b ≤ 100000) : eqD x x = true := eqD_self (h.fit h1 h2)
theorem rv_p6 : RV K (rI CPow fun i j => .int (i ^ j.toNat)) (.int 10) (.int 6) M (.int 1000000) := rv_I (show CPow 10 6 from ⟨by decide, by decide, by decide⟩)
theorem rv_p12 : RV K (rI CPow fun i j => .int (i ^ j.toNat)) (.int 10) (.int 12) M (.int 1000000000000) := rv_I (show CPow 10 12 from ⟨by decide, by decide, by decide⟩)
theorem rv_p14 : RV K (rI CPow fun i j => .int (i ^ j.toNat)) (.int 10) (.int 14) M (.int 100000000000000) := rv_I (show CPow 10 14 from ⟨by decide, by decide, by decide⟩)
theorem rv_p18 : RV K (rI CPow fun i j => .int (i ^ j.toNat)) (.int 10) (.int 18) M (.int 1000000000000000000) := rv_I (show CPow 10 18 from ⟨by decide, by decide, by decide⟩)
theorem rv_p19 : RV K (rI CPow fun i j => .int (i ^ j.toNat)) (.int 10) (.int 19) M (.int 10000000000000000000) := rv_I (show CPow 10 19 from ⟨by decide, by decide, by decide⟩)
theorem rv_p20 : RV K (rI CPow fun i j => .int (i ^ j.toNat)) (.int 10) (.int 20) M (.int 100000000000000000000) := rv_I (show CPow 10 20 from ⟨by decide, by decide, by decide⟩)
/-- the same on both sides -/
theorem rv_neSelf (h : Fit x) : RV K (rNeU K) x x M (.bl false) := by
  have := rv_neF (K := K) (M := M) h h
  rw [eqD_self h] at this
  exact this
theorem rv_eqSelf (h : Fit x) : RV K (rEqU K) x x M (.bl true) := by
  have := rv_eqF (K := K) (M := M) h h
  rw [eqD_self h] at this
  exact this
theorem w_two {A B : Prop} {s : Str} (b : B) : if (!decide (s = s)) = true then A else B := by rw [decide_eq_true rfl]; exact b
end
end DD

set_option Elab.async false
set_option linter.all false
set_option maxRecDepth 100000
set_option maxHeartbeats 4000000
namespace DD
open PySem PySem.Spec PyProof.Rows L2
/-! walks over what only comes out -/
def EvIX (K : PySem.W.Frag) (wi : TI) (ρ : Rho) (M : Ms) (Φ : Nat → (Nat → DV) → Ms → Ms → Prop) : Prop := ∀ (N : Ms) (F : Hp) (σ : L2.St) (H : Hp), Sn K F (N ++ M) ρ σ H → ∀ Q : It → Hp → Prop, (∀ J n y G M' F' H', Ex F F' → Φ n y G M' → Wd K F' (N ++ M') H' → WalkD K F' G J n y → Q J H') → wi σ H Q
section
variable {K : PySem.W.Frag} {ρ : Rho} {M : Ms} {te : TE} {tb : TS} {P : Post} {g : TG} {wi : TI} {R : DV → Ms → Prop}
theorem xs_forX {Φ : Nat → (Nat → DV) → Ms → Ms → Prop} (hI : EvIX K wi ρ M Φ)
    (h : ∀ n y G M', Φ n y G M' → ∃ inv : Nat → Rho → Ms → Prop, inv 0 ρ M' ∧ (∀ i ρ' M', i ≤ n → inv i ρ' M' → ∀ c ∈ G, c ∈ M') ∧
      (∀ i ρ' M', i < n → inv i ρ' M' → BdG K g ρ' M' (y i) fun ρ2 M2 => XS K tb ρ2 M2 { P with nx := inv (i + 1), ct := inv (i + 1), bk := P.nx }) ∧ (∀ ρ' M', inv n ρ' M' → P.nx ρ' M')) : XS K (tFor wi g tb) ρ M P := fun N F σ H D S e =>
  hI N F σ H S _ fun J n y G M1 F1 H1 e1 hr w1 W => by
    obtain ⟨inv, h0, hG, hs, hd⟩ := h n y G M1 hr
    refine ⟨fun i m σ' H' => m = n - i ∧ i ≤ n ∧ ∃ F' ρ' M', Ex F1 F' ∧ inv i ρ' M' ∧ Sn K F' (N ++ M') ρ' σ' H', ⟨n, by simp, Nat.zero_le _, F1, ρ, M1, Evl.Ex.refl _, h0, w1, S.e.mono e1⟩, ?_⟩
    rintro i m σ' H' ⟨rfl, hi, F', ρ', M', e2, hv, S2⟩
    have hg : ∀ c ∈ G, c ∈ N ++ M' := fun c hc => List.mem_append_right N (hG i ρ' M' hi hv c hc)
    by_cases hlt : i < n
    · refine .inr ⟨W.goes i F' _ H' hlt e2 S2.w hg, fun σ3 H3 => ∃ F3 ρ3 M3, Ex F' F3 ∧ inv (i + 1) ρ3 M3 ∧ Sn K F3 (N ++ M3) ρ3 σ3 H3, fun σ3 H3 ⟨F3, ρ3, M3, e3, hv3, S3⟩ => ⟨n - (i + 1), by omega, rfl, hlt, F3, ρ3, M3, e2.trans e3, hv3, S3⟩, fun x H3 hy => ?_⟩
      obtain ⟨F3, e3, w3, r3⟩ := W.yields i F' _ H' x H3 hlt e2 S2.w hg hy
      refine hs i ρ' M' hlt hv N F3 σ' H3 x _ ⟨w3, S2.e.mono e3⟩ r3 fun σ4 F4 H4 ρ4 M4 e4 h4 S4 => ?_
      have e04 : Ex F F4 := ((e1.trans e2).trans e3).trans e4
      exact h4 N F4 σ4 H4 _ S4 ⟨fun F5 σ5 H5 ρ5 M5 e5 h5 S5 => ⟨F5, ρ5, M5, (e3.trans e4).trans e5, h5, S5⟩, (e.mono e04).rt, (e.mono e04).nx, fun F5 σ5 H5 ρ5 M5 e5 h5 S5 => ⟨F5, ρ5, M5, (e3.trans e4).trans e5, h5, S5⟩⟩
    · have en : i = n := by omega
      subst en
      exact .inl ⟨W.stops F' _ H' e2 S2.w hg, (e.mono (e1.trans e2)).nx F' σ' H' ρ' M' (Evl.Ex.refl _) (hd ρ' M' hv) S2⟩
theorem ei_lstX {Φ : List DV → Ms → Prop} (h : EvR K te ρ M fun d M' => ∃ ds, d = .lst ds ∧ Φ ds M') : EvIX K (iList K te) ρ M fun n y G M' => ∃ ds, n = ds.length ∧ y = nth ds ∧ G = [] ∧ Φ ds M' := fun N F σ H S Q q =>
  h N F σ H S _ fun v d M1 F1 H1 e1 ⟨ds, hd, hr⟩ w1 r1 => by
    subst hd
    obtain ⟨a, xs, rfl, hx, hr1⟩ := r1.lst_of
    refine ⟨a, rfl, ⟨xs, SqL.of (w1.fr _ _ hx)⟩, q _ _ _ _ M1 F1 H1 e1 ⟨ds, rfl, rfl, rfl, hr⟩ w1 ⟨fun i F2 M2 H2 hi e2 w2 _ => ?_, fun F2 M2 H2 e2 w2 _ => ?_, fun i F2 M2 H2 x H3 hi e2 w2 _ hy => ?_⟩⟩
    · exact walk_list.goes i H2 (by rw [hr1.length]; exact hi) (SqL.of ((e2.trans w2.fr) _ _ hx))
    · have := (walk_list (K := K)).stops H2 (SqL.of ((e2.trans w2.fr) _ _ hx))
      rw [hr1.length] at this; exact this
    · obtain ⟨rfl, hg⟩ := walk_list.yields i H2 x H3 (by rw [hr1.length]; exact hi) (SqL.of ((e2.trans w2.fr) _ _ hx)) hy
      obtain ⟨d, hd, rd⟩ := hr1.get' hg
      exact ⟨F2, Evl.Ex.refl _, w2, by rw [nth_of hd]; exact rd.mono e2⟩
theorem ei_tupX {Φ : List DV → Ms → Prop} (h : EvR K te ρ M fun d M' => ∃ ds, d = .tup ds ∧ Φ ds M') : EvIX K (iTup K te) ρ M fun n y G M' => ∃ ds, n = ds.length ∧ y = nth ds ∧ G = [] ∧ Φ ds M' := fun N F σ H S Q q =>
  h N F σ H S _ fun v d M1 F1 H1 e1 ⟨ds, hd, hr⟩ w1 r1 => by
    subst hd
    obtain ⟨a, xs, rfl, hx, hr1⟩ := r1.tup_of
    refine ⟨a, rfl, ⟨xs, Evl.ex_t w1.fr hx⟩, q _ _ _ _ M1 F1 H1 e1 ⟨ds, rfl, rfl, rfl, hr⟩ w1 ⟨fun i F2 M2 H2 hi e2 w2 _ => ?_, fun F2 M2 H2 e2 w2 _ => ?_, fun i F2 M2 H2 x H3 hi e2 w2 _ hy => ?_⟩⟩
    · exact walk_tup.goes i H2 (by rw [hr1.length]; exact hi) (Evl.ex_t (e2.trans w2.fr) hx)
    · have := walk_tup.stops H2 (Evl.ex_t (e2.trans w2.fr) hx)
      rw [hr1.length] at this; exact this
    · obtain ⟨rfl, hg⟩ := walk_tup.yields i H2 x H3 (by rw [hr1.length]; exact hi) (Evl.ex_t (e2.trans w2.fr) hx) hy
      obtain ⟨d, hd, rd⟩ := hr1.get' hg
      exact ⟨F2, Evl.Ex.refl _, w2, by rw [nth_of hd]; exact rd.mono e2⟩
theorem w_forLX (h : EvR K te ρ M fun d M' => ∃ ds, d = .lst ds ∧ ∃ inv : Nat → Rho → Ms → Prop, inv 0 ρ M' ∧ (∀ i ρ' M' d, ds[i]? = some d → inv i ρ' M' → BdG K g ρ' M' d fun ρ2 M2 => XS K tb ρ2 M2 { P with nx := inv (i + 1), ct := inv (i + 1), bk := P.nx }) ∧ (∀ ρ' M', inv ds.length ρ' M' → P.nx ρ' M')) : XS K (tFor (iList K te) g tb) ρ M P :=
  xs_forX (ei_lstX h) fun n y G M' ⟨ds, hn, hy, hG, inv, h0, hs, hd⟩ => by
    subst hn hy hG
    exact ⟨inv, h0, fun _ _ _ _ _ => nil_sub, fun i ρ' M'' hi hv => hs i ρ' M'' _ (nth_get hi) hv, hd⟩
theorem w_forTX (h : EvR K te ρ M fun d M' => ∃ ds, d = .tup ds ∧ ∃ inv : Nat → Rho → Ms → Prop, inv 0 ρ M' ∧ (∀ i ρ' M' d, ds[i]? = some d → inv i ρ' M' → BdG K g ρ' M' d fun ρ2 M2 => XS K tb ρ2 M2 { P with nx := inv (i + 1), ct := inv (i + 1), bk := P.nx }) ∧ (∀ ρ' M', inv ds.length ρ' M' → P.nx ρ' M')) : XS K (tFor (iTup K te) g tb) ρ M P :=
  xs_forX (ei_tupX h) fun n y G M' ⟨ds, hn, hy, hG, inv, h0, hs, hd⟩ => by
    subst hn hy hG
    exact ⟨inv, h0, fun _ _ _ _ _ => nil_sub, fun i ρ' M'' hi hv => hs i ρ' M'' _ (nth_get hi) hv, hd⟩
theorem rv_x2 {d : DV} : RV K (rMulU K) (.lst [d]) (.int 2) M (.lst [d, d]) := rv_mulL (k := 2) ⟨by decide, by decide⟩ (by show 1 * 2 ≤ 100000; decide)
theorem rv_xn {d : DV} {k : Int} (h0 : 0 ≤ k) (h1 : k ≤ 1000) : RV K (rMulU K) (.lst [d]) (.int k) M (.lst (List.replicate k.toNat d)) := by
  have := rv_mulL (K := K) (M := M) (ds := [d]) (k := k) ⟨by omega, by omega⟩ (by show 1 * k.toNat ≤ 100000; omega)
  rw [show (List.replicate k.toNat [d]).flatten = List.replicate k.toNat d by
    generalize k.toNat = n
    induction n with
    | zero => rfl
    | succ n ih => rw [List.replicate_succ, List.flatten_cons, ih, List.replicate_succ]; rfl] at this
  exact this
theorem w_same {α : Type} [DecidableEq α] {A B : Prop} {s : α} (b : B) : if (!decide (s = s)) = true then A else B := by rw [decide_eq_true rfl]; exact b
theorem w_sameT {α : Type} [DecidableEq α] {A B : Prop} {s : α} (b : A) : if decide (s = s) = true then A else B := by rw [if_pos (decide_eq_true rfl)]; exact b
theorem nil_or {α : Type} (l : List α) : l = [] ∨ ∃ x r, l = x :: r := by cases l with
  | nil => exact .inl rfl
  | cons x r => exact .inr ⟨x, r, rfl⟩
end
end DD

set_option Elab.async false
set_option linter.all false
set_option maxRecDepth 100000
set_option maxHeartbeats 4000000
namespace DD
open PySem PySem.Spec PyProof.Rows L2
/-! is it empty, by == and != -/
section
variable {K : PySem.W.Frag} {M : Ms} {ds : List DV}
theorem eqD_nilL (h : Fit (.lst ds)) : eqD (.lst ds) (.lst []) = ds.isEmpty := by
  cases ds with
  | nil => exact eqD_self h
  | cons d r =>
    obtain ⟨p, h1, _⟩ := h.py
    unfold eqD
    rw [h1]
    have : ∃ y ys, p = .list (y :: ys) := by
      have h2 : (toPyA (d :: r)).map PyData.list = some p := h1
      have h3 : toPyA (d :: r) = (match toPy d, toPyA r with | some y, some ys => some (y :: ys) | _, _ => none) := rfl
      rw [h3] at h2
      cases e1 : toPy d <;> cases e2 : toPyA r <;> rw [e1, e2] at h2 <;> simp at h2
      exact ⟨_, _, h2.symm⟩
    obtain ⟨y, ys, rfl⟩ := this
    rfl
theorem eqD_nilT (h : Fit (.tup ds)) : eqD (.tup ds) (.tup []) = ds.isEmpty := by
  cases ds with
  | nil => exact eqD_self h
  | cons d r =>
    obtain ⟨p, h1, _⟩ := h.py
    unfold eqD
    rw [h1]
    have : ∃ y ys, p = .tuple (y :: ys) := by
      have h2 : (toPyA (d :: r)).map PyData.tuple = some p := h1
      have h3 : toPyA (d :: r) = (match toPy d, toPyA r with | some y, some ys => some (y :: ys) | _, _ => none) := rfl
      rw [h3] at h2
      cases e1 : toPy d <;> cases e2 : toPyA r <;> rw [e1, e2] at h2 <;> simp at h2
      exact ⟨_, _, h2.symm⟩
    obtain ⟨y, ys, rfl⟩ := this
    rfl
theorem fit_nilL : Fit (.lst []) := ⟨rfl, by decide, by decide⟩
theorem fit_nilT : Fit (.tup []) := ⟨rfl, by decide, by decide⟩
theorem rv_neNilL (h : Fit (.lst ds)) : RV K (rNeU K) (.lst ds) (.lst []) M (.bl (!ds.isEmpty)) := by
  have := rv_neF (K := K) (M := M) h fit_nilL
  rw [eqD_nilL h] at this; exact this
theorem rv_eqNilL (h : Fit (.lst ds)) : RV K (rEqU K) (.lst ds) (.lst []) M (.bl ds.isEmpty) := by
  have := rv_eqF (K := K) (M := M) h fit_nilL
  rw [eqD_nilL h] at this; exact this
theorem rv_neNilT (h : Fit (.tup ds)) : RV K (rNeU K) (.tup ds) (.tup []) M (.bl (!ds.isEmpty)) := by
  have := rv_neF (K := K) (M := M) h fit_nilT
  rw [eqD_nilT h] at this; exact this
theorem rv_eqNilT (h : Fit (.tup ds)) : RV K (rEqU K) (.tup ds) (.tup []) M (.bl ds.isEmpty) := by
  have := rv_eqF (K := K) (M := M) h fit_nilT
  rw [eqD_nilT h] at this; exact this
theorem atI_head {α : Type} {x : α} {r : List α} : atI (x :: r) 0 = some x := atI_nat (j := 0) rfl
end
end DD

set_option Elab.async false
set_option linter.all false
set_option maxRecDepth 100000
set_option maxHeartbeats 4000000
namespace DD
open PySem PySem.Spec PyProof.Rows L2
/-! ints in lists and tuples of ints; slices of owned lists; index -/
section
variable {K : PySem.W.Frag} {M : Ms} {ρ : Rho} {R : DV → Ms → Prop} {te to : TE} {tl th : TO} {lo hi : Option Int} {ds : List DV} {ta : TA}
theorem inV_ints {i : Int} {ns : List Int} : inV (.int i) (ns.map V.int) = ns.contains i := by
  unfold inV
  rw [List.any_map]
  induction ns with
  | nil => rfl
  | cons n r ih =>
    rw [List.any_cons, List.contains_cons, ih]
    congr 1
    show (n == i) = (i == n)
    by_cases h : n = i
    · rw [h]
    · rw [beq_false_of_ne h, beq_false_of_ne (Ne.symm h)]
theorem flat_ints {ns : List Int} : (ns.map V.int).all flatV = true := by
  rw [List.all_eq_true]; intro x hx; obtain ⟨t, _, rfl⟩ := List.mem_map.mp hx; rfl
theorem rv_inLI {i : Int} {ns : List Int} : RV K (rIn K false) (.int i) (.lst (ns.map .int)) M (.bl (ns.contains i)) := fun N F u v H w h1 h2 Q k => by
  obtain ⟨a, xs, rfl, ha, ra⟩ := h2.lst_of
  have hx := ra.ints_of
  subst hx
  rw [h1.int_of]
  refine ⟨a, _, rfl, .inl (SqL.of (w.fr _ _ ha)), rfl, flat_ints, ?_⟩
  show Q (.bl (inV (.int i) (ns.map .int))) H
  rw [inV_ints]
  exact k _ _ M F H (Evl.Ex.refl F) ⟨rfl, rfl⟩ w (.bl _)
theorem rv_ninLI {i : Int} {ns : List Int} : RV K (rIn K true) (.int i) (.lst (ns.map .int)) M (.bl (!ns.contains i)) := fun N F u v H w h1 h2 Q k => by
  obtain ⟨a, xs, rfl, ha, ra⟩ := h2.lst_of
  have hx := ra.ints_of
  subst hx
  rw [h1.int_of]
  refine ⟨a, _, rfl, .inl (SqL.of (w.fr _ _ ha)), rfl, flat_ints, ?_⟩
  show Q (.bl (!inV (.int i) (ns.map .int))) H
  rw [inV_ints]
  exact k _ _ M F H (Evl.Ex.refl F) ⟨rfl, rfl⟩ w (.bl _)
theorem rv_inTI {i : Int} {ns : List Int} : RV K (rIn K false) (.int i) (.tup (ns.map .int)) M (.bl (ns.contains i)) := fun N F u v H w h1 h2 Q k => by
  obtain ⟨a, xs, rfl, ha, ra⟩ := h2.tup_of
  have hx := ra.ints_of
  subst hx
  rw [h1.int_of]
  refine ⟨a, _, rfl, .inr (Evl.ex_t w.fr ha), rfl, flat_ints, ?_⟩
  show Q (.bl (inV (.int i) (ns.map .int))) H
  rw [inV_ints]
  exact k _ _ M F H (Evl.Ex.refl F) ⟨rfl, rfl⟩ w (.bl _)
theorem rv_ninTI {i : Int} {ns : List Int} : RV K (rIn K true) (.int i) (.tup (ns.map .int)) M (.bl (!ns.contains i)) := fun N F u v H w h1 h2 Q k => by
  obtain ⟨a, xs, rfl, ha, ra⟩ := h2.tup_of
  have hx := ra.ints_of
  subst hx
  rw [h1.int_of]
  refine ⟨a, _, rfl, .inr (Evl.ex_t w.fr ha), rfl, flat_ints, ?_⟩
  show Q (.bl (!inV (.int i) (ns.map .int))) H
  rw [inV_ints]
  exact k _ _ M F H (Evl.Ex.refl F) ⟨rfl, rfl⟩ w (.bl _)
/-- a slice of an owned list: a new list that stays -/
theorem ev_slC {a : Addr} (hm : (a, MO.lst ds) ∈ M) (h : Ev K te ρ M (.raw (.ref a))) (h1 : EvO K tl ρ M lo) (h2 : EvO K th ρ M hi) : Ev K (tSl (rSlU K) te tl th) ρ M (.lst (cutL ds lo hi)) := fun N F σ H S Q q => h N F σ H S _ fun v d M' F1 H1 e1 ⟨hd, hm1⟩ w1 r1 => by
  subst hd hm1
  cases r1.raw_of
  refine h1 N F1 σ H1 ⟨w1, S.e.mono e1⟩ _ fun F2 H2 e2 w2 => h2 N F2 σ H2 ⟨w2, S.e.mono (e1.trans e2)⟩ _ fun F3 H3 e3 w3 => .inr ?_
  have e123 := (e1.trans e2).trans e3
  obtain ⟨_, xs, ha, ra⟩ := w3.ce a _ (List.mem_append_right N hm)
  refine ⟨a, xs, rfl, SqL.of ha, fun p hp => ?_⟩
  have hn := w3.fresh hp
  exact q _ _ _ _ _ (e123.trans (ex_new hn)) ⟨rfl, rfl⟩ (w3.new hp _) (.lst upd_same ((cut_rpa ra).mono (ex_new hn)))
/-- xs.index(i), of an owned list of ints -/
theorem ev_indexC {a : Addr} {ns : List Int} {i : Int} {j : Nat} (hm : (a, MO.lst (ns.map .int)) ∈ M) (ho : Ev K to ρ M (.raw (.ref a))) (he : EvA K ta ρ M [.int i]) (hj : ns[j]? = some i) (h0 : ∀ m, m < j → ns[m]? ≠ some i) : Ev K (tBM K "list" (rIndex K) to ta) ρ M (.int j) := fun N F σ H S Q q =>
  ho N F σ H S _ fun v o M1 F1 H1 e1 ⟨hd, hm1⟩ w1 r1 => by
    subst hd hm1
    cases r1.raw_of
    obtain ⟨_, vs, hv, rv⟩ := w1.ce a _ (List.mem_append_right N hm)
    refine ⟨ty_list (F := F1) hv, he N F1 σ H1 ⟨w1, S.e.mono e1⟩ _ fun us ds M2 F2 H2 e2 ⟨hd2, hm2⟩ w2 r2 => ?_⟩
    subst hd2 hm2
    obtain ⟨u, rfl, ru⟩ := rpa1 r2
    cases ru.int_of
    obtain ⟨_, vs2, hv2, rv2⟩ := w2.ce a _ (List.mem_append_right N hm)
    have hx := rv2.ints_of
    subst hx
    refine ⟨a, _, _, j, .int i, rfl, rfl, SqL.of hv2, rfl, flat_ints, by rw [List.getElem?_map, hj]; rfl, beq_self_eq_true i, fun m z hm hz => ?_, q _ _ _ F2 H2 (e1.trans e2) ⟨rfl, rfl⟩ w2 (.int _)⟩
    rw [List.getElem?_map] at hz
    cases e : ns[m]? with
    | none => rw [e] at hz; cases hz
    | some y =>
      rw [e] at hz
      cases hz
      exact beq_false_of_ne fun z => h0 m hm (by rw [e, z])
end
/-- unlike numbers below n are n at most -/
theorem nodup_below : ∀ (n : Nat) (l : List Nat), l.Nodup → (∀ x ∈ l, x < n) → l.length ≤ n
  | 0, [], _, _ => Nat.le_refl _
  | 0, x :: l, _, h => absurd (h x List.mem_cons_self) (Nat.not_lt_zero _)
  | n + 1, l, nd, h => by
    have h1 : (l.erase n).Nodup := nd.erase n
    have h2 : ∀ x ∈ l.erase n, x < n := fun x hx => by
      have a := h x (List.mem_of_mem_erase hx)
      have b : x ≠ n := fun e => by
        subst e
        exact (List.Nodup.not_mem_erase nd) hx
      omega
    have := nodup_below n (l.erase n) h1 h2
    by_cases hm : n ∈ l
    · have := List.length_erase_of_mem hm
      omega
    · rw [List.erase_of_not_mem hm] at this
      omega
end DD

set_option Elab.async false
set_option linter.all false
set_option maxRecDepth 100000
set_option maxHeartbeats 4000000
namespace DD
open PySem PySem.Spec PyProof.Rows L2
/-! self.f = e by word; rows of ints told by a function -/
section
variable {K : PySem.W.Frag} {ρ : Rho} {M : Ms} {P : Post} {ta tv : TE} {d : DV}
def PutR (K : PySem.W.Frag) (f : Str) (d : DV) (o : DV) (M : Ms) (k : Ms → Prop) : Prop := ∃ (i : Nat) (a C : Addr) (fs : List (Str × DV)), o = .raw (.ref a) ∧ M[i]? = some (a, MO.ins C fs) ∧ Cls K C ∧ NoAttr K C f ∧ fs.length < 1000 ∧ k (M.set i (a, MO.ins C (putD f d fs)))
theorem w_putF {f : Str} (h : EvR K tv ρ M fun d M1 => EvR K ta ρ M1 fun o M2 => PutR K f d o M2 (P.nx ρ)) : XS K (sFld K ta tv f) ρ M P :=
  fun N F σ H D S e => h N F σ H S _ fun v d' M1 F1 H1 e1 h1 w1 r1 => h1 N F1 σ H1 ⟨w1, S.e.mono e1⟩ _ fun u o M2 F2 H2 e2 ⟨i, a, C, fs, ho, hi, c, n, hl, k⟩ w2 r2 => by
    subst ho
    cases r2.raw_of
    obtain ⟨_, dx, gs, hg, hf⟩ := w2.ce a _ (List.mem_append_right N (List.mem_of_getElem? hi))
    refine ⟨a, C, dx, gs, rfl, hg, c, n, by rw [hf.length]; exact hl, ?_⟩
    have hp : ∀ {gs : List (Str × V)} {fs : List (Str × DV)}, RpF K F2 gs fs → RpF K F2 (putF f v gs) (putD f d' fs) := by
      intro gs fs hf
      induction fs generalizing gs with
      | nil => cases hf; exact .cons (r1.mono e2) .nil
      | cons q fs ih =>
        cases hf with
        | cons hq ht =>
          unfold putF putD
          split
          · exact .cons (r1.mono e2) ht
          · exact .cons hq (ih ht)
    have w3 := w2.put (i := N.length + i) (by rw [List.getElem?_append_right (Nat.le_add_right _ _), Nat.add_sub_cancel_left]; exact hi) (mo' := .ins C (putD f d' fs)) (o := .ins C dx (putF f v gs)) ⟨dx, _, upd_same, hp hf⟩
    rw [List.set_append_right _ _ (Nat.le_add_right _ _), Nat.add_sub_cancel_left] at w3
    exact e.nx F2 _ _ _ _ (e1.trans e2) k ⟨w3, S.e.mono (e1.trans e2)⟩
theorem PutR.at {f : Str} {k : Ms → Prop} (i : Nat) {a C : Addr} {fs : List (Str × DV)} (hi : M[i]? = some (a, MO.ins C fs)) (c : Cls K C) (n : NoAttr K C f) (hl : fs.length < 1000) (h : k (M.set i (a, MO.ins C (putD f d fs)))) : PutR K f d (.raw (.ref a)) M k := ⟨i, a, C, fs, rfl, hi, c, n, hl, h⟩
end
/-- the first n values of f -/
abbrev rowI (f : Nat → Int) (n : Nat) : List Int := (List.range n).map f
theorem rowI_len {f : Nat → Int} {n : Nat} : (rowI f n).length = n := by rw [List.length_map, List.length_range]
theorem rowI_get {f : Nat → Int} {n x : Nat} (h : x < n) : (rowI f n)[x]? = some (f x) := by rw [List.getElem?_map, List.getElem?_range h]; rfl
theorem atI_rowI {f : Nat → Int} {n : Nat} {z : Int} (h0 : 0 ≤ z) (h1 : z < n) : atI ((rowI f n).map DV.int) z = some (.int (f z.toNat)) := by
  have e : ((rowI f n).map DV.int)[z.toNat]? = some (.int (f z.toNat)) := by rw [List.getElem?_map, rowI_get (by omega)]; rfl
  have := atI_nat e
  rw [show ((z.toNat : Nat) : Int) = z by omega] at this
  exact this
theorem atI_lastI {f : Nat → Int} {n : Nat} : atI ((rowI f (n + 1)).map DV.int) (-1) = some (.int (f n)) := by
  unfold atI ixN
  rw [List.length_map, rowI_len, if_neg (by omega), if_pos (by omega)]
  show ((rowI f (n + 1)).map DV.int)[(-1 + ((n + 1 : Nat) : Int)).toNat]? = _
  rw [show (-1 + ((n + 1 : Nat) : Int)).toNat = n by omega, List.getElem?_map, rowI_get (by omega)]; rfl
theorem cut_lastI {f : Nat → Int} {n : Nat} : cutL ((rowI f (n + 1)).map DV.int) none (some (-1)) = (rowI f n).map DV.int := by
  unfold cutL
  have e0 : HT.sIx ((rowI f (n + 1)).map DV.int).length 0 none = 0 := rfl
  have e1 : HT.sIx ((rowI f (n + 1)).map DV.int).length ((rowI f (n + 1)).map DV.int).length (some (-1)) = n := by
    rw [List.length_map, rowI_len]
    show (if (-1 : Int) < 0 then ((-1 : Int) + ((n + 1 : Nat) : Int)).toNat else min (-1 : Int).toNat (n + 1)) = n
    rw [if_pos (by decide)]
    omega
  rw [e0, e1, List.drop_zero, Nat.sub_zero, ← List.map_take]
  show List.map DV.int (List.take n ((List.range (n + 1)).map f)) = _
  rw [← List.map_take, List.take_range, Nat.min_eq_left (by omega)]
theorem rowI_snoc {f : Nat → Int} {n : Nat} : (rowI f n).map DV.int ++ [.int (f n)] = (rowI f (n + 1)).map DV.int := by
  show _ = List.map DV.int ((List.range (n + 1)).map f)
  rw [List.range_succ, List.map_append, List.map_append]; rfl
theorem rowI_mem {f : Nat → Int} {n : Nat} {v : Int} (h : v ∈ rowI f n) : ∃ x, x < n ∧ v = f x := by
  obtain ⟨x, hx, rfl⟩ := List.mem_map.mp h
  exact ⟨x, List.mem_range.mp hx, rfl⟩
theorem rowI_contains {f : Nat → Int} {n : Nat} {v : Int} : (rowI f n).contains v = true ↔ ∃ x, x < n ∧ f x = v := by
  rw [List.contains_iff_mem]
  refine ⟨fun h => let ⟨x, h1, h2⟩ := rowI_mem h; ⟨x, h1, h2.symm⟩, fun ⟨x, h1, h2⟩ => List.mem_map.mpr ⟨x, List.mem_range.mpr h1, h2⟩⟩
/-- the first one of which p holds -/
theorem least_ix {p : Nat → Prop} : ∀ n, (∃ f, f < n ∧ p f) → ∃ f, f < n ∧ p f ∧ ∀ m, m < f → ¬ p m
  | 0, ⟨_, h, _⟩ => absurd h (Nat.not_lt_zero _)
  | n + 1, ⟨f, h1, h2⟩ => by
    by_cases h : ∃ g, g < n ∧ p g
    · obtain ⟨g, a, b, c⟩ := least_ix n h
      exact ⟨g, by omega, b, c⟩
    · have : f = n := Classical.byContradiction fun e => h ⟨f, by omega, h2⟩
      subst this
      exact ⟨f, h1, h2, fun m hm hp => h ⟨m, hm, hp⟩⟩
end DD

set_option Elab.async false
set_option linter.all false
set_option maxRecDepth 100000
set_option maxHeartbeats 4000000
namespace My
open PySem PySem.Spec PyProof.Rows L2 DD
def topS (i : Nat) : Stmt := PySem.Challenge.pw_givenonce_k55_whole_certified_led.main.body.getD i (.Pass ⟨0, 0, 0, 0⟩)
abbrev s_is_between : Stmt := (topS 17)
theorem sc_is_between : FnScope ["value", "low", "high"] ["value", "low", "high"] (defScope s_is_between) := ⟨rfl, rfl, rfl, by decide +kernel, rfl, by decide +kernel, by decide +kernel⟩
abbrev s_is_entry : Stmt := (topS 18)
theorem sc_is_entry : FnScope ["value", "count"] ["value", "count"] (defScope s_is_entry) := ⟨rfl, rfl, rfl, by decide +kernel, rfl, by decide +kernel, by decide +kernel⟩
abbrev s_wrong_entry : Stmt := (topS 19)
theorem sc_wrong_entry : FnScope ["entries", "count", "index", "entry"] ["entries", "count"] (defScope s_wrong_entry) := ⟨rfl, rfl, rfl, by decide +kernel, rfl, by decide +kernel, by decide +kernel⟩
abbrev s_wrong_number : Stmt := (topS 20)
theorem sc_wrong_number : FnScope ["numbers", "high", "index", "number"] ["numbers", "high"] (defScope s_wrong_number) := ⟨rfl, rfl, rfl, by decide +kernel, rfl, by decide +kernel, by decide +kernel⟩
abbrev s_check_values : Stmt := (topS 29)
theorem sc_check_values : FnScope ["value", "index"] ["value"] (defScope s_check_values) := ⟨rfl, rfl, rfl, by decide +kernel, rfl, by decide +kernel, by decide +kernel⟩
abbrev s_value_at : Stmt := (topS 30)
theorem sc_value_at : FnScope ["told", "amount", "values", "period", "gain", "beyond", "rounds"] ["told", "amount"] (defScope s_value_at) := ⟨rfl, rfl, rfl, by decide +kernel, rfl, by decide +kernel, by decide +kernel⟩
abbrev s_Pattern_init : Stmt := (inClass (topS 31) 0)
theorem sc_Pattern_init : FnScope ["self", "values", "period", "gain"] ["self", "values", "period", "gain"] (defScope s_Pattern_init) := ⟨rfl, rfl, rfl, by decide +kernel, rfl, by decide +kernel, by decide +kernel⟩
abbrev s_Pattern_at : Stmt := (inClass (topS 31) 1)
theorem sc_Pattern_at : FnScope ["self", "amount"] ["self", "amount"] (defScope s_Pattern_at) := ⟨rfl, rfl, rfl, by decide +kernel, rfl, by decide +kernel, by decide +kernel⟩
abbrev s_check_pattern : Stmt := (topS 32)
theorem sc_check_pattern : FnScope ["value"] ["value"] (defScope s_check_pattern) := ⟨rfl, rfl, rfl, by decide +kernel, rfl, by decide +kernel, by decide +kernel⟩
abbrev s_fit_of : Stmt := (topS 33)
theorem sc_fit_of : FnScope ["row", "period", "gain", "size"] ["row", "period"] (defScope s_fit_of) := ⟨rfl, rfl, rfl, by decide +kernel, rfl, by decide +kernel, by decide +kernel⟩
abbrev s_plainest : Stmt := (topS 34)
theorem sc_plainest : FnScope ["row", "period", "fits", "shorter", "size", "gain"] ["row", "period"] (defScope s_plainest) := ⟨rfl, rfl, rfl, by decide +kernel, rfl, by decide +kernel, by decide +kernel⟩
abbrev s_plain_told : Stmt := (topS 35)
theorem sc_plain_told : FnScope ["told", "row", "amount"] ["told"] (defScope s_plain_told) := ⟨rfl, rfl, rfl, by decide +kernel, rfl, by decide +kernel, by decide +kernel⟩
abbrev s_fall_of : Stmt := (topS 38)
theorem sc_fall_of : FnScope ["pattern", "amount"] ["pattern"] (defScope s_fall_of) := ⟨rfl, rfl, rfl, by decide +kernel, rfl, by decide +kernel, by decide +kernel⟩
abbrev s_Walker_init : Stmt := (inClass (topS 54) 0)
theorem sc_Walker_init : FnScope ["self", "count", "begin", "table", "index"] ["self", "count", "begin", "table"] (defScope s_Walker_init) := ⟨rfl, rfl, rfl, by decide +kernel, rfl, by decide +kernel, by decide +kernel⟩
abbrev s_walked : Stmt := (topS 55)
theorem sc_walked : FnScope ["walker", "states", "values", "state", "gift", "first"] ["walker"] (defScope s_walked) := ⟨rfl, rfl, rfl, by decide +kernel, rfl, by decide +kernel, by decide +kernel⟩
abbrev s_walker_of : Stmt := (topS 56)
theorem sc_walker_of : FnScope ["pattern", "values", "period", "gain", "table", "amount", "after"] ["pattern"] (defScope s_walker_of) := ⟨rfl, rfl, rfl, by decide +kernel, rfl, by decide +kernel, by decide +kernel⟩
abbrev s_certify_led : Stmt := (topS 58)
theorem sc_certify_led : FnScope ["pattern", "amount"] ["pattern"] (defScope s_certify_led) := ⟨rfl, rfl, rfl, by decide +kernel, rfl, by decide +kernel, by decide +kernel⟩
abbrev s_is_triple : Stmt := (topS 60)
theorem sc_is_triple : FnScope ["value"] ["value"] (defScope s_is_triple) := ⟨rfl, rfl, rfl, by decide +kernel, rfl, by decide +kernel, by decide +kernel⟩
abbrev s_pattern_from : Stmt := (topS 62)
theorem sc_pattern_from : FnScope ["value", "found"] ["value"] (defScope s_pattern_from) := ⟨rfl, rfl, rfl, by decide +kernel, rfl, by decide +kernel, by decide +kernel⟩
abbrev s_walker_from : Stmt := (topS 63)
theorem sc_walker_from : FnScope ["value", "found"] ["value"] (defScope s_walker_from) := ⟨rfl, rfl, rfl, by decide +kernel, rfl, by decide +kernel, by decide +kernel⟩
abbrev s_shows_led : Stmt := (topS 76)
theorem sc_shows_led : FnScope ["pattern", "paper", "walker"] ["pattern", "paper"] (defScope s_shows_led) := ⟨rfl, rfl, rfl, by decide +kernel, rfl, by decide +kernel, by decide +kernel⟩
abbrev s_shows_falls : Stmt := (topS 77)
theorem sc_shows_falls : FnScope ["pattern", "paper"] ["pattern", "paper"] (defScope s_shows_falls) := ⟨rfl, rfl, rfl, by decide +kernel, rfl, by decide +kernel, by decide +kernel⟩
abbrev s_holds_of_pattern : Stmt := (topS 80)
theorem sc_holds_of_pattern : FnScope ["claim", "paper", "pattern"] ["claim", "paper"] (defScope s_holds_of_pattern) := ⟨rfl, rfl, rfl, by decide +kernel, rfl, by decide +kernel, by decide +kernel⟩
abbrev s_holds : Stmt := (topS 81)
theorem sc_holds : FnScope ["claim", "paper"] ["claim", "paper"] (defScope s_holds) := ⟨rfl, rfl, rfl, by decide +kernel, rfl, by decide +kernel, by decide +kernel⟩
abbrev s__law_jug : Stmt := (topS 83)
theorem sc__law_jug : FnScope ["script", "k", "own", "mixed", "entry"] ["script", "k"] (defScope s__law_jug) := ⟨rfl, rfl, rfl, by decide +kernel, rfl, by decide +kernel, by decide +kernel⟩
abbrev s__law_pour : Stmt := (topS 84)
theorem sc__law_pour : FnScope ["jug", "many", "digit"] ["jug", "many"] (defScope s__law_pour) := ⟨rfl, rfl, rfl, by decide +kernel, rfl, by decide +kernel, by decide +kernel⟩
abbrev s__law_one : Stmt := (topS 85)
theorem sc__law_one : FnScope ["jug", "things"] ["jug", "things"] (defScope s__law_one) := ⟨rfl, rfl, rfl, by decide +kernel, rfl, by decide +kernel, by decide +kernel⟩
abbrev s__law_least_gain : Stmt := (topS 86)
theorem sc__law_least_gain : FnScope ["firsts", "period", "found", "x", "y", "rounds"] ["firsts", "period"] (defScope s__law_least_gain) := ⟨rfl, rfl, rfl, by decide +kernel, rfl, by decide +kernel, by decide +kernel⟩
abbrev s__law_form : Stmt := (topS 87)
theorem sc__law_form : FnScope ["jug", "most", "n", "way", "period", "top", "k", "firsts", "step", "least", "a"] ["jug", "most"] (defScope s__law_form) := ⟨rfl, rfl, rfl, by decide +kernel, rfl, by decide +kernel, by decide +kernel⟩
abbrev s__law_at : Stmt := (topS 88)
theorem sc__law_at : FnScope ["form", "x", "values", "period", "gain", "rounds"] ["form", "x"] (defScope s__law_at) := ⟨rfl, rfl, rfl, by decide +kernel, rfl, by decide +kernel, by decide +kernel⟩
abbrev s__law_walk_sums : Stmt := (topS 89)
theorem sc__law_walk_sums : FnScope ["table_here", "begin", "size", "found", "state", "k", "gift"] ["table_here", "begin", "size"] (defScope s__law_walk_sums) := ⟨rfl, rfl, rfl, by decide +kernel, rfl, by decide +kernel, by decide +kernel⟩
abbrev s__law_is_whole : Stmt := (topS 90)
theorem sc__law_is_whole : FnScope ["thing", "low", "high"] ["thing", "low", "high"] (defScope s__law_is_whole) := ⟨rfl, rfl, rfl, by decide +kernel, rfl, by decide +kernel, by decide +kernel⟩
abbrev s__law_is_entry : Stmt := (topS 91)
theorem sc__law_is_entry : FnScope ["thing", "n"] ["thing", "n"] (defScope s__law_is_entry) := ⟨rfl, rfl, rfl, by decide +kernel, rfl, by decide +kernel, by decide +kernel⟩
abbrev s__law_are_entries : Stmt := (topS 92)
theorem sc__law_are_entries : FnScope ["thing", "n", "least", "most", "each"] ["thing", "n", "least", "most"] (defScope s__law_are_entries) := ⟨rfl, rfl, rfl, by decide +kernel, rfl, by decide +kernel, by decide +kernel⟩
abbrev s__law_is_walk : Stmt := (topS 93)
theorem sc__law_is_walk : FnScope ["thing"] ["thing"] (defScope s__law_is_walk) := ⟨rfl, rfl, rfl, by decide +kernel, rfl, by decide +kernel, by decide +kernel⟩
abbrev s__law_led_shown : Stmt := (topS 94)
theorem sc__law_led_shown : FnScope ["form", "thing", "x"] ["form", "thing"] (defScope s__law_led_shown) := ⟨rfl, rfl, rfl, by decide +kernel, rfl, by decide +kernel, by decide +kernel⟩
abbrev s__law_falls_shown : Stmt := (topS 95)
theorem sc__law_falls_shown : FnScope ["form", "thing"] ["form", "thing"] (defScope s__law_falls_shown) := ⟨rfl, rfl, rfl, by decide +kernel, rfl, by decide +kernel, by decide +kernel⟩
abbrev s__law_scaled : Stmt := (topS 96)
theorem sc__law_scaled : FnScope ["form", "factor", "each"] ["form"] (defScope s__law_scaled) := ⟨rfl, rfl, rfl, by decide +kernel, rfl, by decide +kernel, by decide +kernel⟩
abbrev s__law_pair_told : Stmt := (topS 97)
theorem sc__law_pair_told : FnScope ["thing"] ["thing"] (defScope s__law_pair_told) := ⟨rfl, rfl, rfl, by decide +kernel, rfl, by decide +kernel, by decide +kernel⟩
abbrev s__law_formed : Stmt := (topS 98)
theorem sc__law_formed : FnScope ["form"] ["form"] (defScope s__law_formed) := ⟨rfl, rfl, rfl, by decide +kernel, rfl, by decide +kernel, by decide +kernel⟩
abbrev s__law_fallen : Stmt := (topS 99)
theorem sc__law_fallen : FnScope ["form", "down", "x"] ["form"] (defScope s__law_fallen) := ⟨rfl, rfl, rfl, by decide +kernel, rfl, by decide +kernel, by decide +kernel⟩
abbrev s__law_right : Stmt := (topS 100)
theorem sc__law_right : FnScope ["jug", "again", "form", "made", "is_falling", "found"] ["jug"] (defScope s__law_right) := ⟨rfl, rfl, rfl, by decide +kernel, rfl, by decide +kernel, by decide +kernel⟩
abbrev s_law : Stmt := (topS 101)
theorem sc_law : FnScope ["script", "k"] ["script"] (defScope s_law) := ⟨rfl, rfl, rfl, by decide +kernel, rfl, by decide +kernel, by decide +kernel⟩
/-- where the defs and classes stand -/
structure Ad where
  f_is_between : Addr
  d_is_between : FuncData
  f_is_entry : Addr
  d_is_entry : FuncData
  f_wrong_entry : Addr
  d_wrong_entry : FuncData
  f_wrong_number : Addr
  d_wrong_number : FuncData
  f_check_values : Addr
  d_check_values : FuncData
  f_value_at : Addr
  d_value_at : FuncData
  f_Pattern_init : Addr
  d_Pattern_init : FuncData
  f_Pattern_at : Addr
  d_Pattern_at : FuncData
  f_check_pattern : Addr
  d_check_pattern : FuncData
  f_fit_of : Addr
  d_fit_of : FuncData
  f_plainest : Addr
  d_plainest : FuncData
  f_plain_told : Addr
  d_plain_told : FuncData
  f_fall_of : Addr
  d_fall_of : FuncData
  f_Walker_init : Addr
  d_Walker_init : FuncData
  f_walked : Addr
  d_walked : FuncData
  f_walker_of : Addr
  d_walker_of : FuncData
  f_certify_led : Addr
  d_certify_led : FuncData
  f_is_triple : Addr
  d_is_triple : FuncData
  f_pattern_from : Addr
  d_pattern_from : FuncData
  f_walker_from : Addr
  d_walker_from : FuncData
  f_shows_led : Addr
  d_shows_led : FuncData
  f_shows_falls : Addr
  d_shows_falls : FuncData
  f_holds_of_pattern : Addr
  d_holds_of_pattern : FuncData
  f_holds : Addr
  d_holds : FuncData
  f__law_jug : Addr
  d__law_jug : FuncData
  f__law_pour : Addr
  d__law_pour : FuncData
  f__law_one : Addr
  d__law_one : FuncData
  f__law_least_gain : Addr
  d__law_least_gain : FuncData
  f__law_form : Addr
  d__law_form : FuncData
  f__law_at : Addr
  d__law_at : FuncData
  f__law_walk_sums : Addr
  d__law_walk_sums : FuncData
  f__law_is_whole : Addr
  d__law_is_whole : FuncData
  f__law_is_entry : Addr
  d__law_is_entry : FuncData
  f__law_are_entries : Addr
  d__law_are_entries : FuncData
  f__law_is_walk : Addr
  d__law_is_walk : FuncData
  f__law_led_shown : Addr
  d__law_led_shown : FuncData
  f__law_falls_shown : Addr
  d__law_falls_shown : FuncData
  f__law_scaled : Addr
  d__law_scaled : FuncData
  f__law_pair_told : Addr
  d__law_pair_told : FuncData
  f__law_formed : Addr
  d__law_formed : FuncData
  f__law_fallen : Addr
  d__law_fallen : FuncData
  f__law_right : Addr
  d__law_right : FuncData
  f_law : Addr
  d_law : FuncData
  C_Pattern : Addr
  C_Walker : Addr
/-- what the top has left -/
structure Tx (K : PySem.W.Frag) (mg : Str → Option Value) (A : Ad) : Prop where
  F_is_between : Fun K "is_between" "is_between" s_is_between A.f_is_between A.d_is_between
  g_is_between : mg "is_between" = some (.ref A.f_is_between)
  F_is_entry : Fun K "is_entry" "is_entry" s_is_entry A.f_is_entry A.d_is_entry
  g_is_entry : mg "is_entry" = some (.ref A.f_is_entry)
  F_wrong_entry : Fun K "wrong_entry" "wrong_entry" s_wrong_entry A.f_wrong_entry A.d_wrong_entry
  g_wrong_entry : mg "wrong_entry" = some (.ref A.f_wrong_entry)
  F_wrong_number : Fun K "wrong_number" "wrong_number" s_wrong_number A.f_wrong_number A.d_wrong_number
  g_wrong_number : mg "wrong_number" = some (.ref A.f_wrong_number)
  F_check_values : Fun K "check_values" "check_values" s_check_values A.f_check_values A.d_check_values
  g_check_values : mg "check_values" = some (.ref A.f_check_values)
  F_value_at : Fun K "value_at" "value_at" s_value_at A.f_value_at A.d_value_at
  g_value_at : mg "value_at" = some (.ref A.f_value_at)
  F_Pattern_init : Fun K "__init__" "Pattern.__init__" s_Pattern_init A.f_Pattern_init A.d_Pattern_init
  mk_Pattern : Mk K A.C_Pattern A.f_Pattern_init
  F_Pattern_at : Fun K "at" "Pattern.at" s_Pattern_at A.f_Pattern_at A.d_Pattern_at
  m_Pattern_at : Meth K A.C_Pattern "at" A.f_Pattern_at
  F_check_pattern : Fun K "check_pattern" "check_pattern" s_check_pattern A.f_check_pattern A.d_check_pattern
  g_check_pattern : mg "check_pattern" = some (.ref A.f_check_pattern)
  F_fit_of : Fun K "fit_of" "fit_of" s_fit_of A.f_fit_of A.d_fit_of
  g_fit_of : mg "fit_of" = some (.ref A.f_fit_of)
  F_plainest : Fun K "plainest" "plainest" s_plainest A.f_plainest A.d_plainest
  g_plainest : mg "plainest" = some (.ref A.f_plainest)
  F_plain_told : Fun K "plain_told" "plain_told" s_plain_told A.f_plain_told A.d_plain_told
  g_plain_told : mg "plain_told" = some (.ref A.f_plain_told)
  F_fall_of : Fun K "fall_of" "fall_of" s_fall_of A.f_fall_of A.d_fall_of
  g_fall_of : mg "fall_of" = some (.ref A.f_fall_of)
  F_Walker_init : Fun K "__init__" "Walker.__init__" s_Walker_init A.f_Walker_init A.d_Walker_init
  mk_Walker : Mk K A.C_Walker A.f_Walker_init
  F_walked : Fun K "walked" "walked" s_walked A.f_walked A.d_walked
  g_walked : mg "walked" = some (.ref A.f_walked)
  F_walker_of : Fun K "walker_of" "walker_of" s_walker_of A.f_walker_of A.d_walker_of
  g_walker_of : mg "walker_of" = some (.ref A.f_walker_of)
  F_certify_led : Fun K "certify_led" "certify_led" s_certify_led A.f_certify_led A.d_certify_led
  g_certify_led : mg "certify_led" = some (.ref A.f_certify_led)
  F_is_triple : Fun K "is_triple" "is_triple" s_is_triple A.f_is_triple A.d_is_triple
  g_is_triple : mg "is_triple" = some (.ref A.f_is_triple)
  F_pattern_from : Fun K "pattern_from" "pattern_from" s_pattern_from A.f_pattern_from A.d_pattern_from
  g_pattern_from : mg "pattern_from" = some (.ref A.f_pattern_from)
  F_walker_from : Fun K "walker_from" "walker_from" s_walker_from A.f_walker_from A.d_walker_from
  g_walker_from : mg "walker_from" = some (.ref A.f_walker_from)
  F_shows_led : Fun K "shows_led" "shows_led" s_shows_led A.f_shows_led A.d_shows_led
  g_shows_led : mg "shows_led" = some (.ref A.f_shows_led)
  F_shows_falls : Fun K "shows_falls" "shows_falls" s_shows_falls A.f_shows_falls A.d_shows_falls
  g_shows_falls : mg "shows_falls" = some (.ref A.f_shows_falls)
  F_holds_of_pattern : Fun K "holds_of_pattern" "holds_of_pattern" s_holds_of_pattern A.f_holds_of_pattern A.d_holds_of_pattern
  g_holds_of_pattern : mg "holds_of_pattern" = some (.ref A.f_holds_of_pattern)
  F_holds : Fun K "holds" "holds" s_holds A.f_holds A.d_holds
  g_holds : mg "holds" = some (.ref A.f_holds)
  F__law_jug : Fun K "_law_jug" "_law_jug" s__law_jug A.f__law_jug A.d__law_jug
  g__law_jug : mg "_law_jug" = some (.ref A.f__law_jug)
  F__law_pour : Fun K "_law_pour" "_law_pour" s__law_pour A.f__law_pour A.d__law_pour
  g__law_pour : mg "_law_pour" = some (.ref A.f__law_pour)
  F__law_one : Fun K "_law_one" "_law_one" s__law_one A.f__law_one A.d__law_one
  g__law_one : mg "_law_one" = some (.ref A.f__law_one)
  F__law_least_gain : Fun K "_law_least_gain" "_law_least_gain" s__law_least_gain A.f__law_least_gain A.d__law_least_gain
  g__law_least_gain : mg "_law_least_gain" = some (.ref A.f__law_least_gain)
  F__law_form : Fun K "_law_form" "_law_form" s__law_form A.f__law_form A.d__law_form
  g__law_form : mg "_law_form" = some (.ref A.f__law_form)
  F__law_at : Fun K "_law_at" "_law_at" s__law_at A.f__law_at A.d__law_at
  g__law_at : mg "_law_at" = some (.ref A.f__law_at)
  F__law_walk_sums : Fun K "_law_walk_sums" "_law_walk_sums" s__law_walk_sums A.f__law_walk_sums A.d__law_walk_sums
  g__law_walk_sums : mg "_law_walk_sums" = some (.ref A.f__law_walk_sums)
  F__law_is_whole : Fun K "_law_is_whole" "_law_is_whole" s__law_is_whole A.f__law_is_whole A.d__law_is_whole
  g__law_is_whole : mg "_law_is_whole" = some (.ref A.f__law_is_whole)
  F__law_is_entry : Fun K "_law_is_entry" "_law_is_entry" s__law_is_entry A.f__law_is_entry A.d__law_is_entry
  g__law_is_entry : mg "_law_is_entry" = some (.ref A.f__law_is_entry)
  F__law_are_entries : Fun K "_law_are_entries" "_law_are_entries" s__law_are_entries A.f__law_are_entries A.d__law_are_entries
  g__law_are_entries : mg "_law_are_entries" = some (.ref A.f__law_are_entries)
  F__law_is_walk : Fun K "_law_is_walk" "_law_is_walk" s__law_is_walk A.f__law_is_walk A.d__law_is_walk
  g__law_is_walk : mg "_law_is_walk" = some (.ref A.f__law_is_walk)
  F__law_led_shown : Fun K "_law_led_shown" "_law_led_shown" s__law_led_shown A.f__law_led_shown A.d__law_led_shown
  g__law_led_shown : mg "_law_led_shown" = some (.ref A.f__law_led_shown)
  F__law_falls_shown : Fun K "_law_falls_shown" "_law_falls_shown" s__law_falls_shown A.f__law_falls_shown A.d__law_falls_shown
  g__law_falls_shown : mg "_law_falls_shown" = some (.ref A.f__law_falls_shown)
  F__law_scaled : Fun K "_law_scaled" "_law_scaled" s__law_scaled A.f__law_scaled A.d__law_scaled
  g__law_scaled : mg "_law_scaled" = some (.ref A.f__law_scaled)
  F__law_pair_told : Fun K "_law_pair_told" "_law_pair_told" s__law_pair_told A.f__law_pair_told A.d__law_pair_told
  g__law_pair_told : mg "_law_pair_told" = some (.ref A.f__law_pair_told)
  F__law_formed : Fun K "_law_formed" "_law_formed" s__law_formed A.f__law_formed A.d__law_formed
  g__law_formed : mg "_law_formed" = some (.ref A.f__law_formed)
  F__law_fallen : Fun K "_law_fallen" "_law_fallen" s__law_fallen A.f__law_fallen A.d__law_fallen
  g__law_fallen : mg "_law_fallen" = some (.ref A.f__law_fallen)
  F__law_right : Fun K "_law_right" "_law_right" s__law_right A.f__law_right A.d__law_right
  g__law_right : mg "_law_right" = some (.ref A.f__law_right)
  F_law : Fun K "law" "law" s_law A.f_law A.d_law
  g_law : mg "law" = some (.ref A.f_law)
  g_Pattern : mg "Pattern" = some (.ref A.C_Pattern)
  cl_Pattern : Cls K A.C_Pattern
  na_Pattern_firsts : NoAttr K A.C_Pattern "firsts"
  na_Pattern_period : NoAttr K A.C_Pattern "period"
  na_Pattern_gain : NoAttr K A.C_Pattern "gain"
  na_Pattern_told : NoAttr K A.C_Pattern "told"
  ty_Pattern : PySem.W.findIn K (.ref A.C_Pattern) "__class__" = some (some (.builtin "object.__class__")) ∧ PySem.W.specialIn K (.builtin "object.__class__") "__get__" = some (some (.builtin "getset_descriptor.__get__")) ∧ PySem.W.takesIn K (.builtin "object.__class__") = some true ∧ PySem.W.mroIn K A.C_Pattern (.type "object") = some true ∧ PySem.W.kitOne K (.ref A.C_Pattern) (.ref A.C_Pattern) = some true
  g_Walker : mg "Walker" = some (.ref A.C_Walker)
  cl_Walker : Cls K A.C_Walker
  na_Walker_count : NoAttr K A.C_Walker "count"
  na_Walker_begin : NoAttr K A.C_Walker "begin"
  na_Walker_table : NoAttr K A.C_Walker "table"
  na_Walker_told : NoAttr K A.C_Walker "told"
  ty_Walker : PySem.W.findIn K (.ref A.C_Walker) "__class__" = some (some (.builtin "object.__class__")) ∧ PySem.W.specialIn K (.builtin "object.__class__") "__get__" = some (some (.builtin "getset_descriptor.__get__")) ∧ PySem.W.takesIn K (.builtin "object.__class__") = some true ∧ PySem.W.mroIn K A.C_Walker (.type "object") = some true ∧ PySem.W.kitOne K (.ref A.C_Walker) (.ref A.C_Walker) = some true
  c_MOST_VALUES : ∃ t : Tok, mg "MOST_VALUES" = some (.int 24 t)
  c_MOST_GIFT : ∃ t : Tok, mg "MOST_GIFT" = some (.int 1000000 t)
  c_MOST_SUMMED : ∃ t : Tok, mg "MOST_SUMMED" = some (.int 1000000 t)
  c_MOST_AMOUNT : ∃ t : Tok, mg "MOST_AMOUNT" = some (.int 1000000000000 t)
  n_abs : mg "abs" = none
  n_all : mg "all" = none
  n_bool : mg "bool" = none
  n_divmod : mg "divmod" = none
  n_enumerate : mg "enumerate" = none
  n_int : mg "int" = none
  n_isinstance : mg "isinstance" = none
  n_len : mg "len" = none
  n_list : mg "list" = none
  n_max : mg "max" = none
  n_min : mg "min" = none
  n_range : mg "range" = none
  n_str : mg "str" = none
  n_tuple : mg "tuple" = none
section
variable {P : Program} {w : World} {K : PySem.W.Frag} {mg : Str → Option Value} {base : Heap} {A : Ad}
theorem b_is_between (T : Tx K mg A) : Binds K A.d_is_between ["value", "low", "high"] [] := T.F_is_between.binds (ps := ["value", "low", "high"]) fun _ _ _ _ _ _ us hl => match us, hl with | [_, _, _], _ => rfl
theorem b_is_entry (T : Tx K mg A) : Binds K A.d_is_entry ["value", "count"] [] := T.F_is_entry.binds (ps := ["value", "count"]) fun _ _ _ _ _ _ us hl => match us, hl with | [_, _], _ => rfl
theorem b_wrong_entry (T : Tx K mg A) : Binds K A.d_wrong_entry ["entries", "count"] [] := T.F_wrong_entry.binds (ps := ["entries", "count"]) fun _ _ _ _ _ _ us hl => match us, hl with | [_, _], _ => rfl
theorem b_wrong_number (T : Tx K mg A) : Binds K A.d_wrong_number ["numbers", "high"] [] := T.F_wrong_number.binds (ps := ["numbers", "high"]) fun _ _ _ _ _ _ us hl => match us, hl with | [_, _], _ => rfl
theorem b_check_values (T : Tx K mg A) : Binds K A.d_check_values ["value"] [] := T.F_check_values.binds (ps := ["value"]) fun _ _ _ _ _ _ us hl => match us, hl with | [_], _ => rfl
theorem b_value_at (T : Tx K mg A) : Binds K A.d_value_at ["told", "amount"] [] := T.F_value_at.binds (ps := ["told", "amount"]) fun _ _ _ _ _ _ us hl => match us, hl with | [_, _], _ => rfl
theorem b_Pattern_init (T : Tx K mg A) : Binds K A.d_Pattern_init ["self", "values", "period", "gain"] [] := T.F_Pattern_init.binds (ps := ["self", "values", "period", "gain"]) fun _ _ _ _ _ _ us hl => match us, hl with | [_, _, _, _], _ => rfl
theorem b_Pattern_at (T : Tx K mg A) : Binds K A.d_Pattern_at ["self", "amount"] [] := T.F_Pattern_at.binds (ps := ["self", "amount"]) fun _ _ _ _ _ _ us hl => match us, hl with | [_, _], _ => rfl
theorem b_check_pattern (T : Tx K mg A) : Binds K A.d_check_pattern ["value"] [] := T.F_check_pattern.binds (ps := ["value"]) fun _ _ _ _ _ _ us hl => match us, hl with | [_], _ => rfl
theorem b_fit_of (T : Tx K mg A) : Binds K A.d_fit_of ["row", "period"] [] := T.F_fit_of.binds (ps := ["row", "period"]) fun _ _ _ _ _ _ us hl => match us, hl with | [_, _], _ => rfl
theorem b_plainest (T : Tx K mg A) : Binds K A.d_plainest ["row", "period"] [] := T.F_plainest.binds (ps := ["row", "period"]) fun _ _ _ _ _ _ us hl => match us, hl with | [_, _], _ => rfl
theorem b_plain_told (T : Tx K mg A) : Binds K A.d_plain_told ["told"] [] := T.F_plain_told.binds (ps := ["told"]) fun _ _ _ _ _ _ us hl => match us, hl with | [_], _ => rfl
theorem b_fall_of (T : Tx K mg A) : Binds K A.d_fall_of ["pattern"] [] := T.F_fall_of.binds (ps := ["pattern"]) fun _ _ _ _ _ _ us hl => match us, hl with | [_], _ => rfl
theorem b_Walker_init (T : Tx K mg A) : Binds K A.d_Walker_init ["self", "count", "begin", "table"] [] := T.F_Walker_init.binds (ps := ["self", "count", "begin", "table"]) fun _ _ _ _ _ _ us hl => match us, hl with | [_, _, _, _], _ => rfl
theorem b_walked (T : Tx K mg A) : Binds K A.d_walked ["walker"] [] := T.F_walked.binds (ps := ["walker"]) fun _ _ _ _ _ _ us hl => match us, hl with | [_], _ => rfl
theorem b_walker_of (T : Tx K mg A) : Binds K A.d_walker_of ["pattern"] [] := T.F_walker_of.binds (ps := ["pattern"]) fun _ _ _ _ _ _ us hl => match us, hl with | [_], _ => rfl
theorem b_certify_led (T : Tx K mg A) : Binds K A.d_certify_led ["pattern"] [] := T.F_certify_led.binds (ps := ["pattern"]) fun _ _ _ _ _ _ us hl => match us, hl with | [_], _ => rfl
theorem b_is_triple (T : Tx K mg A) : Binds K A.d_is_triple ["value"] [] := T.F_is_triple.binds (ps := ["value"]) fun _ _ _ _ _ _ us hl => match us, hl with | [_], _ => rfl
theorem b_pattern_from (T : Tx K mg A) : Binds K A.d_pattern_from ["value"] [] := T.F_pattern_from.binds (ps := ["value"]) fun _ _ _ _ _ _ us hl => match us, hl with | [_], _ => rfl
theorem b_walker_from (T : Tx K mg A) : Binds K A.d_walker_from ["value"] [] := T.F_walker_from.binds (ps := ["value"]) fun _ _ _ _ _ _ us hl => match us, hl with | [_], _ => rfl
theorem b_shows_led (T : Tx K mg A) : Binds K A.d_shows_led ["pattern", "paper"] [] := T.F_shows_led.binds (ps := ["pattern", "paper"]) fun _ _ _ _ _ _ us hl => match us, hl with | [_, _], _ => rfl
theorem b_shows_falls (T : Tx K mg A) : Binds K A.d_shows_falls ["pattern", "paper"] [] := T.F_shows_falls.binds (ps := ["pattern", "paper"]) fun _ _ _ _ _ _ us hl => match us, hl with | [_, _], _ => rfl
theorem b_holds_of_pattern (T : Tx K mg A) : Binds K A.d_holds_of_pattern ["claim", "paper"] [] := T.F_holds_of_pattern.binds (ps := ["claim", "paper"]) fun _ _ _ _ _ _ us hl => match us, hl with | [_, _], _ => rfl
theorem b_holds (T : Tx K mg A) : Binds K A.d_holds ["claim", "paper"] [] := T.F_holds.binds (ps := ["claim", "paper"]) fun _ _ _ _ _ _ us hl => match us, hl with | [_, _], _ => rfl
theorem b__law_jug (T : Tx K mg A) : Binds K A.d__law_jug ["script", "k"] [] := T.F__law_jug.binds (ps := ["script", "k"]) fun _ _ _ _ _ _ us hl => match us, hl with | [_, _], _ => rfl
theorem b__law_pour (T : Tx K mg A) : Binds K A.d__law_pour ["jug", "many"] [] := T.F__law_pour.binds (ps := ["jug", "many"]) fun _ _ _ _ _ _ us hl => match us, hl with | [_, _], _ => rfl
theorem b__law_one (T : Tx K mg A) : Binds K A.d__law_one ["jug", "things"] [] := T.F__law_one.binds (ps := ["jug", "things"]) fun _ _ _ _ _ _ us hl => match us, hl with | [_, _], _ => rfl
theorem b__law_least_gain (T : Tx K mg A) : Binds K A.d__law_least_gain ["firsts", "period"] [] := T.F__law_least_gain.binds (ps := ["firsts", "period"]) fun _ _ _ _ _ _ us hl => match us, hl with | [_, _], _ => rfl
theorem b__law_form (T : Tx K mg A) : Binds K A.d__law_form ["jug", "most"] [] := T.F__law_form.binds (ps := ["jug", "most"]) fun _ _ _ _ _ _ us hl => match us, hl with | [_, _], _ => rfl
theorem b__law_at (T : Tx K mg A) : Binds K A.d__law_at ["form", "x"] [] := T.F__law_at.binds (ps := ["form", "x"]) fun _ _ _ _ _ _ us hl => match us, hl with | [_, _], _ => rfl
theorem b__law_walk_sums (T : Tx K mg A) : Binds K A.d__law_walk_sums ["table_here", "begin", "size"] [] := T.F__law_walk_sums.binds (ps := ["table_here", "begin", "size"]) fun _ _ _ _ _ _ us hl => match us, hl with | [_, _, _], _ => rfl
theorem b__law_is_whole (T : Tx K mg A) : Binds K A.d__law_is_whole ["thing", "low", "high"] [] := T.F__law_is_whole.binds (ps := ["thing", "low", "high"]) fun _ _ _ _ _ _ us hl => match us, hl with | [_, _, _], _ => rfl
theorem b__law_is_entry (T : Tx K mg A) : Binds K A.d__law_is_entry ["thing", "n"] [] := T.F__law_is_entry.binds (ps := ["thing", "n"]) fun _ _ _ _ _ _ us hl => match us, hl with | [_, _], _ => rfl
theorem b__law_are_entries (T : Tx K mg A) : Binds K A.d__law_are_entries ["thing", "n", "least", "most"] [] := T.F__law_are_entries.binds (ps := ["thing", "n", "least", "most"]) fun _ _ _ _ _ _ us hl => match us, hl with | [_, _, _, _], _ => rfl
theorem b__law_is_walk (T : Tx K mg A) : Binds K A.d__law_is_walk ["thing"] [] := T.F__law_is_walk.binds (ps := ["thing"]) fun _ _ _ _ _ _ us hl => match us, hl with | [_], _ => rfl
theorem b__law_led_shown (T : Tx K mg A) : Binds K A.d__law_led_shown ["form", "thing"] [] := T.F__law_led_shown.binds (ps := ["form", "thing"]) fun _ _ _ _ _ _ us hl => match us, hl with | [_, _], _ => rfl
theorem b__law_falls_shown (T : Tx K mg A) : Binds K A.d__law_falls_shown ["form", "thing"] [] := T.F__law_falls_shown.binds (ps := ["form", "thing"]) fun _ _ _ _ _ _ us hl => match us, hl with | [_, _], _ => rfl
theorem b__law_scaled (T : Tx K mg A) : Binds K A.d__law_scaled ["form"] [] := T.F__law_scaled.binds (ps := ["form"]) fun _ _ _ _ _ _ us hl => match us, hl with | [_], _ => rfl
theorem b__law_pair_told (T : Tx K mg A) : Binds K A.d__law_pair_told ["thing"] [] := T.F__law_pair_told.binds (ps := ["thing"]) fun _ _ _ _ _ _ us hl => match us, hl with | [_], _ => rfl
theorem b__law_formed (T : Tx K mg A) : Binds K A.d__law_formed ["form"] [] := T.F__law_formed.binds (ps := ["form"]) fun _ _ _ _ _ _ us hl => match us, hl with | [_], _ => rfl
theorem b__law_fallen (T : Tx K mg A) : Binds K A.d__law_fallen ["form"] [] := T.F__law_fallen.binds (ps := ["form"]) fun _ _ _ _ _ _ us hl => match us, hl with | [_], _ => rfl
theorem b__law_right (T : Tx K mg A) : Binds K A.d__law_right ["jug"] [] := T.F__law_right.binds (ps := ["jug"]) fun _ _ _ _ _ _ us hl => match us, hl with | [_], _ => rfl
theorem b_law (T : Tx K mg A) : Binds K A.d_law ["script"] [] := T.F_law.binds (ps := ["script"]) fun _ _ _ _ _ _ us hl => match us, hl with | [_], _ => rfl
end
section
variable {P : Program} {w : World} {K : PySem.W.Frag} {mg : Str → Option Value} {base : Heap} {A : Ad}
/-! ### short ways for readings -/
local macro_rules | `(tactic| walk_at "lk") => `(tactic| first | rfl | assumption)
local macro_rules | `(tactic| walk_at "ln") => `(tactic| first | (simp; done) | (simp only [List.length_cons, List.length_nil, List.length_append, List.length_map, List.length_range, List.length_replicate]; omega) | assumption)
local macro_rules | `(tactic| walk_at "rv") => `(tactic| first
  | exact rv_add | exact rv_I0 | exact rv_B0 | exact rv_eqI | exact rv_neI | exact rv_isN | exact rv_notN
  | exact rv_ixT (by walk_at "lk") | exact rv_ixL (by walk_at "lk") | exact rv_ixC (by assumption) (by walk_at "lk") | exact rv_ixR (by walk_at "lk")
  | exact rv_mul (.inr (by decide)) | exact rv_mul (.inl (by decide)) | exact rv_mul (.inr (by omega)) | exact rv_mul (.inl (by omega))
  | exact rv_I (by show CPow _ _; exact ⟨by decide, by decide, by decide⟩) | exact rv_I (by show CDiv _ _; exact ⟨by omega, by omega⟩) | exact rv_I (by omega) | exact rv_I (by decide))
local macro_rules | `(tactic| walk_at "rc") => `(tactic| first
  | exact rc_lenT | exact rc_lenL | exact rc_lenR | exact rc_lenC (by assumption) | exact rc_int | exact rc_abs | exact rc_max2 | exact rc_min2 | exact rc_tupL | exact rc_tupC (by assumption)
  | exact rc_isiInt (by walk_at "lk") | exact rc_isiBool (by walk_at "lk") | exact rc_isiTup (by walk_at "lk") | exact rc_isiStr (by walk_at "lk") | exact rc_isiLst (by walk_at "lk")
  | exact rc_divmod (by omega) | exact rc_sumL | exact rc_allL | exact rc_anyL)
local macro_rules | `(tactic| walk_at "sp") => `(tactic| fail)
local macro_rules | `(tactic| walk_at "ev") => `(tactic| first
  | exact ev_var rfl | exact ev_cI | exact ev_cN | exact ev_cB | exact ev_cS | exact ev_cT | exact ev_cR
  | (refine' ev_op ?aa ?bb ?cc; (case aa => walk_at "ev"); (case bb => walk_at "ev"); (case cc => walk_at "rv"))
  | (refine' ev_un ?aa ?cc; (case aa => walk_at "ev"); (case cc => exact ru_neg))
  | (refine' ev_cb ?aa ?cc; (case aa => walk_at "ea"); (case cc => walk_at "rc"))
  | (refine' ev_tup ?aa ?bb; (case aa => walk_at "ea"); (case bb => walk_at "ln"))
  | (refine' ev_lst ?aa ?bb; (case aa => walk_at "ea"); (case bb => walk_at "ln"))
  | (refine' ev_call ?aa ?cc; (case aa => walk_at "ea"); (case cc => walk_at "sp"))
  | (refine' ev_callK ?aa ?bb ?cc; (case aa => walk_at "ea"); (case bb => walk_at "ea"); (case cc => walk_at "sp"))
  | (refine' ev_fld ?aa ?bb ?cc ?dd; (case aa => walk_at "ev"); (case bb => walk_at "cl"); (case cc => walk_at "na"); (case dd => walk_at "fl"))
  | (refine' ev_meth ?aa ?dd ?bb ?cc; (case aa => walk_at "ev"); (case dd => walk_at "fl"); (case bb => walk_at "ea"); (case cc => walk_at "sp"))
  | (refine' ev_slT ?aa ?bb ?cc; (case aa => walk_at "ev"); (case bb => walk_at "eo"); (case cc => walk_at "eo"))
  | (refine' ev_slL ?aa ?bb ?cc; (case aa => walk_at "ev"); (case bb => walk_at "eo"); (case cc => walk_at "eo"))
  | (refine' ev_slR ?aa ?bb ?cc; (case aa => walk_at "ev"); (case bb => walk_at "eo"); (case cc => walk_at "eo"))
  | (refine' ev_notV ?aa; (case aa => walk_at "ev")))
local macro_rules | `(tactic| walk_at "eo") => `(tactic| first | exact eo_none | (refine' eo_some ?aa; (case aa => walk_at "ev")))
local macro_rules | `(tactic| walk_at "ea") => `(tactic| first | exact ea_nil | (refine' ea_cons ?aa ?bb; (case aa => walk_at "ev"); (case bb => walk_at "ea")))
local macro_rules | `(tactic| walk_at "et") => `(tactic| first
  | (refine' et_test ?aa; (case aa => walk_at "ev"))
  | (refine' et_B ?aa; (case aa => walk_at "ev"))
  | (refine' et_not ?aa; (case aa => walk_at "et")))

/-! ### walks by word: «st» a step, «go» steps as far as they go -/
local macro_rules | `(tactic| walk_at "ar") => `(tactic| first
  | assumption | omega | (simp only [List.length_map, List.length_append, List.length_cons, List.length_nil, List.length_range, List.length_replicate, List.length_set]; omega))
local macro_rules | `(tactic| walk_at "mu") => `(tactic| first
  | exact .inr ⟨by decide, by decide⟩ | exact .inl ⟨by decide, by decide⟩ | exact .inr (by omega) | exact .inl (by omega))
local macro_rules | `(tactic| walk_at "mem") => `(tactic| first | assumption | exact List.mem_cons_self | exact List.mem_cons_of_mem _ (by first | assumption | exact List.mem_cons_self | exact List.mem_cons_of_mem _ (by first | assumption | exact List.mem_cons_self)))
local macro_rules | `(tactic| walk_at "cpow") => `(tactic| (show CPow _ _; exact ⟨by decide, by decide, by decide⟩))
local macro_rules | `(tactic| walk_at "cdiv") => `(tactic| (show CDiv _ _; exact ⟨by omega, by omega⟩))
local macro_rules | `(tactic| walk_at "cmod") => `(tactic| (show (0 : Int) < _; omega))
local macro_rules | `(tactic| walk_at "spc") => `(tactic| fail)
local macro_rules | `(tactic| walk_at "ix") => `(tactic| first | rfl | assumption | ((with_reducible show atI (List.map DV.int _) _ = _); exact atI_ints (by omega) (by omega)) | ((with_reducible show atI (List.map DV.int (List.map _ (List.range _))) _ = _); exact atI_rowI (by omega) (by omega)) | ((with_reducible show atI (List.map DV.int (List.map _ (List.range (_ + 1)))) (-1) = _); exact atI_lastI))
local macro_rules | `(tactic| walk_at "fit2") => `(tactic| assumption)
local macro_rules | `(tactic| walk_at "fit1") => `(tactic| first
  | ((with_reducible show Fs _ _ _); (first | exact Fs.non | exact Fs.bl | ((with_reducible refine' Fs.int ?_); omega) | (with_reducible refine' Fs.tup ?_) | (with_reducible refine' Fs.lst ?_) | exact Fs.str (by decide +kernel) (by decide +kernel) | walk_at "fit2"))
  | ((with_reducible show FsA _ _ _); (first | exact FsA.nil | (with_reducible refine' FsA.cons ?_ ?_) | walk_at "fit2")))
local macro_rules | `(tactic| walk_at "fit") => `(tactic| repeat' (walk_at "fit1"))
local macro_rules | `(tactic| walk_at "fitA") => `(tactic| first | assumption | exact Fs.fit (by walk_at "fit") (by exact Nat.le_of_ble_eq_true rfl) (by exact Nat.le_of_ble_eq_true rfl))
local macro_rules | `(tactic| walk_at "st_rv") => `(tactic| first
  | (with_reducible refine' RV.go rv_add ?_) | (with_reducible refine' RV.go rv_I0 ?_) | (with_reducible refine' RV.go rv_B0 ?_)
  | (with_reducible refine' RV.go rv_eqI ?_) | (with_reducible refine' RV.go rv_neI ?_) | (with_reducible refine' RV.go rv_eqB ?_) | (with_reducible refine' RV.go rv_neB ?_)
  | (with_reducible refine' RV.go rv_eqS ?_) | (with_reducible refine' RV.go rv_neS ?_)
  | (with_reducible refine' RV.go rv_isN ?_) | (with_reducible refine' RV.go rv_notN ?_) | (with_reducible refine' RV.go rv_notB ?_)
  | ((with_reducible refine' RV.go (rv_neNilL ?ff) ?_); (case' ff => try walk_at "fitA"))
  | ((with_reducible refine' RV.go (rv_eqNilL ?ff) ?_); (case' ff => try walk_at "fitA"))
  | ((with_reducible refine' RV.go (rv_neNilT ?ff) ?_); (case' ff => try walk_at "fitA"))
  | ((with_reducible refine' RV.go (rv_eqNilT ?ff) ?_); (case' ff => try walk_at "fitA"))
  | ((with_reducible refine' RV.go (rv_neSelf ?ff) ?_); (case' ff => try walk_at "fitA"))
  | ((with_reducible refine' RV.go (rv_eqSelf ?ff) ?_); (case' ff => try walk_at "fitA"))
  | (with_reducible refine' RV.go rv_x2 ?_)
  | ((with_reducible refine' RV.go (rv_xn ?aa ?bb) ?_); (case' aa => try omega); (case' bb => try omega))
  | (with_reducible refine' RV.go rv_inLI ?_) | (with_reducible refine' RV.go rv_ninLI ?_) | (with_reducible refine' RV.go rv_inTI ?_) | (with_reducible refine' RV.go rv_ninTI ?_)
  | ((with_reducible refine' RV.go (rv_mul ?aa) ?_); (case' aa => try walk_at "mu"))
  | ((with_reducible refine' RV.go (rv_addT ?aa) ?_); (case' aa => try walk_at "ar"))
  | ((with_reducible refine' RV.go (rv_addL ?aa) ?_); (case' aa => try walk_at "ar"))
  | ((with_reducible refine' RV.go (rv_addC ?bb ?aa) ?_); (case' aa => try walk_at "ar"); (case' bb => try walk_at "mem"))
  | ((with_reducible refine' RV.go (rv_mulL ?bb ?aa) ?_); (case' aa => try walk_at "ar"); (case' bb => try exact ⟨by decide, by decide⟩))
  | ((with_reducible refine' RV.go (rv_ixT ?aa) ?_); (case' aa => try walk_at "ix"))
  | ((with_reducible refine' RV.go (rv_ixL ?aa) ?_); (case' aa => try walk_at "ix"))
  | ((with_reducible refine' RV.go (rv_ixR ?aa) ?_); (case' aa => try walk_at "ix"))
  | ((with_reducible refine' RV.go (rv_ixC ?bb ?aa) ?_); (case' bb => try walk_at "mem"); (case' aa => try walk_at "ix"))
  | (with_reducible refine' RV.go rv_p6 ?_) | (with_reducible refine' RV.go rv_p12 ?_) | (with_reducible refine' RV.go rv_p14 ?_) | (with_reducible refine' RV.go rv_p18 ?_) | (with_reducible refine' RV.go rv_p19 ?_) | (with_reducible refine' RV.go rv_p20 ?_)
  | ((with_reducible refine' RV.go (rv_I ?aa) ?_); (case' aa => first | walk_at "cpow" | walk_at "cdiv" | walk_at "cmod" | skip)))
local macro_rules | `(tactic| walk_at "st_rc") => `(tactic| first
  | (with_reducible refine' RC.go w_lenTm ?_) | (with_reducible refine' RC.go w_lenLm ?_)
  | (with_reducible refine' RC.go rc_lenT ?_) | (with_reducible refine' RC.go rc_lenL ?_) | (with_reducible refine' RC.go rc_lenR ?_)
  | ((with_reducible refine' RC.go (rc_lenC ?aa) ?_); (case' aa => try walk_at "mem"))
  | (with_reducible refine' RC.go rc_listT ?_) | (with_reducible refine' RC.go rc_listL ?_)
  | (with_reducible refine' RC.go rc_int ?_) | (with_reducible refine' RC.go rc_abs ?_) | (with_reducible refine' RC.go rc_max2 ?_) | (with_reducible refine' RC.go rc_min2 ?_)
  | ((with_reducible refine' RC.go (rc_show ?ff) ?_); (case' ff => try walk_at "fitA"))
  | ((with_reducible refine' RC.go (rc_showU ?ff) ?_); (case' ff => try walk_at "fitA"))
  | (with_reducible refine' RC.go rc_tupL ?_) | ((with_reducible refine' RC.go (rc_tupC ?aa) ?_); (case' aa => try walk_at "mem"))
  | ((with_reducible refine' RC.go (rc_isiInt ?aa) ?_); (case' aa => first | rfl | assumption | skip)) | ((with_reducible refine' RC.go (rc_isiBool ?aa) ?_); (case' aa => first | rfl | assumption | skip))
  | ((with_reducible refine' RC.go (rc_isiTup ?aa) ?_); (case' aa => first | rfl | assumption | skip)) | ((with_reducible refine' RC.go (rc_isiStr ?aa) ?_); (case' aa => first | rfl | assumption | skip))
  | ((with_reducible refine' RC.go (rc_isiLst ?aa) ?_); (case' aa => first | rfl | assumption | skip))
  | ((with_reducible refine' RC.go (rc_divmod ?aa) ?_); (case' aa => try exact ⟨by omega, by omega⟩))
  | (with_reducible refine' RC.go rc_allM ?_) | (with_reducible refine' RC.go rc_anyM ?_) | (with_reducible refine' RC.go rc_sumL ?_) | (with_reducible refine' RC.go rc_allL ?_) | (with_reducible refine' RC.go rc_anyL ?_))
local macro_rules | `(tactic| walk_at "st_evr") => `(tactic| first
  | ((with_reducible refine' w_var ?aa ?_); (case aa => exact rfl))
  | (with_reducible refine' w_cI ?_) | (with_reducible refine' w_cN ?_) | (with_reducible refine' w_cB ?_) | (with_reducible refine' w_cS ?_) | (with_reducible refine' w_cT ?_) | (with_reducible refine' w_cR ?_)
  | (with_reducible refine' w_sortedSet ?_)
  | (with_reducible refine' evr_op ?_) | (with_reducible refine' evr_un ?_) | (with_reducible refine' evr_cb ?_) | (with_reducible refine' evr_tup ?_) | (with_reducible refine' evr_lst ?_)
  | (with_reducible refine' evr_if ?_) | (with_reducible refine' evr_andV ?_) | (with_reducible refine' evr_orV ?_) | (with_reducible refine' evr_notV ?_) | (with_reducible refine' evr_chain ?_)
  | (with_reducible refine' w_fld ?_) | ((with_reducible show EvR _ (tMeth _ _ _ _ _ _ _) _ _ _); refine' w_meth ?_) | (with_reducible refine' w_append ?_) | ((with_reducible show EvR _ (tCall _ _ _ _) _ _ _); refine' evr_call ?_) | ((with_reducible show EvR _ (tCallK _ _ _ _ _) _ _ _); refine' evr_callK ?_)
  | ((with_reducible refine' Ev.go (ev_slT ?aa ?bb ?cc) ?_); (case aa => walk_at "ev"); (case bb => walk_at "eo"); (case cc => walk_at "eo"))
  | ((with_reducible refine' Ev.go (ev_slL ?aa ?bb ?cc) ?_); (case aa => walk_at "ev"); (case bb => walk_at "eo"); (case cc => walk_at "eo"))
  | ((with_reducible refine' Ev.go (ev_slC ?dd ?aa ?bb ?cc) ?_); (case aa => walk_at "ev"); (case dd => walk_at "mem"); (case bb => walk_at "eo"); (case cc => walk_at "eo"))
  | ((with_reducible refine' Ev.go (ev_slR ?aa ?bb ?cc) ?_); (case aa => walk_at "ev"); (case bb => walk_at "eo"); (case cc => walk_at "eo")))
local macro_rules | `(tactic| walk_at "st_xs") => `(tactic| first
  | (with_reducible refine' xs_seq ?_) | (with_reducible refine' xs_asg ?_) | (with_reducible refine' xs_ret ?_) | (with_reducible refine' xs_retN ?_) | (with_reducible refine' xs_if ?_)
  | (with_reducible refine' xs_drop ?_) | (with_reducible refine' xs_next ?_) | (with_reducible refine' w_par ?_) | (with_reducible refine' w_par3 ?_)
  | ((with_reducible refine' w_aug ?aa ?_); (case aa => exact rfl)) | (with_reducible refine' w_putF ?_) | (with_reducible refine' xs_brk ?_) | (with_reducible refine' xs_cont ?_))
local macro_rules | `(tactic| walk_at "st_et") => `(tactic| first
  | (with_reducible refine' etr_test ?_) | (with_reducible refine' etr_B ?_) | (with_reducible refine' etr_and ?_) | (with_reducible refine' etr_or ?_) | (with_reducible refine' etr_not ?_) | (with_reducible refine' etr_yes ?_))
local macro_rules | `(tactic| walk_at "st_if") => `(tactic| first
  | (with_reducible refine' w_same ?_) | (with_reducible refine' w_sameT ?_) | (with_reducible refine' w_not ?_)
  | ((with_reducible refine' w_T ?aa ?_); (case aa => with_reducible rfl)) | ((with_reducible refine' w_F ?aa ?_); (case aa => with_reducible rfl))
  | ((with_reducible refine' w_decT ?aa ?_); (case aa => omega)) | ((with_reducible refine' w_decF ?aa ?_); (case aa => omega))
  | ((with_reducible refine' w_T ?aa ?_); (case aa => exact rfl)) | ((with_reducible refine' w_F ?aa ?_); (case aa => exact rfl))
  | (with_reducible refine' w_dec (fun hh => ?_) (fun hh => ?_))
  | (with_reducible refine' w_bool (fun hh => ?_) (fun hh => ?_)))
local macro_rules | `(tactic| walk_at "st") => `(tactic| first
  | ((with_reducible show EvR _ _ _ _ _); walk_at "st_evr")
  | ((with_reducible show EvAR _ _ _ _ _); (first | (with_reducible refine' ear_nil ?_) | (with_reducible refine' ear_cons ?_)))
  | ((with_reducible show RVR _ _ _ _ _ _); walk_at "st_rv")
  | ((with_reducible show RCR _ _ _ _ _); walk_at "st_rc")
  | ((with_reducible show RUR _ _ _ _ _); with_reducible refine' w_neg ?_)
  | ((with_reducible show XS _ _ _ _ _); walk_at "st_xs")
  | ((with_reducible show EvTR _ _ _ _ _); walk_at "st_et")
  | ((with_reducible show BdG _ _ _ _ _ _); (first | (with_reducible refine' bd_name ?_) | ((with_reducible refine' bd_tup ?_ ?aa); (case aa => exact rfl))))
  | ((with_reducible show BdGs _ _ _ _ _ _); (first | (with_reducible refine' bds_nil ?_) | (with_reducible refine' bds_cons ?_)))
  | ((with_reducible show FldR _ _ _ _ _); (first | ((with_reducible refine' FldR.ins ?aa ?bb ?cc ?_); (case aa => walk_at "cl"); (case bb => walk_at "na"); (case cc => walk_at "fl")) | ((with_reducible refine' FldR.own ?dd ?aa ?bb ?cc ?_); (case dd => walk_at "mem"); (case aa => walk_at "cl"); (case bb => walk_at "na"); (case cc => exact rfl))))
  | ((with_reducible show PutR _ _ _ _ _ _); (first | ((with_reducible refine' PutR.at 0 ?aa ?bb ?cc ?dd ?_); (case aa => exact rfl); (case bb => walk_at "cl"); (case cc => walk_at "na"); (case dd => exact Nat.le_of_ble_eq_true rfl)) | ((with_reducible refine' PutR.at 1 ?aa ?bb ?cc ?dd ?_); (case aa => exact rfl); (case bb => walk_at "cl"); (case cc => walk_at "na"); (case dd => exact Nat.le_of_ble_eq_true rfl))))
  | ((with_reducible show MethR _ _ _ _ _ _ _ _ _); (first | ((with_reducible refine' MethR.ins ?aa ?_); (case aa => exact rfl)) | ((with_reducible refine' MethR.own ?bb ?aa ?_); (case bb => walk_at "mem"); (case aa => exact rfl))))
  | ((with_reducible show AppR _ _ _ _ _ _); (first | ((with_reducible refine' AppR.at 0 ?aa ?bb ?_); (case aa => exact rfl); (case' bb => try walk_at "ar")) | ((with_reducible refine' AppR.at 1 ?aa ?bb ?_); (case aa => exact rfl); (case' bb => try walk_at "ar")) | ((with_reducible refine' AppR.at 2 ?aa ?bb ?_); (case aa => exact rfl); (case' bb => try walk_at "ar")) | ((with_reducible refine' AppR.at 3 ?aa ?bb ?_); (case aa => exact rfl); (case' bb => try walk_at "ar"))))
  | ((with_reducible refine' AppR.fin ?aa ?_); (case aa => exact rfl))
  | (with_reducible refine' w_bl ?_) | (with_reducible refine' w_int ?_) | (with_reducible refine' w_2 ?_) | (with_reducible refine' w_3 ?_)
  | ((with_reducible refine' w_le ?aa ?_); (case aa => exact rfl))
  | ((with_reducible show ite _ _ _); walk_at "st_if")
  | (walk_at "spc"))
local macro_rules | `(tactic| walk_at "go") => `(tactic| repeat' (walk_at "st"))

/-! ### numbers -/
def betw : DV → Int → Int → Bool
  | .int i, lo, hi => decide (lo ≤ i) && decide (i ≤ hi)
  | _, _, _ => false
def S_is_between : SpecD := fun ds M R => ∃ (v : DV) (lo hi : Int), ds = [v, .int lo, .int hi] ∧ (tyN v).isSome = true ∧ R (.bl (betw v lo hi)) M
theorem ok_is_between (T : Tx K mg A) : FnOk P w K mg base CX0 1 A.f_is_between A.d_is_between ["value", "low", "high"] (spD K S_is_between) := by
  refine fnD T.F_is_between sc_is_between (fun ds M R h => by obtain ⟨v, lo, hi, rfl, _⟩ := h; rfl) fun cdv B up z H E hr ds M R h => ?_
  obtain ⟨v, lo, hi, rfl, hv, hR⟩ := h
  refine ⟨_, (pss_one (ps_ret (pe_and (pe_callB (wIsi K rfl) (by rfl) T.n_isinstance (by decide +kernel) (pa_cons (pv 0) (pa_cons (pe_bltn (v := .ty "int") (by rfl) T.n_int (by decide +kernel) rfl) pa_nil))) (pe_and (pe_not (pe_callB (wIsi K rfl) (by rfl) T.n_isinstance (by decide +kernel) (pa_cons (pv 0) (pa_cons (pe_bltn (v := .ty "bool") (by rfl) T.n_bool (by decide +kernel) rfl) pa_nil)))) (pe_one (pe_chain op_le op_le (pv 1) (pv 0) (pv 2))))))), ?_⟩
  have h1 : Ev K (tCB (rIsi K) (tCons (tVar 0) (tCons (tC (.ty "int")) tNil))) (rho0 ["value", "low", "high"] [v, .int lo, .int hi]) M (.bl (isIntD v)) := by walk_at "ev"
  have h2 : Ev K (tNotV (tCB (rIsi K) (tCons (tVar 0) (tCons (tC (.ty "bool")) tNil)))) (rho0 ["value", "low", "high"] [v, .int lo, .int hi]) M (.bl (!isBoolD v)) := by walk_at "ev"
  cases v with
  | int i => exact xs_retE (ev_andTr h1 (ev_andTr h2 (ev_chain (ev_var rfl) (ev_var rfl) rv_B0 (fun _ => ev_var rfl) (fun _ => rv_B0)))) hR
  | bl b => exact xs_retE (ev_andTr h1 (ev_andF h2)) hR
  | _ => first | exact xs_retE (ev_andF h1) hR | cases hv
theorem sp_is_between {v : DV} {lo hi : Int} {M : Ms} (h : (tyN v).isSome = true) : S_is_between [v, .int lo, .int hi] M fun d' M' => d' = .bl (betw v lo hi) ∧ M' = M := ⟨v, lo, hi, rfl, h, rfl, rfl⟩
local macro_rules | `(tactic| walk_at "sp") => `(tactic| exact sp_is_between (by walk_at "lk"))
/-- where the first number stands that is none from 0 to hi -/
def optD : Option Nat → DV
  | none => .non
  | some i => .int i
def wrongIx (xs : List DV) (hi : Int) : Option Nat := xs.findIdx? fun d => !betw d 0 hi
theorem nth_mem {xs : List DV} {i : Nat} (h : i < xs.length) : nth xs i ∈ xs := List.mem_of_getElem? (nth_get h)
theorem findIdx_some {xs : List DV} {p : DV → Bool} {i : Nat} (hi : i < xs.length) (h0 : ∀ j, j < i → p (nth xs j) = false) (h1 : p (nth xs i) = true) : xs.findIdx? p = some i := by
  rw [List.findIdx?_eq_some_iff_getElem]
  refine ⟨hi, ?_, fun j hj => ?_⟩
  · have := nth_get hi
    rw [List.getElem?_eq_getElem hi] at this
    rw [Option.some.inj this]; exact h1
  · have hl : j < xs.length := by omega
    have := nth_get hl
    rw [List.getElem?_eq_getElem hl] at this
    rw [Option.some.inj this, h0 j hj]; decide
theorem findIdx_none {xs : List DV} {p : DV → Bool} (h0 : ∀ j, j < xs.length → p (nth xs j) = false) : xs.findIdx? p = none := by
  rw [List.findIdx?_eq_none_iff]
  intro x hx
  obtain ⟨j, hj, e⟩ := List.mem_iff_getElem.mp hx
  have := nth_get hj
  rw [List.getElem?_eq_getElem hj, e] at this
  rw [Option.some.inj this]; exact h0 j hj
def S_wrong_number : SpecD := fun ds M R => ∃ (xs : List DV) (hi : Int), ds = [.tup xs, .int hi] ∧ (∀ x ∈ xs, (tyN x).isSome = true) ∧ R (optD (wrongIx xs hi)) M
theorem ok_wrong_number (T : Tx K mg A) : FnOk P w K mg base CX0 2 A.f_wrong_number A.d_wrong_number ["numbers", "high"] (spD K S_wrong_number) := by
  refine fnD T.F_wrong_number sc_wrong_number (fun ds M R h => by obtain ⟨xs, hi, rfl, _⟩ := h; rfl) fun cdv B up z H E hr ds M R h => ?_
  obtain ⟨xs, hi, rfl, hv, hR⟩ := h
  refine ⟨_, (pss_cons (ps_for PassesOwn.never rfl (wEnumT K rfl rfl T.n_enumerate (pa_cons (pv 0) pa_nil)) (wTupG K rfl (pg_tup rfl (pgs_cons (pg_name (i := 2) sc_wrong_number.nd rfl (.inl rfl)) (pgs_cons (pg_name (i := 3) sc_wrong_number.nd rfl (.inl rfl)) pgs_nil)))) (pss_one (ps_if (pt_not (pt_val (pe_call (ok_is_between T) (hr.mono (by decide)) (by rfl) T.g_is_between T.F_is_between.kp (b_is_between T) .nil pass0 (pa_cons (pv 3) (pa_cons pe_int (pa_cons (pv 1) pa_nil)))))) (pss_one (ps_ret (pv 2))) pss_nil))) (pss_one (ps_ret pe_non))), ?_⟩
  refine xs_seq (xs_for (ei_enumT (ds := xs) (RM := fun M' => M' = M) (EvA.go (by walk_at "ea") ⟨rfl, rfl⟩)) (fun i ρ M' => M' = M ∧ (∃ a b, ρ = [some (.tup xs), some (.int hi), a, b]) ∧ ∀ j, j < i → betw (nth xs j) 0 hi = true)
    (fun M' e => ⟨e, ⟨none, none, rfl⟩, fun j h => absurd h (Nat.not_lt_zero _)⟩) (fun _ _ _ _ _ c hc => nomatch hc) (fun i ρ M' hlt hinv => ?_) fun ρ M' hinv => ?_)
  · obtain ⟨rfl, ⟨a, b, rfl⟩, hj⟩ := hinv
    refine bd_tup (bds_nm (bds_nm (bds_nil ?_))) rfl
    have hi2 : (tyN (nth xs i)).isSome = true := hv _ (nth_mem hlt)
    refine xs_if2 (et_not (et_B (ev_call (by walk_at "ea") (sp_is_between hi2)))) (fun hb => ?_) (fun hb => ?_)
    · refine xs_retE (by walk_at "ev") ?_
      have e : wrongIx xs hi = some i := findIdx_some hlt (fun j h => by rw [hj j h]; rfl) hb
      rw [e] at hR; exact hR
    · refine xs_next ⟨rfl, ⟨_, _, rfl⟩, fun j h => ?_⟩
      by_cases e : j = i
      · subst e; simpa using hb
      · exact hj j (by omega)
  · obtain ⟨rfl, ⟨a, b, rfl⟩, hj⟩ := hinv
    refine xs_retE (by walk_at "ev") ?_
    have e : wrongIx xs hi = none := findIdx_none fun j h => by rw [hj j h]; rfl
    rw [e] at hR; exact hR
theorem sp_wrong_number {xs : List DV} {hi : Int} {M : Ms} (h : ∀ x ∈ xs, (tyN x).isSome = true) : S_wrong_number [.tup xs, .int hi] M fun d' M' => d' = optD (wrongIx xs hi) ∧ M' = M := ⟨xs, hi, rfl, h, rfl, rfl⟩
theorem ints_ty {ns : List Int} : ∀ x ∈ ns.map DV.int, (tyN x).isSome = true := fun x hx => by
  obtain ⟨n, _, rfl⟩ := List.mem_map.mp hx; rfl
theorem wrongIx_ints {ns : List Int} {hi : Int} (h : ∀ n ∈ ns, 0 ≤ n ∧ n ≤ hi) : wrongIx (ns.map DV.int) hi = none := by
  unfold wrongIx
  rw [List.findIdx?_eq_none_iff]
  intro x hx
  obtain ⟨n, hn, rfl⟩ := List.mem_map.mp hx
  have := h n hn
  simp [betw, this.1, this.2]
/-- an amount that is let -/
def S_check_amount : SpecD := fun ds M R => ∃ (i hi : Int), ds = [.int i, .int hi] ∧ 0 ≤ i ∧ i ≤ hi ∧ R .non M
theorem sp_check_amount {i hi : Int} {M : Ms} (h0 : 0 ≤ i) (h1 : i ≤ hi) : S_check_amount [.int i, .int hi] M fun d' M' => d' = .non ∧ M' = M := ⟨i, hi, rfl, h0, h1, rfl, rfl⟩

theorem w_betwT {M : Ms} {R : DV → Ms → Prop} {i lo hi : Int} (h : lo ≤ i ∧ i ≤ hi) (k : R (.bl true) M) : S_is_between [.int i, .int lo, .int hi] M R := ⟨.int i, lo, hi, rfl, rfl, by show R (.bl (decide (lo ≤ i) && decide (i ≤ hi))) M; rw [decide_eq_true h.1, decide_eq_true h.2]; exact k⟩
theorem w_betwF {M : Ms} {R : DV → Ms → Prop} {i lo hi : Int} (h : ¬ (lo ≤ i ∧ i ≤ hi)) (k : R (.bl false) M) : S_is_between [.int i, .int lo, .int hi] M R := ⟨.int i, lo, hi, rfl, rfl, by
  show R (.bl (decide (lo ≤ i) && decide (i ≤ hi))) M
  rw [show (decide (lo ≤ i) && decide (i ≤ hi)) = false by
    rw [← Bool.decide_and]; exact decide_eq_false h]
  exact k⟩
theorem w_betw {M : Ms} {R : DV → Ms → Prop} {v : DV} {lo hi : Int} (h : (tyN v).isSome = true) (k : R (.bl (betw v lo hi)) M) : S_is_between [v, .int lo, .int hi] M R := ⟨v, lo, hi, rfl, h, k⟩
theorem w_amount {M : Ms} {R : DV → Ms → Prop} {i hi : Int} (h : 0 ≤ i ∧ i ≤ hi) (k : R .non M) : S_check_amount [.int i, .int hi] M R := ⟨i, hi, rfl, h.1, h.2, k⟩
local macro_rules | `(tactic| walk_at "spc") => `(tactic| first
  | ((with_reducible refine' w_betwT ?aa ?_); (case aa => omega)) | ((with_reducible refine' w_betwF ?aa ?_); (case aa => omega)) | ((with_reducible refine' w_betw ?aa ?_); (case aa => first | rfl | assumption))
  | ((with_reducible refine' w_amount ?aa ?_); (case' aa => try omega)))

/-! ### ints by their place -/
theorem getD_get {vs : List Int} {n : Nat} (h : n < vs.length) : vs[n]? = some (vs.getD n 0) := by
  rw [List.getD_eq_getElem?_getD, List.getElem?_eq_getElem h]; rfl
theorem atI_ints {vs : List Int} {x : Int} (h0 : 0 ≤ x) (h1 : x < vs.length) : atI (vs.map DV.int) x = some (.int (vs.getD x.toNat 0)) := by
  have e : atI (vs.map DV.int) ((x.toNat : Nat) : Int) = some (.int (vs.getD x.toNat 0)) := atI_nat (by rw [List.getElem?_map, getD_get (show x.toNat < vs.length by omega)]; rfl)
  rw [show ((x.toNat : Nat) : Int) = x by omega] at e
  exact e

/-! ### patterns -/
def toldD (vs : List Int) (p g : Int) : DV := .tup [.tup (vs.map .int), .int p, .int g]
def patF (vs : List Int) (p g : Int) : List (Str × DV) := [("firsts", .tup (vs.map .int)), ("period", .int p), ("gain", .int g), ("told", toldD vs p g)]
abbrev patD (A : Ad) (vs : List Int) (p g : Int) : DV := .ins A.C_Pattern (patF vs p g)
/-- the form of values, a period and a gain -/
structure Told (vs : List Int) (p g : Int) : Prop where
  p1 : 1 ≤ p
  p2 : p ≤ vs.length
  l : vs.length ≤ 1000
  g : -(2 ^ 64) < g ∧ g < 2 ^ 64
structure PatOk (vs : List Int) (p g : Int) : Prop where
  l1 : 1 ≤ vs.length
  l2 : vs.length ≤ 24
  hv : ∀ v ∈ vs, 0 ≤ v ∧ v ≤ 1000000
  p1 : 1 ≤ p
  p2 : p ≤ vs.length
  g1 : 0 ≤ g
  g2 : g ≤ 1000000
theorem PatOk.told {vs : List Int} {p g : Int} (h : PatOk vs p g) : Told vs p g := ⟨h.p1, h.p2, by have := h.l2; omega, by have := h.g1; omega, by have := h.g2; omega⟩
theorem pat_firsts {vs : List Int} {p g : Int} : (patF vs p g).lookup ("firsts" : Str) = some (.tup (vs.map .int)) := rfl
theorem pat_period {vs : List Int} {p g : Int} : (patF vs p g).lookup ("period" : Str) = some (.int p) := rfl
theorem pat_gain {vs : List Int} {p g : Int} : (patF vs p g).lookup ("gain" : Str) = some (.int g) := rfl
theorem pat_told {vs : List Int} {p g : Int} : (patF vs p g).lookup ("told" : Str) = some (toldD vs p g) := rfl
theorem pat_at {vs : List Int} {p g : Int} : (patF vs p g).lookup ("at" : Str) = none := rfl
local macro_rules | `(tactic| walk_at "fl") => `(tactic| first | exact pat_firsts | exact pat_period | exact pat_gain | exact pat_told | exact pat_at)
local macro_rules | `(tactic| walk_at "cl") => `(tactic| exact Tx.cl_Pattern (by assumption))
local macro_rules | `(tactic| walk_at "na") => `(tactic| first | exact Tx.na_Pattern_firsts (by assumption) | exact Tx.na_Pattern_period (by assumption) | exact Tx.na_Pattern_gain (by assumption) | exact Tx.na_Pattern_told (by assumption))
/-- the value for an amount -/
def valAt (vs : List Int) (p g x : Int) : Int := if x < vs.length then vs.getD x.toNat 0 else vs.getD (x - ((x - vs.length) / p + 1) * p).toNat 0 + ((x - vs.length) / p + 1) * g
theorem round_lo {x l p : Int} (hp : 1 ≤ p) (hl : p ≤ l) (hx : l ≤ x) : 0 ≤ x - ((x - l) / p + 1) * p ∧ x - ((x - l) / p + 1) * p < l := by
  have h1 := Int.emod_add_mul_ediv (x - l) p
  have h2 := Int.emod_nonneg (x - l) (show p ≠ 0 by omega)
  have h3 := Int.emod_lt_of_pos (x - l) (show 0 < p by omega)
  have e : ((x - l) / p + 1) * p = p * ((x - l) / p) + p := by rw [Int.add_mul, Int.one_mul, Int.mul_comm]
  rw [e]
  generalize p * ((x - l) / p) = q at h1 ⊢
  omega
def S_value_at : SpecD := fun ds M R => ∃ (vs : List Int) (p g x : Int), ds = [toldD vs p g, .int x] ∧ Told vs p g ∧ 0 ≤ x ∧ R (.int (valAt vs p g x)) M
theorem ok_value_at (T : Tx K mg A) : FnOk P w K mg base CX0 1 A.f_value_at A.d_value_at ["told", "amount"] (spD K S_value_at) := by
  refine fnD T.F_value_at sc_value_at (fun ds M R h => by obtain ⟨vs, p, g, x, rfl, _⟩ := h; rfl) fun cdv B up z H E hr ds M R h => ?_
  obtain ⟨vs, p, g, x, rfl, hw, h0, hR⟩ := h
  obtain ⟨hp1, hp2, hl, hg⟩ := hw
  refine ⟨_, (pss_cons (ps_asg (pv 0) (wTupG K rfl (pg_tup rfl (pgs_cons (pg_name (i := 2) sc_value_at.nd rfl (.inl rfl)) (pgs_cons (pg_name (i := 3) sc_value_at.nd rfl (.inl rfl)) (pgs_cons (pg_name (i := 4) sc_value_at.nd rfl (.inl rfl)) pgs_nil)))))) (pss_cons (ps_set (i := 5) sc_value_at.nd rfl (.inl rfl) (pe_op op_sub (pv 1) (pe_callB (wLen K rfl) (by rfl) T.n_len PySem.boot_len (pa_cons (pv 2) pa_nil)))) (pss_cons (ps_if (pt_cmpR op_lt (pv 5) pe_int (nomark _)) (pss_one (ps_ret (pe_ix (wIx K rfl) (pv 2) (pv 1) (fun _ _ => rfl)))) pss_nil) (pss_cons (ps_set (i := 6) sc_value_at.nd rfl (.inl rfl) (pe_op (wAdd K rfl) (pe_op op_fdiv (pv 5) (pv 3)) pe_int)) (pss_one (ps_ret (pe_op (wAdd K rfl) (pe_ix (wIx K rfl) (pv 2) (pe_op op_sub (pv 1) (pe_op (wMul K rfl) (pv 6) (pv 3))) (fun _ _ => rfl)) (pe_op (wMul K rfl) (pv 6) (pv 4))))))))), ?_⟩
  refine xs_unpackE (ds := [.tup (vs.map .int), .int p, .int g]) (ev_var rfl) rfl (bds_nm (bds_nm (bds_nm (bds_nil ?_))))
  refine xs_setE (d := .int (x - vs.length)) (Ev.is (by walk_at "ev") (by rw [List.length_map])) ?_
  refine xs_whenE (by walk_at "et") (fun hb => ?_) fun hb => ?_
  · have hx : x < vs.length := by have := of_decide_eq_true hb; omega
    refine xs_retE (ev_op (ev_var rfl) (ev_var rfl) (rv_ixT (atI_ints h0 hx))) ?_
    unfold valAt at hR
    rw [if_pos hx] at hR
    exact hR
  · have hx : ¬ x < vs.length := by have := of_decide_eq_false hb; omega
    have hr2 := round_lo hp1 hp2 (show (vs.length : Int) ≤ x by omega)
    refine xs_setE (by walk_at "ev") ?_
    refine xs_retE (ev_op (ev_op (ev_var rfl) (ev_op (ev_var rfl) (ev_op (ev_var rfl) (ev_var rfl) (rv_mul (.inr (by omega)))) rv_I0) (rv_ixT (atI_ints hr2.1 hr2.2))) (ev_op (ev_var rfl) (ev_var rfl) (rv_mul (.inr hg))) rv_add) ?_
    unfold valAt at hR
    rw [if_neg hx] at hR
    exact hR
theorem sp_value_at {vs : List Int} {p g x : Int} {M : Ms} (h : Told vs p g) (h0 : 0 ≤ x) : S_value_at [toldD vs p g, .int x] M fun d' M' => d' = .int (valAt vs p g x) ∧ M' = M := ⟨vs, p, g, x, rfl, h, h0, rfl, rfl⟩
/-- values that are let -/
def S_check_values : SpecD := fun ds M R => ∃ vs : List Int, ds = [.tup (vs.map .int)] ∧ 1 ≤ vs.length ∧ vs.length ≤ 24 ∧ (∀ v ∈ vs, 0 ≤ v ∧ v ≤ 1000000) ∧ R .non M
theorem ok_check_values (T : Tx K mg A) : FnOk P w K mg base CX0 3 A.f_check_values A.d_check_values ["value"] (spD K S_check_values) := by
  refine fnD T.F_check_values sc_check_values (fun ds M R h => by obtain ⟨vs, rfl, _⟩ := h; rfl) fun cdv B up z H E hr ds M R h => ?_
  obtain ⟨vs, rfl, h1, h2, hv, hR⟩ := h
  refine ⟨_, (pss_cons (ps_if (PW.pt (pw_or (pt_not (pt_val (pe_callB (wIsi K rfl) (by rfl) T.n_isinstance (by decide +kernel) (pa_cons (pv 0) (pa_cons (pe_bltn (v := .ty "tuple") (by rfl) T.n_tuple (by decide +kernel) rfl) pa_nil))))) (pw_or1 (pt_not (pt_chain op_le op_le pe_int (pe_callB (wLen K rfl) (by rfl) T.n_len PySem.boot_len (pa_cons (pv 0) pa_nil)) (pe_glob (v := .int 24) (by rfl) (Classical.choose_spec T.c_MOST_VALUES) ⟨_, rfl⟩)))))) (pss_one ps_never) pss_nil) (pss_cons (ps_set (i := 1) sc_check_values.nd rfl (.inl rfl) (pe_call (ok_wrong_number T) (hr.mono (by decide)) (by rfl) T.g_wrong_number T.F_wrong_number.kp (b_wrong_number T) .nil pass0 (pa_cons (pv 0) (pa_cons (pe_glob (v := .int 1000000) (by rfl) (Classical.choose_spec T.c_MOST_GIFT) ⟨_, rfl⟩) pa_nil)))) (pss_one (ps_if (pt_cmpR op_notN' (pv 1) pe_non (nomark _)) (pss_one ps_never) pss_nil)))), ?_⟩
  refine xs_whenE (b := false) (EvT.is (et_or (a := false) (b := false) (EvT.is (et_not (et_B (by walk_at "ev"))) rfl) fun _ => EvT.is (et_not (et_test (ev_chain (k := true) (k' := true) ev_cI (by walk_at "ev") ?_ (fun _ => ev_cI) fun _ => ?_))) rfl) rfl) (fun hb => nomatch hb) fun _ => ?_
  · rw [show true = decide ((1 : Int) ≤ ((vs.map DV.int).length : Int)) by simp; omega]; exact rv_B0
  · rw [show true = decide (((vs.map DV.int).length : Int) ≤ 24) by simp; omega]; exact rv_B0
  refine xs_setE (ev_call (by walk_at "ea") (sp_wrong_number ints_ty)) ?_
  rw [wrongIx_ints hv]
  refine xs_if2 (b := false) (et_test (by walk_at "ev")) (fun hb => nomatch hb) fun _ => xs_next hR
theorem sp_check_values {vs : List Int} {M : Ms} (h1 : 1 ≤ vs.length) (h2 : vs.length ≤ 24) (hv : ∀ v ∈ vs, 0 ≤ v ∧ v ≤ 1000000) : S_check_values [.tup (vs.map .int)] M fun d' M' => d' = .non ∧ M' = M := ⟨vs, rfl, h1, h2, hv, rfl, rfl⟩
/-- Pattern(..) of what is let -/
def S_Pattern_init (A : Ad) : SpecD := fun ds M R => ∃ (x : Addr) (vs : List Int) (p g : Int) (M' : Ms), ds = [.raw (.ref x), .tup (vs.map .int), .int p, .int g] ∧ M = (x, MO.ins A.C_Pattern []) :: M' ∧ PatOk vs p g ∧ R .non ((x, MO.ins A.C_Pattern (patF vs p g)) :: M')
theorem put1 {d : DV} : putD "firsts" d [] = [(("firsts" : Str), d)] := rfl
theorem put2 {d e : DV} : putD "period" e [(("firsts" : Str), d)] = [(("firsts" : Str), d), ("period", e)] := rfl
theorem put3 {d e f : DV} : putD "gain" f [(("firsts" : Str), d), ("period", e)] = [(("firsts" : Str), d), ("period", e), ("gain", f)] := rfl
theorem put4 {d e f g : DV} : putD "told" g [(("firsts" : Str), d), ("period", e), ("gain", f)] = [(("firsts" : Str), d), ("period", e), ("gain", f), ("told", g)] := rfl
theorem ok_Pattern_init (T : Tx K mg A) : FnOk P w K mg base CX0 4 A.f_Pattern_init A.d_Pattern_init ["self", "values", "period", "gain"] (spD K (S_Pattern_init A)) := by
  refine fnD T.F_Pattern_init sc_Pattern_init (fun ds M R h => by obtain ⟨x, vs, p, g, M', rfl, _⟩ := h; rfl) fun cdv B up z H E hr ds M R h => ?_
  obtain ⟨x, vs, p, g, M', rfl, rfl, ⟨l1, l2, hv, p1, p2, g1, g2⟩, hR⟩ := h
  refine ⟨_, (pss_cons (ps_expr (pe_call (ok_check_values T) (hr.mono (by decide)) (by rfl) T.g_check_values T.F_check_values.kp (b_check_values T) .nil pass0 (pa_cons (pv 1) pa_nil))) (pss_cons (ps_if (pt_not (pt_val (pe_call (ok_is_between T) (hr.mono (by decide)) (by rfl) T.g_is_between T.F_is_between.kp (b_is_between T) .nil pass0 (pa_cons (pv 2) (pa_cons pe_int (pa_cons (pe_callB (wLen K rfl) (by rfl) T.n_len PySem.boot_len (pa_cons (pv 1) pa_nil)) pa_nil)))))) (pss_one ps_never) pss_nil) (pss_cons (ps_if (pt_not (pt_val (pe_call (ok_is_between T) (hr.mono (by decide)) (by rfl) T.g_is_between T.F_is_between.kp (b_is_between T) .nil pass0 (pa_cons (pv 3) (pa_cons pe_int (pa_cons (pe_glob (v := .int 1000000) (by rfl) (Classical.choose_spec T.c_MOST_GIFT) ⟨_, rfl⟩) pa_nil)))))) (pss_one ps_never) pss_nil) (pss_cons (wPutF K rfl (pv 0) (pv 1) rfl) (pss_cons (wPutF K rfl (pv 0) (pv 2) rfl) (pss_cons (wPutF K rfl (pv 0) (pv 3) rfl) (pss_one (wPutF K rfl (pv 0) (pe_tup (pa_cons (pv 1) (pa_cons (pv 2) (pa_cons (pv 3) pa_nil)))) rfl)))))))), ?_⟩
  refine xs_seq (xs_drop (Ev.go (ev_call (by walk_at "ea") (sp_check_values l1 l2 hv)) ?_))
  refine xs_whenE (b := false) (EvT.is (et_not (et_B (ev_call (ea_cons (ev_var rfl) (ea_cons ev_cI (ea_cons (by walk_at "ev") ea_nil))) (sp_is_between rfl)))) (by simp [betw, p1]; omega)) (fun hb => nomatch hb) fun _ => ?_
  refine xs_whenE (b := false) (EvT.is (et_not (et_B (ev_call (by walk_at "ea") (sp_is_between rfl)))) (by simp [betw, g1, g2])) (fun hb => nomatch hb) fun _ => ?_
  refine xs_putF (i := 0) T.cl_Pattern T.na_Pattern_firsts (by decide) (ev_var rfl) (ev_var rfl) rfl ?_
  refine xs_putF (i := 0) T.cl_Pattern T.na_Pattern_period (by rw [put1]; show 1 < 1000; decide) (ev_var rfl) (ev_var rfl) rfl ?_
  refine xs_putF (i := 0) T.cl_Pattern T.na_Pattern_gain (by rw [put1, put2]; show 2 < 1000; decide) (ev_var rfl) (ev_var rfl) rfl ?_
  refine xs_putF1 (i := 0) T.cl_Pattern T.na_Pattern_told (by rw [put1, put2, put3]; show 3 < 1000; decide) (by walk_at "ev") (ev_var rfl) rfl ?_
  rw [put1, put2, put3, put4]
  exact hR
/-- the new pattern, that stays -/
theorem evr_Pattern {t : TA} {ρ : Rho} {M : Ms} {R : DV → Ms → Prop} (h : EvAR K t ρ M fun ds M1 => ∃ vs p g, ds = [.tup (vs.map .int), .int p, .int g] ∧ PatOk vs p g ∧ R (patD A vs p g) M1) : EvR K (tMake A.C_Pattern (spD K (S_Pattern_init A)) [] E0 t) ρ M R := by
  refine evr_freezeI (evr_make ?_)
  intro N F σ H S Q q
  refine h N F σ H S Q fun us ds M1 F1 H1 e1 ⟨vs, p, g, hd, hp, hR⟩ w1 r1 => q us ds M1 F1 H1 e1 (fun x => ?_) w1 r1
  subst hd
  exact ⟨x, vs, p, g, M1, rfl, rfl, hp, rfl, x, A.C_Pattern, _, M1, rfl, rfl, hR⟩
theorem ev_Pattern {t : TA} {ρ : Rho} {M : Ms} {vs : List Int} {p g : Int} (h : EvA K t ρ M [.tup (vs.map .int), .int p, .int g]) (hp : PatOk vs p g) : Ev K (tMake A.C_Pattern (spD K (S_Pattern_init A)) [] E0 t) ρ M (patD A vs p g) := evr_Pattern (h.go ⟨vs, p, g, rfl, hp, rfl, rfl⟩)
def S_Pattern_at (A : Ad) : SpecD := fun ds M R => ∃ (vs : List Int) (p g x : Int), ds = [patD A vs p g, .int x] ∧ Told vs p g ∧ 0 ≤ x ∧ R (.int (valAt vs p g x)) M
theorem ok_Pattern_at (T : Tx K mg A) : FnOk P w K mg base CX0 2 A.f_Pattern_at A.d_Pattern_at ["self", "amount"] (spD K (S_Pattern_at A)) := by
  refine fnD T.F_Pattern_at sc_Pattern_at (fun ds M R h => by obtain ⟨vs, p, g, x, rfl, _⟩ := h; rfl) fun cdv B up z H E hr ds M R h => ?_
  obtain ⟨vs, p, g, x, rfl, hw, h0, hR⟩ := h
  refine ⟨_, (pss_one (ps_ret (pe_call (ok_value_at T) (hr.mono (by decide)) (by rfl) T.g_value_at T.F_value_at.kp (b_value_at T) .nil pass0 (pa_cons (wFld K rfl (pv 0) rfl) (pa_cons (pv 1) pa_nil))))), ?_⟩
  exact xs_retE (ev_call (by walk_at "ea") (sp_value_at hw h0)) hR
theorem sp_Pattern_at {vs : List Int} {p g x : Int} {M : Ms} (h : Told vs p g) (h0 : 0 ≤ x) : S_Pattern_at A [patD A vs p g, .int x] M fun d' M' => d' = .int (valAt vs p g x) ∧ M' = M := ⟨vs, p, g, x, rfl, h, h0, rfl, rfl⟩
def S_check_pattern (A : Ad) : SpecD := fun ds M R => ∃ (vs : List Int) (p g : Int), ds = [patD A vs p g] ∧ R .non M
theorem ok_check_pattern (T : Tx K mg A) : FnOk P w K mg base CX0 1 A.f_check_pattern A.d_check_pattern ["value"] (spD K (S_check_pattern A)) := by
  refine fnD T.F_check_pattern sc_check_pattern (fun ds M R h => by obtain ⟨vs, p, g, rfl, _⟩ := h; rfl) fun cdv B up z H E hr ds M R h => ?_
  obtain ⟨vs, p, g, rfl, hR⟩ := h
  refine ⟨_, (pss_one (ps_if (pt_not (pt_val (pe_callB (wIsi K rfl) (by rfl) T.n_isinstance (by decide +kernel) (pa_cons (pv 0) (pa_cons (pe_glob (v := .ref A.C_Pattern) (by rfl) T.g_Pattern rfl) pa_nil))))) (pss_one ps_never) pss_nil)), ?_⟩
  exact xs_if2 (b := false) (EvT.is (et_not (et_B (ev_cb (by walk_at "ea") (rc_isiOwn T.cl_Pattern T.ty_Pattern)))) rfl) (fun hb => nomatch hb) fun _ => xs_next hR
theorem sp_check_pattern {vs : List Int} {p g : Int} {M : Ms} : S_check_pattern A [patD A vs p g] M fun d' M' => d' = .non ∧ M' = M := ⟨vs, p, g, rfl, rfl, rfl⟩

/-- Pattern(..) of what is let -/
def MkPat (A : Ad) (ds : List DV) (M : Ms) (R : DV → Ms → Prop) : Prop := ∃ vs p g, ds = [.tup (vs.map .int), .int p, .int g] ∧ PatOk vs p g ∧ R (patD A vs p g) M
theorem evr_mkpat {t : TA} {ρ : Rho} {M : Ms} {R : DV → Ms → Prop} (h : EvAR K t ρ M fun ds M1 => MkPat A ds M1 R) : EvR K (tMake A.C_Pattern (spD K (S_Pattern_init A)) [] E0 t) ρ M R := evr_Pattern h
theorem w_mkpat {M : Ms} {R : DV → Ms → Prop} {vs : List Int} {p g : Int} (hp : PatOk vs p g) (k : R (patD A vs p g) M) : MkPat A [DV.tup (vs.map .int), .int p, .int g] M R := ⟨vs, p, g, rfl, hp, k⟩
theorem w_value_at {M : Ms} {R : DV → Ms → Prop} {vs : List Int} {p g x : Int} (hw : Told vs p g) (h0 : 0 ≤ x) (k : R (.int (valAt vs p g x)) M) : S_value_at [toldD vs p g, .int x] M R := ⟨vs, p, g, x, rfl, hw, h0, k⟩
theorem w_Pattern_at {M : Ms} {R : DV → Ms → Prop} {vs : List Int} {p g x : Int} (hw : Told vs p g) (h0 : 0 ≤ x) (k : R (.int (valAt vs p g x)) M) : S_Pattern_at A [patD A vs p g, .int x] M R := ⟨vs, p, g, x, rfl, hw, h0, k⟩
theorem w_check_pattern {M : Ms} {R : DV → Ms → Prop} {vs : List Int} {p g : Int} (k : R .non M) : S_check_pattern A [patD A vs p g] M R := ⟨vs, p, g, rfl, k⟩
local macro_rules | `(tactic| walk_at "told") => `(tactic| first | assumption | exact PatOk.told (by assumption))
local macro_rules | `(tactic| walk_at "st_evr") => `(tactic| ((with_reducible show EvR _ (tMake _ _ _ _ _) _ _ _); refine' evr_mkpat ?_))
local macro_rules | `(tactic| walk_at "spc") => `(tactic| first
  | ((with_reducible refine' w_mkpat ?aa ?_); (case' aa => try assumption))
  | ((with_reducible refine' w_value_at ?aa ?bb ?_); (case' aa => try walk_at "told"); (case' bb => try omega))
  | ((with_reducible refine' w_Pattern_at ?aa ?bb ?_); (case' aa => try walk_at "told"); (case' bb => try omega))
  | (with_reducible refine' w_check_pattern ?_))
theorem fs_told {vs : List Int} {p g : Int} (h : PatOk vs p g) : Fs (toldD vs p g) 2 104 := by
  have h1 := h.l2; have h2 := h.p1; have h3 := h.p2; have h4 := h.g1; have h5 := h.g2
  exact (Fs.tup (FsA.cons (Fs.tup (FsA.ints (fun n hn => by have := h.hv n hn; omega) (by omega))) (FsA.cons (Fs.int ⟨by omega, by omega⟩) (FsA.cons (Fs.int ⟨by omega, by omega⟩) FsA.nil)))).le (by decide) (by decide)
local macro_rules | `(tactic| walk_at "fit2") => `(tactic| exact fs_told (by assumption))
theorem rv_told0 {M : Ms} {vs : List Int} {p g : Int} : RV K (rIx K) (toldD vs p g) (.int 0) M (.tup (vs.map .int)) := rv_ixT rfl
theorem rv_told1 {M : Ms} {vs : List Int} {p g : Int} : RV K (rIx K) (toldD vs p g) (.int 1) M (.int p) := rv_ixT rfl
theorem rv_told2 {M : Ms} {vs : List Int} {p g : Int} : RV K (rIx K) (toldD vs p g) (.int 2) M (.int g) := rv_ixT rfl
theorem bd_told {gs : TGs} {ρ : Rho} {M : Ms} {vs : List Int} {p g : Int} {R : Rho → Ms → Prop} (h : BdGs K gs ρ M [.tup (vs.map .int), .int p, .int g] R) : BdG K (gTup K 3 gs) ρ M (toldD vs p g) R := bd_tup h rfl
local macro_rules | `(tactic| walk_at "st_rv") => `(tactic| first | (with_reducible refine' RV.go rv_told0 ?_) | (with_reducible refine' RV.go rv_told1 ?_) | (with_reducible refine' RV.go rv_told2 ?_))
local macro_rules | `(tactic| walk_at "st") => `(tactic| (with_reducible refine' bd_told ?_))

/-! ### the law's jug -/
def JugOk (ds : List DV) : Prop := ∃ a b c : Int, ds = [.int a, .int b, .int c] ∧ 0 ≤ b ∧ 0 ≤ c
abbrev jugO : MO := .lstP JugOk
theorem mem_ix {α : Type} {l : List α} {x : α} (h : x ∈ l) : ∃ i : Nat, l[i]? = some x := List.mem_iff_getElem?.mp h
theorem set_get {i : Nat} {M : Ms} {c x : Addr × MO} (h : M[i]? = some c) : (M.set i x)[i]? = some x := List.getElem?_set_self (List.getElem?_eq_some_iff.mp h).1
theorem set_back {i : Nat} {M : Ms} {c x : Addr × MO} (h : M[i]? = some c) : (M.set i x).set i c = M := by
  rw [List.set_set]
  refine List.ext_getElem? fun j => ?_
  rw [List.getElem?_set]
  split
  · rename_i e; subst e; rw [if_pos (List.getElem?_eq_some_iff.mp h).1, h]
  · rfl
/-- many, from 1 on: a number below many -/
def S_pour : SpecD := fun ds M R => ∃ (j : Addr) (n : Int), ds = [.raw (.ref j), .int n] ∧ (j, jugO) ∈ M ∧ 0 < n ∧ n < 1073741824 ∧ ∀ r : Int, 0 ≤ r → r < n → R (.int r) M
theorem ok__law_pour (T : Tx K mg A) : FnOk P w K mg base CX0 1 A.f__law_pour A.d__law_pour ["jug", "many"] (spD K S_pour) := by
  refine fnD T.F__law_pour sc__law_pour (fun ds M R h => by obtain ⟨j, n, rfl, _⟩ := h; rfl) fun cdv B up z H E hr ds M R h => ?_
  obtain ⟨j, n, rfl, hm, h0, h1, hR⟩ := h
  obtain ⟨i, hi⟩ := mem_ix hm
  refine ⟨_, (pss_cons (ps_asg (pe_op (wAdd K rfl) (pe_ix (wIx K rfl) (pv 0) pe_int (fun _ _ => rfl)) pe_int) (pg_sub (pv 0) pe_int set_list)) (pss_cons (ps_if (pt_cmpR op_gt (pe_ix (wIx K rfl) (pv 0) pe_int (fun _ _ => rfl)) pe_int (nomark _)) (pss_cons (ps_asg (pe_callB wDivmod (by rfl) T.n_divmod (by decide +kernel) (pa_cons (pe_callTy wInt (by rfl) T.n_int (by decide +kernel) (pa_cons (pe_ix (wIx K rfl) (pv 0) pe_int (fun _ _ => rfl)) pa_nil)) (pa_cons (pv 1) pa_nil))) (wTupG K rfl (pg_tup rfl (pgs_cons (pg_sub (pv 0) pe_int set_list) (pgs_cons (pg_name (i := 2) sc__law_pour.nd rfl (.inl rfl)) pgs_nil))))) (pss_one (ps_ret (pv 2)))) pss_nil) (pss_cons (ps_asg (pe_op op_mod (pe_callTy wInt (by rfl) T.n_int (by decide +kernel) (pa_cons (pe_op (wAdd K rfl) (pe_op (wAdd K rfl) (pe_op (wMul K rfl) (pe_ix (wIx K rfl) (pv 0) pe_int (fun _ _ => rfl)) pe_int) (pe_op (wMul K rfl) (pe_ix (wIx K rfl) (pv 0) pe_int (fun _ _ => rfl)) pe_int)) (pe_op (wMul K rfl) (pe_op op_fdiv (pe_ix (wIx K rfl) (pv 0) pe_int (fun _ _ => rfl)) pe_int) pe_int)) pa_nil)) pe_int) (pg_sub (pv 0) pe_int set_list)) (pss_one (ps_ret (pe_op op_mod (pe_callTy wInt (by rfl) T.n_int (by decide +kernel) (pa_cons (pe_op op_fdiv (pe_ix (wIx K rfl) (pv 0) pe_int (fun _ _ => rfl)) pe_int) pa_nil)) (pv 1))))))), ?_⟩
  refine xs_op hi fun ds hp => ?_
  obtain ⟨a, b, c, rfl, hb, hc⟩ := hp
  have hg : ∀ o, (M.set i (j, o))[i]? = some (j, o) := fun o => set_get hi
  have hmm : ∀ o, (j, o) ∈ M.set i (j, o) := fun o => List.mem_of_getElem? (hg o)
  have fin : ∀ (r : Int) (ds : List DV), JugOk ds → 0 ≤ r → r < n → ∃ ds', (M.set i (j, MO.lst ds))[i]? = some (j, MO.lst ds') ∧ JugOk ds' ∧ R (.int r) ((M.set i (j, MO.lst ds)).set i (j, jugO)) := fun r ds hd r0 r1 => ⟨ds, hg _, hd, by rw [set_back hi]; exact hR r r0 r1⟩
  -- jug[0] = jug[0] + 2
  refine xs_seq (xs_asg ((ev_op (ev_op (ev_var rfl) ev_cI (rv_ixC (ds := [.int a, .int b, .int c]) (hmm _) rfl)) ev_cI rv_add).go (bd_subL (i := i) (a := j) (xs := [.int a, .int b, .int c]) (Ev.go (ev_var rfl) ⟨rfl, Ev.go ev_cI ⟨0, 0, rfl, hg _, rfl, ?_⟩⟩))))
  rw [List.set_set]
  show XS K _ _ (M.set i (j, MO.lst [.int (a + 2), .int b, .int c])) _
  have rd : ∀ k : Int, ∀ d, atI [DV.int (a + 2), .int b, .int c] k = some d → ∀ {ρ : Rho}, ρ[0]? = some (some (.raw (.ref j))) → Ev K (tOp (rIx K) (tVar 0) (tC (.int k))) ρ (M.set i (j, MO.lst [.int (a + 2), .int b, .int c])) d := fun k d h ρ hρ => ev_op (ev_var hρ) ev_cI (rv_ixC (hmm _) h)
  refine xs_whenE (et_test (ev_op (rd 1 (.int b) rfl rfl) ev_cI rv_B0)) (fun hb' => ?_) fun _ => ?_
  · -- jug[1], digit = divmod(..); return digit
    refine xs_seq (xs_asg ((ev_cb (ea_cons (ev_cb (ea_cons (rd 1 (.int b) rfl rfl) ea_nil) rc_int) (ea_cons (ev_var rfl) ea_nil)) (rc_divmod ⟨h0, h1⟩)).go (bd_tup (bds_cons (bd_subL (i := i) (a := j) (xs := [.int (a + 2), .int b, .int c]) (Ev.go (ev_var rfl) ⟨rfl, Ev.go ev_cI ⟨1, 1, rfl, hg _, rfl, bds_nm (bds_nil ?_)⟩⟩))) rfl)))
    rw [List.set_set]
    refine xs_ret (evr_cl (i := i) (a := j) (p := JugOk) (Ev.go (ev_var rfl) (fin _ _ ⟨_, _, _, rfl, ?_, hc⟩ ?_ ?_)))
    · exact Int.ediv_nonneg hb (by omega)
    · exact Int.emod_nonneg b (by omega)
    · exact Int.emod_lt_of_pos b h0
  · -- jug[2] = ..
    refine xs_seq (xs_asg (Ev.go (ev_op (ev_cb (ea_cons (ev_op (ev_op (ev_op (rd 2 (.int c) rfl rfl) ev_cI (rv_mul (.inr (by decide)))) (ev_op (rd 0 (.int (a + 2)) rfl rfl) ev_cI (rv_mul (.inr (by decide)))) rv_add) (ev_op (ev_op (rd 2 (.int c) rfl rfl) ev_cI (rv_I (by show CDiv _ _; exact ⟨by decide, by decide⟩))) ev_cI (rv_mul (.inr (by decide)))) rv_add) ea_nil) rc_int) ev_cI (rv_I (by decide)))
      (bd_subL (i := i) (a := j) (xs := [.int (a + 2), .int b, .int c]) (Ev.go (ev_var rfl) ⟨rfl, Ev.go ev_cI ⟨2, 2, rfl, hg _, rfl, ?_⟩⟩))))
    rw [List.set_set]
    generalize hc' : (c * 48029 + (a + 2) * 70003 + c / 9001 * 61) % 1999999529 = c'
    have hc0 : 0 ≤ c' := by rw [← hc']; exact Int.emod_nonneg _ (by decide)
    show XS K _ _ (M.set i (j, MO.lst [.int (a + 2), .int b, .int c'])) _
    refine xs_ret (evr_cl (i := i) (a := j) (p := JugOk) (Ev.go (ev_op (ev_cb (ea_cons (ev_op (ev_op (ev_var rfl) ev_cI (rv_ixC (hmm _) rfl)) ev_cI (rv_I (by show CDiv _ _; exact ⟨by decide, by decide⟩))) ea_nil) rc_int) (ev_var rfl) (rv_I h0)) (fin _ _ ⟨_, _, _, rfl, hb, hc0⟩ ?_ ?_)))
    · exact Int.emod_nonneg _ (by omega)
    · exact Int.emod_lt_of_pos _ h0
section
variable {ρ : Rho} {M : Ms} {i : Nat} {j : Addr} {te : TE} {R : DV → Ms → Prop}
theorem evr_pour {n : Int} (hj : ρ[i]? = some (some (.raw (.ref j)))) (hm : (j, jugO) ∈ M) (he : Ev K te ρ M (.int n)) (h0 : 0 < n) (h1 : n < 1073741824) (k : ∀ r : Int, 0 ≤ r → r < n → R (.int r) M) : EvR K (tCall (spD K S_pour) [] E0 (tCons (tVar i) (tCons te tNil))) ρ M R :=
  evr_call ((ea_cons (ev_var hj) (ea_cons he ea_nil)).go ⟨j, n, rfl, hm, h0, h1, k⟩)
/-- any one of the things -/
def S_one : SpecD := fun ds M R => ∃ (j : Addr) (xs : List DV), ds = [.raw (.ref j), .lst xs] ∧ (j, jugO) ∈ M ∧ 0 < xs.length ∧ xs.length < 1000 ∧ ∀ d, d ∈ xs → R d M
theorem ok__law_one (T : Tx K mg A) : FnOk P w K mg base CX0 2 A.f__law_one A.d__law_one ["jug", "things"] (spD K S_one) := by
  refine fnD T.F__law_one sc__law_one (fun ds M R h => by obtain ⟨j, xs, rfl, _⟩ := h; rfl) fun cdv B up z H E hr ds M R h => ?_
  obtain ⟨j, xs, rfl, hm, h0, h1, hR⟩ := h
  refine ⟨_, (pss_one (ps_ret (pe_ix (wIx K rfl) (pv 1) (pe_call (ok__law_pour T) (hr.mono (by decide)) (by rfl) T.g__law_pour T.F__law_pour.kp (b__law_pour T) .nil pass0 (pa_cons (pv 0) (pa_cons (pe_callB (wLen K rfl) (by rfl) T.n_len PySem.boot_len (pa_cons (pv 1) pa_nil)) pa_nil))) (fun _ _ => rfl)))), ?_⟩
  refine xs_ret (evr_op (Ev.go (ev_var rfl) (evr_pour rfl hm (n := xs.length) (by walk_at "ev") (by omega) (by omega) fun r r0 r1 => ?_)))
  obtain ⟨d, hd⟩ : ∃ d, xs[r.toNat]? = some d := ⟨_, List.getElem?_eq_getElem (show r.toNat < xs.length by omega)⟩
  have e : atI xs ((r.toNat : Nat) : Int) = some d := atI_nat hd
  rw [show ((r.toNat : Nat) : Int) = r by omega] at e
  exact (rv_ixL e).go (hR d (List.mem_of_getElem? hd))
theorem evr_one {xs : List DV} (hj : ρ[i]? = some (some (.raw (.ref j)))) (hm : (j, jugO) ∈ M) (he : Ev K te ρ M (.lst xs)) (h0 : 0 < xs.length) (h1 : xs.length < 1000) (k : ∀ d, d ∈ xs → R d M) : EvR K (tCall (spD K S_one) [] E0 (tCons (tVar i) (tCons te tNil))) ρ M R :=
  evr_call ((ea_cons (ev_var hj) (ea_cons he ea_nil)).go ⟨j, xs, rfl, hm, h0, h1, k⟩)
end
/-- a new jug -/
def S_jug : SpecD := fun ds M R => ∃ (ns : List Int) (k : Int), ds = [.rd (ns.map .int), .int k] ∧ 0 ≤ k ∧ ns.length ≤ 63 ∧ ∀ p : Addr, R (.raw (.ref p)) ((p, jugO) :: M)
theorem cut_ints {ns : List Int} {lo hi : Option Int} : ∃ ms : List Int, cutL (ns.map DV.int) lo hi = ms.map .int := by
  unfold cutL
  rw [← List.map_drop, ← List.map_take]
  exact ⟨_, rfl⟩
theorem ok__law_jug (T : Tx K mg A) : FnOk P w K mg base CX0 1 A.f__law_jug A.d__law_jug ["script", "k"] (spD K S_jug) := by
  refine fnD T.F__law_jug sc__law_jug (fun ds M R h => by obtain ⟨ns, k, rfl, _⟩ := h; rfl) fun cdv B up z H E hr ds M R h => ?_
  obtain ⟨ns, k, rfl, h0, h1, hR⟩ := h
  refine ⟨_, (pss_cons (ps_set (i := 2) sc__law_jug.nd rfl (.inl rfl) (pe_ifExp (pt_cmpR op_lt (pv 1) (pe_callB (wLen K rfl) (by rfl) T.n_len PySem.boot_len (pa_cons (pv 0) pa_nil)) (nomark _)) (pe_callTy wInt (by rfl) T.n_int (by decide +kernel) (pa_cons (pe_ix (wIx K rfl) (pv 0) (pv 1) (fun _ _ => rfl)) pa_nil)) (pe_op (wAdd K rfl) (pe_op (wMul K rfl) pe_int (pv 1)) pe_int))) (pss_cons (ps_set (i := 3) sc__law_jug.nd rfl (.inl rfl) (pe_op (wAdd K rfl) pe_int (pe_op (wMul K rfl) pe_int (pv 1)))) (pss_cons (ps_for PassesOwn.never rfl (wList K rfl (pe_slice (wSl K rfl) (pv 0) po_none (po_some pe_int))) (pg_name (i := 4) sc__law_jug.nd rfl (.inl rfl)) (pss_one (ps_set (i := 3) sc__law_jug.nd rfl (.inl rfl) (pe_op op_mod (pe_callTy wInt (by rfl) T.n_int (by decide +kernel) (pa_cons (pe_op (wAdd K rfl) (pe_op (wMul K rfl) (pv 3) pe_int) (pe_op op_mod (pe_callTy wInt (by rfl) T.n_int (by decide +kernel) (pa_cons (pv 4) pa_nil)) pe_int)) pa_nil)) pe_int)))) (pss_one (ps_ret (pe_lst (pa_cons pe_int (pa_cons (pe_ifExp (PW.pt (pw_or (pt_cmpR op_lt (pv 2) pe_int (nomark _)) (pw_or1 (pt_cmpR op_ge (pv 2) (pe_op op_pow pe_int pe_int) (nomark _))))) (pe_callB wAbs (by rfl) T.n_abs (by decide +kernel) (pa_cons (pv 2) pa_nil)) pe_int) (pa_cons (pe_op op_mod (pe_callTy wInt (by rfl) T.n_int (by decide +kernel) (pa_cons (pe_op (wAdd K rfl) (pe_op (wMul K rfl) (pv 3) pe_int) (pe_op op_mod (pv 2) pe_int)) pa_nil)) pe_int) pa_nil))))))))), ?_⟩
  refine xs_cut (fun ρ' M' => M' = M ∧ ∃ o : Int, ρ' = [some (.rd (ns.map .int)), some (.int k), some (.int o), none, none]) (xs_asg (evr_if (EvT.go (et_test (ev_op (ev_var rfl) (by walk_at "ev") rv_B0)) ?_))) fun ρ' M' h => ?_
  · split
    · rename_i hb
      have hk : k < ns.length := by have := of_decide_eq_true hb; rw [List.length_map] at this; exact this
      exact Ev.go (ev_cb (ea_cons (ev_op (ev_var rfl) (ev_var rfl) (rv_ixR (atI_ints h0 hk))) ea_nil) rc_int) (bd_name ⟨rfl, _, rfl⟩)
    · exact Ev.go (by walk_at "ev") (bd_name ⟨rfl, _, rfl⟩)
  obtain ⟨rfl, o, rfl⟩ := h
  refine xs_setE (by walk_at "ev") ?_
  obtain ⟨ms, hms⟩ := cut_ints (ns := ns) (lo := none) (hi := some 15)
  refine xs_seq (xs_for (ei_lst (ds := ms.map .int) (RM := fun M'' => M'' = M') (Ev.go (Ev.is (by walk_at "ev") (congrArg DV.lst hms)) ⟨rfl, rfl⟩)) (fun i ρ M'' => M'' = M' ∧ ∃ (m : Int) (e : Option DV), ρ = [some (.rd (ns.map .int)), some (.int k), some (.int o), some (.int m), e])
    (fun M'' e => ⟨e, _, none, rfl⟩) (fun _ _ _ _ _ c hc => nomatch hc) (fun i ρ M'' hlt hinv => ?_) fun ρ M'' hinv => ?_)
  · obtain ⟨rfl, m, e, rfl⟩ := hinv
    obtain ⟨v, hv⟩ : ∃ v, nth (ms.map DV.int) i = .int v := by
      rw [List.length_map] at hlt
      exact ⟨_, nth_of (by rw [List.getElem?_map, List.getElem?_eq_getElem hlt]; rfl)⟩
    rw [hv]
    refine bd_name (xs_set (by walk_at "ev") ⟨rfl, _, _, rfl⟩)
  · obtain ⟨rfl, m, e, rfl⟩ := hinv
    have hor : ∀ {ρ : Rho}, ρ[2]? = some (some (.int o)) → ∃ b : Bool, EvT K (tOr (tTest (tOp (rI0 fun i j => .bl (decide (i < j))) (tVar 2) (tC (.int 0)))) (tTest (tOp (rI0 fun i j => .bl (decide (j ≤ i))) (tVar 2) (tOp (rI CPow fun i j => .int (i ^ j.toNat)) (tC (.int 10)) (tC (.int 14)))))) ρ M'' b := fun {ρ} h2 =>
      ⟨_, et_or (et_test (ev_op (ev_var h2) ev_cI rv_B0)) fun _ => et_test (ev_op (ev_var h2) (ev_op ev_cI ev_cI (rv_I (by show CPow 10 14; exact ⟨by decide, by decide, by decide⟩))) rv_B0)⟩
    obtain ⟨b, hb⟩ := hor (ρ := [some (.rd (ns.map .int)), some (.int k), some (.int o), some (.int m), e]) rfl
    refine xs_ret (evr_clN (p := JugOk) (evr_lstC (ear_cons (Ev.go ev_cI (ear_cons (evr_if (hb.go ?_)))))))
    have last : ∀ c : Int, 0 ≤ c → EvAR K (tCons (tOp (rI (fun _ j => 0 < j) fun i j => .int (i % j)) (tCB rInt1 (tCons (tOp (rAddU K) (tOp (rMulU K) (tVar 3) (tC (.int 41))) (tOp (rI (fun _ j => 0 < j) fun i j => .int (i % j)) (tVar 2) (tC (.int 1999999529)))) tNil)) (tC (.int 1999999529))) tNil) [some (.rd (ns.map .int)), some (.int k), some (.int o), some (.int m), e] M'' fun ds M2 => (DV.int 3 :: DV.int c :: ds).length ≤ 100000 ∧ ∀ p : Addr, ∃ (a : Addr) (ds' : List DV) (M3 : Ms), ((p, MO.lst (DV.int 3 :: DV.int c :: ds)) :: M2) = (a, .lst ds') :: M3 ∧ JugOk ds' ∧ R (.raw (.ref p)) ((a, jugO) :: M3) := fun c hc =>
      EvA.go (by walk_at "ea") ⟨by simp, fun p => ⟨p, _, _, rfl, ⟨_, _, _, rfl, hc, Int.emod_nonneg _ (by decide)⟩, hR p⟩⟩
    split
    · exact Ev.go (ev_cb (ea_cons (ev_var rfl) ea_nil) rc_abs) (last _ (by split <;> omega))
    · exact Ev.go ev_cI (last _ (by omega))

theorem w_pour {M : Ms} {R : DV → Ms → Prop} {j : Addr} {n : Int} (hm : (j, jugO) ∈ M) (h0 : 0 < n) (h1 : n < 1073741824) (k : ∀ r : Int, 0 ≤ r → r < n → R (.int r) M) : S_pour [.raw (.ref j), .int n] M R := ⟨j, n, rfl, hm, h0, h1, k⟩
theorem w_one {M : Ms} {R : DV → Ms → Prop} {j : Addr} {xs : List DV} (hm : (j, jugO) ∈ M) (h0 : 0 < xs.length) (h1 : xs.length < 1000) (k : ∀ d, d ∈ xs → R d M) : S_one [.raw (.ref j), .lst xs] M R := ⟨j, xs, rfl, hm, h0, h1, k⟩

/-! ### falls and bars -/
theorem valAt_told {vs : List Int} {p g : Int} (h : PatOk vs p g) : Told vs p g := h.told
theorem sp_at {vs : List Int} {p g x : Int} {M : Ms} (h : PatOk vs p g) (h0 : 0 ≤ x) : S_Pattern_at A [patD A vs p g, .int x] M fun d' M' => d' = .int (valAt vs p g x) ∧ M' = M := sp_Pattern_at h.told h0
/-- pattern.at(e) -/
theorem ev_at {ρ : Rho} {M : Ms} {vs : List Int} {p g x : Int} {i : Nat} {te : TE} (h : PatOk vs p g) (h0 : 0 ≤ x) (hi : ρ[i]? = some (some (patD A vs p g))) (he : Ev K te ρ M (.int x)) : Ev K (tMeth A.C_Pattern "at" (spD K (S_Pattern_at A)) [] E0 (tVar i) (tCons te tNil)) ρ M (.int (valAt vs p g x)) :=
  ev_meth (ev_var hi) pat_at (ea_cons he ea_nil) (sp_at h h0)

/-! ### drawn patterns -/
theorem ok__law_at (T : Tx K mg A) : FnOk P w K mg base CX0 1 A.f__law_at A.d__law_at ["form", "x"] (spD K S_value_at) := by
  refine fnD T.F__law_at sc__law_at (fun ds M R h => by obtain ⟨vs, p, g, x, rfl, _⟩ := h; rfl) fun cdv B up z H E hr ds M R h => ?_
  obtain ⟨vs, p, g, x, rfl, hw, h0, hR⟩ := h
  obtain ⟨hp1, hp2, hl, hg⟩ := hw
  refine ⟨_, (pss_cons (ps_asg (pv 0) (wTupG K rfl (pg_tup rfl (pgs_cons (pg_name (i := 2) sc__law_at.nd rfl (.inl rfl)) (pgs_cons (pg_name (i := 3) sc__law_at.nd rfl (.inl rfl)) (pgs_cons (pg_name (i := 4) sc__law_at.nd rfl (.inl rfl)) pgs_nil)))))) (pss_cons (ps_if (pt_cmpR op_lt (pv 1) (pe_callB (wLen K rfl) (by rfl) T.n_len PySem.boot_len (pa_cons (pv 2) pa_nil)) (nomark _)) (pss_one (ps_ret (pe_ix (wIx K rfl) (pv 2) (pv 1) (fun _ _ => rfl)))) pss_nil) (pss_cons (ps_set (i := 5) sc__law_at.nd rfl (.inl rfl) (pe_op (wAdd K rfl) (pe_op op_fdiv (pe_callTy wInt (by rfl) T.n_int (by decide +kernel) (pa_cons (pe_op op_sub (pv 1) (pe_callB (wLen K rfl) (by rfl) T.n_len PySem.boot_len (pa_cons (pv 2) pa_nil))) pa_nil)) (pv 3)) pe_int)) (pss_one (ps_ret (pe_op (wAdd K rfl) (pe_ix (wIx K rfl) (pv 2) (pe_op op_sub (pv 1) (pe_op (wMul K rfl) (pv 5) (pv 3))) (fun _ _ => rfl)) (pe_op (wMul K rfl) (pv 5) (pv 4)))))))), ?_⟩
  refine xs_unpackE (ds := [.tup (vs.map .int), .int p, .int g]) (ev_var rfl) rfl (bds_nm (bds_nm (bds_nm (bds_nil ?_))))
  refine xs_whenE (b := decide (x < vs.length)) (EvT.is (by walk_at "et") (by rw [List.length_map])) (fun hb => ?_) fun hb => ?_
  · have hx : x < vs.length := of_decide_eq_true hb
    refine xs_retE (ev_op (ev_var rfl) (ev_var rfl) (rv_ixT (atI_ints h0 hx))) ?_
    unfold valAt at hR
    rw [if_pos hx] at hR
    exact hR
  · have hx : ¬ x < vs.length := of_decide_eq_false hb
    have hr2 := round_lo hp1 hp2 (show (vs.length : Int) ≤ x by omega)
    refine xs_setE (d := .int ((x - vs.length) / p + 1)) (Ev.is (by walk_at "ev") (by rw [List.length_map])) ?_
    refine xs_retE (ev_op (ev_op (ev_var rfl) (ev_op (ev_var rfl) (ev_op (ev_var rfl) (ev_var rfl) (rv_mul (.inr (by omega)))) rv_I0) (rv_ixT (atI_ints hr2.1 hr2.2))) (ev_op (ev_var rfl) (ev_var rfl) (rv_mul (.inr hg))) rv_add) ?_
    unfold valAt at hR
    rw [if_neg hx] at hR
    exact hR
theorem atI_neg1 {vs : List Int} (h : 0 < vs.length) : atI (vs.map DV.int) (-1) = some (.int (vs.getD (vs.length - 1) 0)) := by
  have e : vs = vs.dropLast ++ [vs.getD (vs.length - 1) 0] := by
    have h0 : vs ≠ [] := fun z => by subst z; simp at h
    have : vs.getLast h0 = vs.getD (vs.length - 1) 0 := by rw [List.getLast_eq_getElem, List.getD_eq_getElem?_getD, List.getElem?_eq_getElem (by omega)]; rfl
    rw [← this, List.dropLast_concat_getLast]
  have := atI_last (vs.dropLast.map DV.int) (DV.int (vs.getD (vs.length - 1) 0))
  rw [← List.map_singleton, ← List.map_append, ← e] at this
  exact this
theorem getD_mem {vs : List Int} {i : Nat} (h : i < vs.length) : vs.getD i 0 ∈ vs := List.mem_of_getElem? (getD_get h)

/-! ### the mathematics of patterns -/
theorem valAt_per {vs : List Int} {p g x : Int} (hp : 1 ≤ p) (hl : p ≤ vs.length) (hx : (vs.length : Int) ≤ x) : valAt vs p g x = valAt vs p g (x - p) + g := by
  unfold valAt
  rw [if_neg (show ¬ x < vs.length by omega)]
  by_cases h : x - p < vs.length
  · rw [if_pos h]
    have e : (x - vs.length) / p = 0 := Int.ediv_eq_zero_of_lt (by omega) (by omega)
    rw [e, Int.zero_add, Int.one_mul, Int.one_mul]
  · rw [if_neg h]
    have e : (x - p - vs.length) / p = (x - vs.length) / p - 1 := by
      rw [show x - p - (vs.length : Int) = (x - vs.length) + (-1) * p by omega, Int.add_mul_ediv_right _ _ (show p ≠ 0 by omega)]
      omega
    rw [e]
    generalize (x - vs.length) / p = q
    have e0 : q - 1 + 1 = q := by omega
    have e1 : x - p - q * p = x - (q + 1) * p := by rw [Int.add_mul q 1 p, Int.one_mul]; omega
    have e2 : (q + 1) * g = q * g + g := by rw [Int.add_mul q 1 g, Int.one_mul]
    rw [e0, e1, e2]
    omega

/-! ### values stay small -/
theorem getD_bound {vs : List Int} {n : Nat} (hv : ∀ v ∈ vs, 0 ≤ v ∧ v ≤ 1000000) : 0 ≤ vs.getD n 0 ∧ vs.getD n 0 ≤ 1000000 := by
  by_cases h : n < vs.length
  · exact hv _ (getD_mem h)
  · rw [List.getD_eq_getElem?_getD, List.getElem?_eq_none (by omega)]; exact ⟨by decide, by decide⟩
/-- values stay small -/
theorem valAt_small {vs : List Int} {p g x : Int} (h : PatOk vs p g) (h0 : 0 ≤ x) (h1 : x ≤ 3000000) : 0 ≤ valAt vs p g x ∧ valAt vs p g x ≤ 10 ^ 14 := by
  unfold valAt
  split
  · have := getD_bound (n := x.toNat) h.hv; omega
  · rename_i hx
    have hl1 := h.l1
    have hp1 := h.p1
    have hq0 : 0 ≤ (x - vs.length) / p := Int.ediv_nonneg (by omega) (by omega)
    have hq1 : (x - vs.length) / p ≤ x - vs.length := Int.ediv_le_self _ (by omega)
    have hg1 := h.g1
    have hg2 := h.g2
    have hb := getD_bound (n := (x - ((x - vs.length) / p + 1) * p).toNat) h.hv
    generalize (x - vs.length) / p = q at *
    have m0 : 0 ≤ (q + 1) * g := Int.mul_nonneg (by omega) hg1
    have m1 : (q + 1) * g ≤ 3000000 * 1000000 := Int.mul_le_mul (by omega) hg2 hg1 (by omega)
    omega

theorem find_yes {n i : Nat} {q : Nat → Bool} (hi : i < n) (h0 : ∀ j, j < i → q j = false) (h1 : q i = true) : (List.range n).find? q = some i := by
  rw [List.find?_range_eq_some]
  exact ⟨h1, by simpa using hi, fun j hj => by rw [h0 j hj]; rfl⟩
theorem find_no {n : Nat} {q : Nat → Bool} (h0 : ∀ j, j < n → q j = false) : (List.range n).find? q = none := by
  rw [List.find?_eq_none]
  intro x hx
  rw [h0 x (List.mem_range.mp hx)]; decide

/-- by how much two values are more than that of the sum -/
def exc (vs : List Int) (p g x y : Int) : Int := valAt vs p g x + valAt vs p g y - valAt vs p g (x + y)
def S_excess (A : Ad) : SpecD := fun ds M R => ∃ (vs : List Int) (p g x y : Int), ds = [patD A vs p g, .int x, .int y] ∧ PatOk vs p g ∧ 0 ≤ x ∧ 0 ≤ y ∧ R (.int (exc vs p g x y)) M
theorem sp_excess {vs : List Int} {p g x y : Int} {M : Ms} (h : PatOk vs p g) (hx : 0 ≤ x) (hy : 0 ≤ y) : S_excess A [patD A vs p g, .int x, .int y] M fun d' M' => d' = .int (exc vs p g x y) ∧ M' = M := ⟨vs, p, g, x, y, rfl, h, hx, hy, rfl, rfl⟩

/-- the smallest amount behind which it falls, below n -/
def fallIn (vs : List Int) (p g : Int) (n : Nat) : Option Nat := (List.range n).find? fun x => decide (valAt vs p g (x + 1) < valAt vs p g x)
def S_fall_of (A : Ad) : SpecD := fun ds M R => ∃ (vs : List Int) (p g : Int), ds = [patD A vs p g] ∧ PatOk vs p g ∧ R (optD (fallIn vs p g vs.length)) M
theorem ok_fall_of (T : Tx K mg A) : FnOk P w K mg base CX0 3 A.f_fall_of A.d_fall_of ["pattern"] (spD K (S_fall_of A)) := by
  refine fnD T.F_fall_of sc_fall_of (fun ds M R h => by obtain ⟨vs, p, g, rfl, _⟩ := h; rfl) fun cdv B up z H E hr ds M R h => ?_
  obtain ⟨vs, p, g, rfl, hp, hR⟩ := h
  refine ⟨_, (pss_cons (ps_for PassesOwn.never rfl (pi_range1 rfl T.n_range (pa_cons (pe_callB (wLen K rfl) (by rfl) T.n_len PySem.boot_len (pa_cons (wFld K rfl (pv 0) rfl) pa_nil)) pa_nil)) (pg_name (i := 1) sc_fall_of.nd rfl (.inl rfl)) (pss_one (ps_if (pt_cmpR op_lt (pe_meth (pv 0) T.cl_Pattern T.m_Pattern_at (ok_Pattern_at T) (hr.mono (by decide)) (b_Pattern_at T) .nil pass0 (pa_cons (pe_op (wAdd K rfl) (pv 1) pe_int) pa_nil)) (pe_meth (pv 0) T.cl_Pattern T.m_Pattern_at (ok_Pattern_at T) (hr.mono (by decide)) (b_Pattern_at T) .nil pass0 (pa_cons (pv 1) pa_nil)) (nomark _)) (pss_one (ps_ret (pv 1))) pss_nil))) (pss_one (ps_ret pe_non))), ?_⟩
  refine xs_seq (xs_for (ei_rng1 (j := vs.length) (RM := fun M' => M' = M) (EvA.go (ea_cons (Ev.is (d' := .int vs.length) (by walk_at "ev") (by rw [List.length_map])) ea_nil) ⟨rfl, rfl⟩) ⟨by omega, by have := hp.l2; omega⟩) (fun i ρ M' => M' = M ∧ (∃ a, ρ = [some (patD A vs p g), a]) ∧ ∀ j : Nat, j < i → decide (valAt vs p g (j + 1) < valAt vs p g j) = false)
    (fun M' e => ⟨e, ⟨none, rfl⟩, fun j h => absurd h (Nat.not_lt_zero _)⟩) (fun _ _ _ _ _ c hc => nomatch hc) (fun i ρ M' hlt hinv => ?_) fun ρ M' hinv => ?_)
  · obtain ⟨rfl, ⟨a, rfl⟩, hj⟩ := hinv
    refine bd_name ?_
    refine xs_if2 (et_test (ev_op (ev_at (x := (i : Int) + 1) hp (by omega) rfl (by walk_at "ev")) (ev_at (x := (i : Int)) hp (by omega) rfl (by walk_at "ev")) rv_B0)) (fun hb => ?_) (fun hb => ?_)
    · refine xs_retE (by walk_at "ev") ?_
      have e : fallIn vs p g vs.length = some i := find_yes (by simpa using hlt) hj hb
      rw [e] at hR; exact hR
    · refine xs_next ⟨rfl, ⟨_, rfl⟩, fun j h => ?_⟩
      by_cases e : j = i
      · subst e; exact hb
      · exact hj j (by omega)
  · obtain ⟨rfl, ⟨a, rfl⟩, hj⟩ := hinv
    refine xs_retE (by walk_at "ev") ?_
    have e : fallIn vs p g vs.length = none := find_no fun j h => hj j (by simpa using h)
    rw [e] at hR; exact hR
theorem sp_fall_of {vs : List Int} {p g : Int} {M : Ms} (h : PatOk vs p g) : S_fall_of A [patD A vs p g] M fun d' M' => d' = optD (fallIn vs p g vs.length) ∧ M' = M := ⟨vs, p, g, rfl, h, rfl, rfl⟩
/-- the first pair, by the sum and then by the first amount, for which q holds; sums below n -/
def firstPair (q : Nat → Nat → Bool) (n : Nat) : Option (Nat × Nat) := (List.range n).findSome? fun t => ((List.range (t / 2 + 1)).find? fun x => q x (t - x)).map fun x => (x, t - x)
def pairD : Option (Nat × Nat) → DV
  | none => .non
  | some (x, y) => .tup [.int x, .int y]
/-- the pair that bars, sums below n -/
def barIn (vs : List Int) (p g : Int) (n : Nat) : Option (Nat × Nat) := if 0 < valAt vs p g 0 then some (0, 0) else firstPair (fun x y => decide (0 < exc vs p g x y)) n
theorem findSome_range {α : Type} {f : Nat → Option α} {n i : Nat} {a : α} (hi : i < n) (h0 : ∀ j, j < i → f j = none) (h1 : f i = some a) : (List.range n).findSome? f = some a := by
  induction n with
  | zero => omega
  | succ n ih =>
    rw [List.range_succ, List.findSome?_append]
    by_cases e : i = n
    · subst e
      have : (List.range i).findSome? f = none := by
        rw [List.findSome?_eq_none_iff]
        intro x hx; exact h0 x (List.mem_range.mp hx)
      rw [this]; simp [h1]
    · rw [ih (by omega)]; rfl
theorem findSome_range_none {α : Type} {f : Nat → Option α} {n : Nat} (h0 : ∀ j, j < n → f j = none) : (List.range n).findSome? f = none := by
  rw [List.findSome?_eq_none_iff]
  intro x hx; exact h0 x (List.mem_range.mp hx)
def S_bar_of (A : Ad) : SpecD := fun ds M R => ∃ (vs : List Int) (p g : Int), ds = [patD A vs p g] ∧ PatOk vs p g ∧ R (pairD (barIn vs p g (2 * vs.length))) M
theorem sp_bar_of {vs : List Int} {p g : Int} {M : Ms} (h : PatOk vs p g) : S_bar_of A [patD A vs p g] M fun d' M' => d' = pairD (barIn vs p g (2 * vs.length)) ∧ M' = M := ⟨vs, p, g, rfl, h, rfl, rfl⟩
/-! ### falls and bars further on -/
theorem valAt_zero {vs : List Int} {p g : Int} (h : 1 ≤ vs.length) : valAt vs p g 0 = vs.getD 0 0 := by
  unfold valAt
  rw [if_pos (by omega)]
  rfl
section
variable {vs : List Int} {p g : Int}
/-- a fall further on is one before -/
theorem fall_back (hp : 1 ≤ p) (hl : p ≤ vs.length) : ∀ n x : Nat, x < n → valAt vs p g (x + 1) < valAt vs p g x → ∃ y : Nat, y < vs.length ∧ y ≤ x ∧ valAt vs p g (y + 1) < valAt vs p g y
  | 0, x, h, _ => by omega
  | n + 1, x, h, hf => by
    by_cases hx : x < vs.length
    · exact ⟨x, hx, Nat.le_refl _, hf⟩
    · have e1 := valAt_per (g := g) hp hl (show (vs.length : Int) ≤ x by omega)
      have e2 := valAt_per (g := g) hp hl (show (vs.length : Int) ≤ (x : Int) + 1 by omega)
      have c : (((x : Int) - p).toNat : Int) = (x : Int) - p := by omega
      obtain ⟨y, h1, h2, h3⟩ := fall_back hp hl n ((x : Int) - p).toNat (by omega) (by
        rw [c, show (x : Int) - p + 1 = (x : Int) + 1 - p by omega]
        omega)
      exact ⟨y, h1, by omega, h3⟩
theorem fallIn_more (hp : 1 ≤ p) (hl : p ≤ vs.length) {n : Nat} (hn : vs.length ≤ n) : fallIn vs p g n = fallIn vs p g vs.length := by
  cases e : fallIn vs p g vs.length with
  | some i =>
    obtain ⟨h1, h2, h3⟩ := List.find?_range_eq_some.mp e
    have h2 := List.mem_range.mp h2
    exact find_yes (by omega) (fun j hj => by have := h3 j hj; simpa using this) h1
  | none =>
    have h0 : ∀ j : Nat, j < vs.length → ¬ valAt vs p g (j + 1) < valAt vs p g j := fun j hj hf => by
      have := List.find?_eq_none.mp e j (List.mem_range.mpr hj)
      exact this (decide_eq_true hf)
    refine find_no fun j hj => decide_eq_false fun hf => ?_
    obtain ⟨y, h1, _, h3⟩ := fall_back hp hl (j + 1) j (by omega) hf
    exact h0 y h1 h3
theorem exc_comm {x y : Int} : exc vs p g x y = exc vs p g y x := by unfold exc; rw [Int.add_comm x y]; omega
/-- where parts give more, some with a sum below twice the values do -/
theorem exc_back (hp : 1 ≤ p) (hl : p ≤ vs.length) : ∀ n x y : Nat, x + y < n → 0 < exc vs p g x y → ∃ a b : Nat, a ≤ b ∧ a + b < 2 * vs.length ∧ a + b ≤ x + y ∧ 0 < exc vs p g a b
  | 0, x, y, h, _ => by omega
  | n + 1, x, y, h, hf => by
    by_cases hs : x + y < 2 * vs.length
    · by_cases hxy : x ≤ y
      · exact ⟨x, y, hxy, hs, Nat.le_refl _, hf⟩
      · exact ⟨y, x, by omega, by omega, by omega, by rw [exc_comm]; exact hf⟩
    · have step : ∀ u v : Nat, u + v < n + 1 → vs.length ≤ v → 0 < exc vs p g u v → ∃ a b : Nat, a ≤ b ∧ a + b < 2 * vs.length ∧ a + b ≤ u + v ∧ 0 < exc vs p g a b := fun u v hn hv hf => by
        have c : (((v : Int) - p).toNat : Int) = (v : Int) - p := by omega
        obtain ⟨a, b, h1, h2, h3, h4⟩ := exc_back hp hl n u ((v : Int) - p).toNat (by omega) (by
          have e1 := valAt_per (g := g) hp hl (show (vs.length : Int) ≤ v by omega)
          have e2 := valAt_per (g := g) hp hl (show (vs.length : Int) ≤ (u : Int) + v by omega)
          unfold exc at hf ⊢
          rw [c, show (u : Int) + ((v : Int) - p) = (u : Int) + v - p by omega]
          omega)
        exact ⟨a, b, h1, h2, by omega, h4⟩
      by_cases hxy : vs.length ≤ y
      · exact step x y h hxy hf
      · obtain ⟨a, b, h1, h2, h3, h4⟩ := step y x (by omega) (by omega) (by rw [exc_comm]; exact hf)
        exact ⟨a, b, h1, h2, by omega, h4⟩
theorem firstPair_some {q : Nat → Nat → Bool} {n x y : Nat} (h : firstPair q n = some (x, y)) : x + y < n ∧ q x y = true ∧ ∀ m, n ≤ m → firstPair q m = some (x, y) := by
  unfold firstPair at h
  obtain ⟨l1, t, l2, hl, ht, hn⟩ := List.findSome?_eq_some_iff.mp h
  have htn : t < n ∧ l1 = List.range t := by
    have h1 : (List.range n)[l1.length]? = some t := by rw [hl]; simp
    have h2 : l1.length < n := by have := (List.getElem?_eq_some_iff.mp h1).1; simpa using this
    rw [List.getElem?_range h2] at h1
    have e := Option.some.inj h1
    refine ⟨by omega, ?_⟩
    have : (List.range n).take l1.length = l1 := by rw [hl]; simp
    rw [← this, List.take_range, e]
    congr 1
    omega
  obtain ⟨ht1, hl1⟩ := htn
  cases hf : (List.range (t / 2 + 1)).find? fun x => q x (t - x) with
  | none => rw [hf] at ht; cases ht
  | some k =>
    rw [hf] at ht
    cases ht
    obtain ⟨k1, k2, k3⟩ := List.find?_range_eq_some.mp hf
    have k2 := List.mem_range.mp k2
    refine ⟨by omega, k1, fun m hm => ?_⟩
    unfold firstPair
    refine findSome_range (i := t) (by omega) (fun j hj => ?_) (by rw [hf]; rfl)
    exact hn j (by rw [hl1]; exact List.mem_range.mpr hj)
theorem firstPair_none {q : Nat → Nat → Bool} {n : Nat} (h : firstPair q n = none) {x y : Nat} (hxy : x ≤ y) (hs : x + y < n) : q x y = false := by
  unfold firstPair at h
  have h1 := List.findSome?_eq_none_iff.mp h (x + y) (List.mem_range.mpr hs)
  cases hf : (List.range ((x + y) / 2 + 1)).find? fun z => q z (x + y - z) with
  | some k => rw [hf] at h1; cases h1
  | none =>
    have := List.find?_eq_none.mp hf x (List.mem_range.mpr (by omega))
    rw [show x + y - x = y by omega] at this
    simpa using this
theorem barIn_more (hp : 1 ≤ p) (hl : p ≤ vs.length) {n : Nat} (hn : 2 * vs.length ≤ n) : barIn vs p g n = barIn vs p g (2 * vs.length) := by
  unfold barIn
  split
  · rfl
  · cases e : firstPair (fun x y => decide (0 < exc vs p g x y)) (2 * vs.length) with
    | some r => exact (firstPair_some e).2.2 n hn
    | none =>
      cases e2 : firstPair (fun x y => decide (0 < exc vs p g x y)) n with
      | none => rfl
      | some r =>
        obtain ⟨h1, h2, _⟩ := firstPair_some e2
        obtain ⟨a, b, k1, k2, _, k4⟩ := exc_back hp hl (r.1 + r.2 + 1) r.1 r.2 (by omega) (of_decide_eq_true h2)
        have := firstPair_none e k1 k2
        rw [decide_eq_true k4] at this
        cases this
/-- no bar, no overshoot -/
theorem no_bar (hp : 1 ≤ p) (hl : p ≤ vs.length) (h : barIn vs p g (2 * vs.length) = none) (x y : Nat) : exc vs p g x y ≤ 0 := by
  unfold barIn at h
  split at h
  · cases h
  · refine Int.not_lt.mp fun hf => ?_
    obtain ⟨a, b, k1, k2, _, k4⟩ := exc_back hp hl (x + y + 1) x y (by omega) hf
    have := firstPair_none h k1 k2
    rw [decide_eq_true k4] at this
    cases this
end

/-! ### the plain form: mathematics -/
/-- from t on, f goes on by c each q -/
def Per (f : Nat → Int) (t q : Nat) (c : Int) : Prop := ∀ x, t ≤ x → f (x + q) = f x + c
theorem Per.mul {f : Nat → Int} {t q : Nat} {c : Int} (h : Per f t q c) : ∀ k : Nat, Per f t (k * q) (k * c)
  | 0 => fun x _ => by simp
  | k + 1 => fun x hx => by
    have e : x + (k + 1) * q = (x + k * q) + q := by rw [Nat.add_mul, Nat.one_mul, Nat.add_assoc]
    have e2 : ((k + 1 : Nat) : Int) * c = k * c + c := by rw [Int.natCast_add, Int.add_mul]; simp
    rw [e, e2, h _ (by omega), Per.mul h k x hx]
    omega
theorem Per.later {f : Nat → Int} {t u q : Nat} {c : Int} (h : Per f t q c) (hu : t ≤ u) : Per f u q c := fun x hx => h x (by omega)
/-- a period that holds somewhere holds from where another one does -/
theorem Per.down {f : Nat → Int} {t u q d : Nat} {c e : Int} (h : Per f t q c) (hq : 1 ≤ q) (g : Per f u d e) : Per f t d e := fun x hx => by
  have h1 := h.mul u x hx
  have h2 := h.mul u (x + d) (by omega)
  have hk : u ≤ u * q := Nat.le_mul_of_pos_right u hq
  have h3 := g (x + u * q) (by omega)
  have e1 : x + d + u * q = x + u * q + d := by omega
  rw [e1] at h2
  omega
theorem Per.sub {f : Nat → Int} {t p q : Nat} {c e : Int} (h : Per f t p c) (g : Per f t q e) (hpq : q ≤ p) : Per f t (p - q) (c - e) := fun x hx => by
  have h1 := h x hx
  have h2 := g (x + (p - q)) (by omega)
  rw [show x + (p - q) + q = x + p by omega] at h2
  omega
theorem Per.gcd {f : Nat → Int} {t : Nat} : ∀ n p q : Nat, p + q ≤ n → 1 ≤ p → 1 ≤ q → ∀ c e, Per f t p c → Per f t q e → ∃ i, Per f t (Nat.gcd p q) i
  | 0, p, q, h, hp, _ => by omega
  | n + 1, p, q, h, hp, hq => fun c e P Q => by
    by_cases e1 : p = q
    · subst e1; rw [Nat.gcd_self]; exact ⟨_, P⟩
    · by_cases lt : q < p
      · obtain ⟨i, hi⟩ := Per.gcd n (p - q) q (by omega) (by omega) hq _ _ (P.sub Q (by omega)) Q
        refine ⟨i, ?_⟩
        rw [Nat.gcd_sub_self_left (by omega)] at hi
        exact hi
      · obtain ⟨i, hi⟩ := Per.gcd n p (q - p) (by omega) hp (by omega) _ _ P (Q.sub P (by omega))
        refine ⟨i, ?_⟩
        rw [Nat.gcd_sub_self_right (by omega)] at hi
        exact hi
/-- the plain form of f: values before t + q, the period q, the gain c -/
structure Plain (f : Nat → Int) (t q : Nat) (c : Int) : Prop where
  q1 : 1 ≤ q
  per : Per f t q c
  least : ∀ u r e, 1 ≤ r → Per f u r e → t ≤ u ∧ q ∣ r
theorem Plain.unique {f : Nat → Int} {t u q r : Nat} {c e : Int} (h : Plain f t q c) (g : Plain f u r e) : t = u ∧ q = r ∧ c = e := by
  have h1 := h.least u r e g.q1 g.per
  have h2 := g.least t q c h.q1 h.per
  have hq : q = r := Nat.dvd_antisymm h1.2 h2.2
  have ht : t = u := by omega
  subst hq ht
  have a := h.per t (Nat.le_refl _)
  have b := g.per t (Nat.le_refl _)
  exact ⟨rfl, rfl, by omega⟩
/-- a period that no smaller one of its divisors is, from the first place where it holds -/
theorem Plain.of {f : Nat → Int} {t q : Nat} {c : Int} (hq : 1 ≤ q) (h : Per f t q c) (hd : ∀ d e, d ∣ q → 1 ≤ d → Per f t d e → d = q) (ht : 0 < t → f (t - 1 + q) ≠ f (t - 1) + c) : Plain f t q c := by
  refine ⟨hq, h, fun u r e hr g => ⟨?_, ?_⟩⟩
  · refine Nat.not_lt.mp fun lt => ?_
    have := (g.down hr h) (t - 1) (by omega)
    exact ht (by omega) this
  · obtain ⟨i, hi⟩ := Per.gcd _ q r (Nat.le_refl _) hq hr _ _ h (h.down hq g)
    have e2 := hd _ i (Nat.gcd_dvd_left q r) (Nat.gcd_pos_of_pos_left r hq) hi
    exact Nat.gcd_eq_left_iff_dvd.mp e2
/-- constant differences on a whole period are so for ever -/
theorem Per.of_window {f : Nat → Int} {t p q a : Nat} {c e : Int} (h : Per f t p c) (hp : 1 ≤ p) (ha : t ≤ a) (hw : ∀ x, a ≤ x → x < a + p → f (x + q) = f x + e) : Per f t q e := by
  refine Per.down h hp (u := a) (d := q) fun x hx => ?_
  have key : ∀ n x, x < n → a ≤ x → f (x + q) = f x + e := fun n => by
    induction n with
    | zero => intro x hx; omega
    | succ n ih =>
      intro x hx hax
      by_cases hs : x < a + p
      · exact hw x hax hs
      · have h1 := ih (x - p) (by omega) (by omega)
        have h2 := h (x - p) (by omega)
        have h3 := h (x - p + q) (by omega)
        rw [show x - p + p = x by omega] at h2
        rw [show x - p + q + p = x + q by omega] at h3
        omega
  exact key (x + 1) x (by omega) hx
/-- going back from s while the row goes on by c each r -/
def fitSz (f : Nat → Int) (r : Nat) (c : Int) : Nat → Nat
  | 0 => 0
  | s + 1 => if r < s + 1 ∧ f s = f (s - r) + c then fitSz f r c s else s + 1
theorem fitSz_le {f : Nat → Int} {r : Nat} {c : Int} : ∀ s, fitSz f r c s ≤ s
  | 0 => Nat.le_refl _
  | s + 1 => by
    unfold fitSz
    split
    · exact Nat.le_succ_of_le (fitSz_le s)
    · exact Nat.le_refl _
theorem fitSz_ge {f : Nat → Int} {r : Nat} {c : Int} : ∀ s, r ≤ s → r ≤ fitSz f r c s
  | 0, h => h
  | s + 1, h => by
    unfold fitSz
    split
    · rename_i hc; exact fitSz_ge s (by omega)
    · exact h
theorem fitSz_on {f : Nat → Int} {r : Nat} {c : Int} : ∀ s x, fitSz f r c s ≤ x → x < s → f x = f (x - r) + c
  | 0, x, _, h => absurd h (Nat.not_lt_zero _)
  | s + 1, x, h1, h2 => by
    unfold fitSz at h1
    split at h1
    · rename_i hc
      by_cases e : x = s
      · subst e; exact hc.2
      · exact fitSz_on s x h1 (by omega)
    · omega
theorem fitSz_stop {f : Nat → Int} {r : Nat} {c : Int} : ∀ s, r < fitSz f r c s → f (fitSz f r c s - 1) ≠ f (fitSz f r c s - 1 - r) + c
  | 0, h => absurd h (Nat.not_lt_zero _)
  | s + 1, h => by
    unfold fitSz at h ⊢
    split at h
    · rename_i hc
      rw [if_pos hc]
      exact fitSz_stop s h
    · rename_i hc
      rw [if_neg hc]
      exact fun e => hc ⟨h, e⟩
/-- it goes back at least to m where the row goes on from m -/
theorem fitSz_to {f : Nat → Int} {r m : Nat} {c : Int} (hm : r ≤ m) : ∀ s, m ≤ s → (∀ x, m ≤ x → x < s → f x = f (x - r) + c) → fitSz f r c s ≤ m
  | 0, h, _ => by show 0 ≤ m; omega
  | s + 1, h, ho => by
    by_cases e : m = s + 1
    · rw [e]; exact fitSz_le _
    · unfold fitSz
      rw [if_pos ⟨by omega, ho s (by omega) (by omega)⟩]
      exact fitSz_to hm s (by omega) fun x h1 h2 => ho x h1 (by omega)
/-- what is found for a period of a row of len -/
def fitGain (f : Nat → Int) (len r : Nat) : Int := f (len - 1) - f (len - 1 - r)
def fitSize (f : Nat → Int) (len r : Nat) : Nat := fitSz f r (fitGain f len r) len
section
variable {f : Nat → Int} {n p : Nat} {g : Int}
/-- where d is a period from t on, the size found for it is at most t + d -/
theorem fitSize_per {t d len : Nat} {e : Int} (h : Per f t d e) (hd : 1 ≤ d) (hl : t + d < len) : fitGain f len d = e ∧ fitSize f len d ≤ t + d := by
  have hg : fitGain f len d = e := by
    unfold fitGain
    have := h (len - 1 - d) (by omega)
    rw [show len - 1 - d + d = len - 1 by omega] at this
    omega
  refine ⟨hg, ?_⟩
  unfold fitSize
  rw [hg]
  refine fitSz_to (by omega) len (by omega) fun x h1 h2 => ?_
  have := h (x - d) (by omega)
  rw [show x - d + d = x by omega] at this
  exact this
/-- of the divisors of the period the one with the least size gives the plain form -/
theorem plain_of_fits (h : Per f (n - p) p g) (hp : 1 ≤ p) (hpn : p ≤ n) {r : Nat} (hr1 : 1 ≤ r) (hr : r ∣ p) (hm : ∀ d, 1 ≤ d → d ∣ p → fitSize f (n + 2 * p) r ≤ fitSize f (n + 2 * p) d) :
    Plain f (fitSize f (n + 2 * p) r - r) r (fitGain f (n + 2 * p) r) ∧ r ≤ fitSize f (n + 2 * p) r ∧ fitSize f (n + 2 * p) r ≤ n := by
  have hrp := Nat.le_of_dvd hp hr
  have hn := (fitSize_per (len := n + 2 * p) h hp (by omega)).2
  have hs := hm p hp (Nat.dvd_refl p)
  have hsn : fitSize f (n + 2 * p) r ≤ n := by omega
  have hge : r ≤ fitSize f (n + 2 * p) r := fitSz_ge _ (by omega)
  have hon : ∀ x, fitSize f (n + 2 * p) r ≤ x → x < n + 2 * p → f x = f (x - r) + fitGain f (n + 2 * p) r := fun x h1 h2 => fitSz_on _ x h1 h2
  have hstop : r < fitSize f (n + 2 * p) r → f (fitSize f (n + 2 * p) r - 1) ≠ f (fitSize f (n + 2 * p) r - 1 - r) + fitGain f (n + 2 * p) r := fun h => fitSz_stop _ h
  generalize fitSize f (n + 2 * p) r = s at *
  generalize fitGain f (n + 2 * p) r = c at *
  have hw : Per f (n - p) r c := Per.of_window (a := n) h hp (by omega) fun x h1 h2 => by
    have := hon (x + r) (by omega) (by omega)
    rw [show x + r - r = x by omega] at this
    exact this
  have hper : Per f (s - r) r c := fun x hx => by
    by_cases hx2 : x + r < n + 2 * p
    · have := hon (x + r) (by omega) hx2
      rw [show x + r - r = x by omega] at this
      exact this
    · exact hw x (by omega)
  refine ⟨Plain.of hr1 hper (fun d e hd hd1 hde => ?_) (fun ht => ?_), hge, hsn⟩
  · have hdr := Nat.le_of_dvd hr1 hd
    have h1 := (fitSize_per (len := n + 2 * p) hde hd1 (by omega)).2
    have h2 := hm d hd1 (Nat.dvd_trans hd hr)
    omega
  · have := hstop (by omega)
    rw [show s - 1 - r = s - r - 1 by omega, show s - 1 = s - r - 1 + r by omega] at this
    exact this
end
/-- a function is known by its first values, its period and its gain -/
theorem Per.ext {f g : Nat → Int} {t q : Nat} {c : Int} (hf : Per f t q c) (hg : Per g t q c) (hq : 1 ≤ q) (h0 : ∀ x, x < t + q → f x = g x) : ∀ n x, x < n → f x = g x
  | 0, x, h => absurd h (Nat.not_lt_zero _)
  | n + 1, x, h => by
    by_cases hx : x < t + q
    · exact h0 x hx
    · have h1 := hf (x - q) (by omega)
      have h2 := hg (x - q) (by omega)
      rw [show x - q + q = x by omega] at h1 h2
      have := Per.ext hf hg hq h0 n (x - q) (by omega)
      omega
/-- the gain of the plain form is a part of the gain of any other one -/
theorem Plain.gain {f : Nat → Int} {t r u p : Nat} {c g : Int} (h : Plain f t r c) (hp : 1 ≤ p) (hg : Per f u p g) (g0 : 0 ≤ g) : 0 ≤ c ∧ c ≤ g := by
  obtain ⟨ht, k, hk⟩ := h.least u p g hp hg
  have h1 := h.per.mul k u (by omega)
  have h2 := hg u (Nat.le_refl _)
  rw [Nat.mul_comm k r, ← hk, h2] at h1
  have hk0 : 1 ≤ k := Nat.pos_of_ne_zero fun z => by subst z; omega
  have hkc : (k : Int) * c = g := by omega
  have c0 : 0 ≤ c := by
    refine Int.not_lt.mp fun hc => ?_
    have : (k : Int) * c < 0 := Int.mul_neg_of_pos_of_neg (by omega) hc
    omega
  refine ⟨c0, ?_⟩
  rw [← hkc]
  have := Int.mul_le_mul_of_nonneg_right (show (1 : Int) ≤ k by omega) c0
  omega
/-- a row long enough tells a period -/
theorem per_of_row {f : Nat → Int} {n p s q len : Nat} {g e : Int} (h : Per f (n - p) p g) (hp : 1 ≤ p) (hpn : p ≤ n) (hqs : q ≤ s) (hsn : s ≤ n) (hlen : 2 * n + p ≤ len) (hon : ∀ x, s ≤ x → x < len → f x = f (x - q) + e) : Per f (s - q) q e := by
  have hw : Per f (n - p) q e := Per.of_window (a := n) h hp (by omega) fun x h1 h2 => by
    have := hon (x + q) (by omega) (by omega)
    rw [show x + q - q = x by omega] at this
    exact this
  exact fun x hx => by
    by_cases hx2 : x + q < len
    · have := hon (x + q) (by omega) hx2
      rw [show x + q - q = x by omega] at this
      exact this
    · exact hw x (by omega)

/-! ### the plain form: the code -/
theorem xs_augI {K : PySem.W.Frag} {ρ : Rho} {M : Ms} {P : Post} {i : Nat} {te : TE} {op : Int → Int → Int} {a b : Int} (h : ρ[i]? = some (some (.int a))) (he : Ev K te ρ M (.int b)) (k : P.nx (ρ.set i (some (.int (op a b)))) M) : XS K (tAug i te (ipI op)) ρ M P := fun N F σ H D S e => by
  obtain ⟨v, h1, h2⟩ := S.e.get h
  refine ⟨v, h1, he N F σ H S _ fun w d M' F' H' e1 hd wd r => ?_⟩
  obtain ⟨hd1, hd2⟩ := hd
  subst hd1 hd2
  exact ⟨a, b, h2.int_of, r.int_of, e.nx F' _ H' _ M' e1 k ⟨wd, (S.e.mono e1).set (.int _) i⟩⟩
/-- a row of the values of f -/
def rowL (f : Nat → Int) (len : Nat) : List DV := (List.range len).map fun x => .int (f x)
theorem rowL_length {f : Nat → Int} {len : Nat} : (rowL f len).length = len := by unfold rowL; rw [List.length_map, List.length_range]
theorem rowL_get {f : Nat → Int} {len k : Nat} (h : k < len) : (rowL f len)[k]? = some (.int (f k)) := by
  unfold rowL
  rw [List.getElem?_map, List.getElem?_range h]; rfl
theorem atI_row {f : Nat → Int} {len : Nat} {z : Int} (h0 : 0 ≤ z) (h1 : z < len) : atI (rowL f len) z = some (.int (f z.toNat)) := by
  have := atI_nat (rowL_get (f := f) (show z.toNat < len by omega))
  rw [show ((z.toNat : Nat) : Int) = z by omega] at this
  exact this
theorem atI_rowN {f : Nat → Int} {len : Nat} {z : Int} (h0 : z < 0) (h1 : -(len : Int) ≤ z) : atI (rowL f len) z = some (.int (f (z + len).toNat)) := by
  unfold atI ixN
  rw [rowL_length, if_neg (by omega), if_pos h1]
  exact rowL_get (by omega)
def S_fit_of : SpecD := fun ds M R => ∃ (f : Nat → Int) (len r : Nat), ds = [.tup (rowL f len), .int r] ∧ 1 ≤ r ∧ r < len ∧ len ≤ 10000 ∧ R (.tup [.int (fitSize f len r : Nat), .int r, .int (fitGain f len r)]) M
theorem ok_fit_of (T : Tx K mg A) : FnOk P w K mg base CX0 1 A.f_fit_of A.d_fit_of ["row", "period"] (spD K S_fit_of) := by
  refine fnD T.F_fit_of sc_fit_of (fun ds M R h => by obtain ⟨f, len, r, rfl, _⟩ := h; rfl) fun cdv B up z H E hr ds M R h => ?_
  obtain ⟨f, len, r, rfl, hr1, hrl, hlen, hR⟩ := h
  refine ⟨_, (pss_cons (ps_par (i := 2) (j := 3) rfl sc_fit_of.nd rfl rfl (by decide) rfl rfl (pa_cons (pe_op op_sub (pe_ix (wIx K rfl) (pv 0) (pe_un un_neg pe_int) (fun _ _ => rfl)) (pe_ix (wIx K rfl) (pv 0) (pe_op op_sub (pe_un un_neg pe_int) (pv 1)) (fun _ _ => rfl))) (pa_cons (pe_callB (wLen K rfl) (by rfl) T.n_len PySem.boot_len (pa_cons (pv 0) pa_nil)) pa_nil)) rfl) (pss_cons (ps_while PassesOwn.never (PW.pt (pw_and (pt_cmpR op_gt (pv 3) (pv 1) (nomark _)) (pw_and1 (pt_cmpR (wEq K rfl hr) (pe_ix (wIx K rfl) (pv 0) (pe_op op_sub (pv 3) pe_int) (fun _ _ => rfl)) (pe_op (wAdd K rfl) (pe_ix (wIx K rfl) (pv 0) (pe_op op_sub (pe_op op_sub (pv 3) pe_int) (pv 1)) (fun _ _ => rfl)) (pv 2)) (nomark _))))) (pss_one (ps_aug (i := 3) sc_fit_of.nd rfl (.inl rfl) pe_int ip_sub))) (pss_one (ps_ret (pe_tup (pa_cons (pv 3) (pa_cons (pv 1) (pa_cons (pv 2) pa_nil)))))))), ?_⟩
  refine xs_par (EvA.go (ds := [.int (fitGain f len r), .int len]) (ea_cons (Ev.is (ev_op (ev_op (ev_var rfl) (ev_un ev_cI ru_neg) (rv_ixT (atI_rowN (by omega) (by omega)))) (ev_op (ev_var rfl) (ev_op (ev_un ev_cI ru_neg) (ev_var rfl) rv_I0) (rv_ixT (atI_rowN (by omega) (by omega)))) rv_I0) (by unfold fitGain; rw [show (-1 + (len : Int)).toNat = len - 1 by omega, show (-1 - (r : Int) + (len : Int)).toNat = len - 1 - r by omega])) (ea_cons (Ev.is (ev_cb (ea_cons (ev_var rfl) ea_nil) rc_lenT) (by rw [rowL_length])) ea_nil)) ⟨_, _, rfl, ?_⟩)
  have hge := fitSz_ge (f := f) (r := r) (c := fitGain f len r) len (by omega)
  have hsz : fitSz f r (fitGain f len r) len = fitSize f len r := rfl
  generalize fitGain f len r = c at hge hsz hR ⊢
  refine xs_seq (xs_while (fun m ρ M' => M' = M ∧ ρ = [some (.tup (rowL f len)), some (.int r), some (.int c), some (.int (m : Nat))] ∧ r ≤ m ∧ m ≤ len ∧ fitSz f r c m = fitSize f len r) (m := len) ⟨rfl, rfl, by omega, Nat.le_refl _, hsz⟩ fun m ρ M' hinv => ?_)
  obtain ⟨rfl, rfl, h1, h2, h3⟩ := hinv
  by_cases hm : r < m
  · have hx : (m : Int) - 1 < len := by omega
    refine EvT.go (b := decide (f (m - 1) = f (m - 1 - r) + c)) (EvT.is (et_and (a := true) (EvT.is (et_test (ev_op (ev_var rfl) (ev_var rfl) rv_B0)) (decide_eq_true (by omega))) fun _ => et_test (ev_op (ev_op (ev_var rfl) (ev_op (ev_var rfl) ev_cI rv_I0) (rv_ixT (atI_row (z := (m : Int) - 1) (by omega) hx))) (ev_op (ev_op (ev_var rfl) (ev_op (ev_op (ev_var rfl) ev_cI rv_I0) (ev_var rfl) rv_I0) (rv_ixT (atI_row (z := (m : Int) - 1 - r) (by omega) (by omega)))) (ev_var rfl) rv_add) rv_eqI)) (by rw [show ((m : Int) - 1).toNat = m - 1 by omega, show ((m : Int) - 1 - (r : Int)).toNat = m - 1 - r by omega, Bool.true_and])) ?_
    obtain ⟨m, rfl⟩ : ∃ k, m = k + 1 := ⟨m - 1, by omega⟩
    rw [Nat.add_sub_cancel]
    split
    · rename_i hb
      have hb := of_decide_eq_true hb
      refine xs_augI rfl ev_cI ⟨m, Nat.lt_succ_self m, rfl, ?_, by omega, by omega, ?_⟩
      · rw [show (((m + 1 : Nat) : Int) - 1) = (m : Nat) by omega]; rfl
      · rw [← h3]
        show _ = if r < m + 1 ∧ f m = f (m - r) + c then fitSz f r c m else m + 1
        rw [if_pos ⟨hm, hb⟩]
    · rename_i hb
      have hb : ¬ f m = f (m - r) + c := fun z => hb (decide_eq_true z)
      have e : fitSize f len r = m + 1 := by
        rw [← h3]
        show (if r < m + 1 ∧ f m = f (m - r) + c then fitSz f r c m else m + 1) = _
        rw [if_neg fun z => hb z.2]
      rw [e] at hR
      exact xs_retE (by walk_at "ev") hR
  · have e : m = r := by omega
    subst e
    have e2 : fitSize f len m = m := by
      have := fitSz_le (f := f) (r := m) (c := c) m
      have := fitSz_ge (f := f) (r := m) (c := c) m (Nat.le_refl _)
      omega
    rw [e2] at hR
    refine EvT.go (b := false) (et_and (a := false) (b := false) (EvT.is (et_test (ev_op (ev_var rfl) (ev_var rfl) rv_B0)) (decide_eq_false (by omega))) fun h => nomatch h) ?_
    show XS K _ _ _ _
    exact xs_retE (by walk_at "ev") hR
theorem sp_fit_of {f : Nat → Int} {len r : Nat} {M : Ms} (h1 : 1 ≤ r) (h2 : r < len) (h3 : len ≤ 10000) : S_fit_of [.tup (rowL f len), .int r] M fun d' M' => d' = .tup [.int (fitSize f len r : Nat), .int r, .int (fitGain f len r)] ∧ M' = M := ⟨f, len, r, rfl, h1, h2, h3, rfl, rfl⟩
/-- the plain form of a row that goes on by g each p from n - p on -/
def S_plainest : SpecD := fun ds M R => ∃ (f : Nat → Int) (n p : Nat) (g : Int), ds = [.tup (rowL f (n + 2 * p)), .int p] ∧ Per f (n - p) p g ∧ 1 ≤ p ∧ p ≤ n ∧ n ≤ 1000 ∧ ∀ t r c, Plain f t r c → t + r ≤ n → R (.tup [.tup (rowL f (t + r)), .int (r : Nat), .int c]) M
theorem cut_row {f : Nat → Int} {len s : Nat} (h : s ≤ len) : cutL (rowL f len) none (some (s : Int)) = rowL f s := by
  unfold cutL
  have e0 : HT.sIx (rowL f len).length 0 none = 0 := rfl
  have e1 : HT.sIx (rowL f len).length (rowL f len).length (some (s : Int)) = s := by
    rw [rowL_length]
    show (if (s : Int) < 0 then ((s : Int) + len).toNat else min (s : Int).toNat len) = s
    rw [if_neg (by omega)]
    omega
  rw [e0, e1, List.drop_zero, Nat.sub_zero]
  unfold rowL
  rw [← List.map_take, List.take_range, Nat.min_eq_left h]
theorem picked_mapT {q : Nat → Bool} {F : Nat → TI3} : ∀ {n : Nat}, picked q (fun i => tri (F i)) n = (((List.range n).filter q).map F).map tri
  | 0 => rfl
  | n + 1 => by
    unfold picked
    rw [picked_mapT (n := n), List.range_succ, List.filter_append]
    cases h : q n <;> simp [h]
theorem ok_plainest (T : Tx K mg A) : FnOk P w K mg base CX0 2 A.f_plainest A.d_plainest ["row", "period"] (spD K S_plainest) := by
  refine fnD T.F_plainest sc_plainest (fun ds M R h => by obtain ⟨f, n, p, g, rfl, _⟩ := h; rfl) fun cdv B up z H E hr ds M R h => ?_
  obtain ⟨f, n, p, g, rfl, hper, hp, hpn, hn, hR⟩ := h
  refine ⟨_, (pss_cons (ps_setLc (i := 2) (own := [("shorter", 3)]) rfl sc_plainest.nd rfl rfl (sw_true rfl rfl rfl (by decide +kernel)) (pi_range2 rfl T.n_range (pa_cons pe_int (pa_cons (pe_op (wAdd K rfl) (pv 1) pe_int) pa_nil))) (blkOk_by (own := [("shorter", 3)]) (N := ["row", "period", "fits", "shorter", "size", "gain"]) (sc := defScope s_plainest) (by decide +kernel)) (fun _ _ _ _ _ => (pg_name (i := 3) sc_plainest.nd rfl (.inl rfl))) (fun _ _ _ _ _ => (pts_one (pt_cmpR (wEq K rfl hr) (pe_op op_mod (pv 1) (pv 3)) pe_int (nomark _)))) (fun _ _ _ _ _ => (pe_call (ok_fit_of T) (hr.mono (by decide)) (by rfl) T.g_fit_of T.F_fit_of.kp (b_fit_of T) .nil pass0 (pa_cons (pv 0) (pa_cons (pv 3) pa_nil))))) (pss_cons (ps_asg (pe_callB (wMinT K rfl hr) (by rfl) T.n_min (by decide +kernel) (pa_cons (pv 2) pa_nil)) (wTupG K rfl (pg_tup rfl (pgs_cons (pg_name (i := 4) sc_plainest.nd rfl (.inl rfl)) (pgs_cons (pg_name (i := 3) sc_plainest.nd rfl (.inl rfl)) (pgs_cons (pg_name (i := 5) sc_plainest.nd rfl (.inl rfl)) pgs_nil)))))) (pss_one (ps_ret (pe_tup (pa_cons (pe_slice (wSl K rfl) (pv 0) po_none (po_some (pv 4))) (pa_cons (pv 3) (pa_cons (pv 5) pa_nil)))))))), ?_⟩
  have hwalk : EvI K (iRng2 (tCons (tC (.int 1)) (tCons (tOp (rAddU K) (tVar 1) (tC (.int 1))) tNil))) (rho0 ["row", "period", "fits", "shorter", "size", "gain"] [.tup (rowL f (n + 2 * p)), .int p]) M [] p (fun i => .int (1 + (i : Int))) (fun M' => M' = M) := by
    have := ei_rng2 (K := K) (lo := 1) (j := (p : Int) + 1) (RM := fun M' => M' = M) (ρ := rho0 ["row", "period", "fits", "shorter", "size", "gain"] [.tup (rowL f (n + 2 * p)), .int p]) (M := M) (ta := tCons (tC (.int 1)) (tCons (tOp (rAddU K) (tVar 1) (tC (.int 1))) tNil)) (EvA.go (by walk_at "ea") ⟨rfl, rfl⟩) ⟨by decide, by decide, by omega, by omega⟩
    rw [show ((p : Int) + 1 - 1).toNat = p by omega] at this
    exact this
  have hfits : Ev K (tLc (iRng2 (tCons (tC (.int 1)) (tCons (tOp (rAddU K) (tVar 1) (tC (.int 1))) tNil))) (gName 3) (tTest (tOp (rEqU K) (tOp (rI (fun _ j => 0 < j) fun i j => .int (i % j)) (tVar 1) (tVar 3)) (tC (.int 0)))) (tCall (spD K S_fit_of) [] E0 (tCons (tVar 0) (tCons (tVar 3) tNil))) [3]) (rho0 ["row", "period", "fits", "shorter", "size", "gain"] [.tup (rowL f (n + 2 * p)), .int p]) M (.lst (picked (fun i => decide ((p : Int) % (1 + (i : Int)) = 0)) (fun i => tri ⟨((fitSize f (n + 2 * p) (1 + i) : Nat) : Int), ((1 + i : Nat) : Int), fitGain f (n + 2 * p) (1 + i)⟩) p)) := by
    refine ev_lc _ _ hwalk (by omega) (bdw_name (by simp)) fun i hi => bd_name ⟨rfl, et_test (ev_op (ev_op (ev_var rfl) (ev_var rfl) (rv_I (show (0 : Int) < 1 + (i : Int) by omega))) ev_cI rv_eqI), fun _ => ?_⟩
    have e : (1 : Int) + (i : Int) = ((1 + i : Nat) : Int) := by omega
    rw [e]
    exact ev_call (ea_cons (ev_var rfl) (ea_cons (ev_var rfl) ea_nil)) (sp_fit_of (by omega) (by omega) (by omega))
  rw [picked_mapT] at hfits
  refine xs_setE hfits ?_
  generalize hts : ((List.range p).filter fun i : Nat => decide ((p : Int) % (1 + (i : Int)) = 0)).map (fun i : Nat => (⟨((fitSize f (n + 2 * p) (1 + i) : Nat) : Int), ((1 + i : Nat) : Int), fitGain f (n + 2 * p) (1 + i)⟩ : TI3)) = ts
  have hin : ∀ d, 1 ≤ d → d ∣ p → (⟨((fitSize f (n + 2 * p) d : Nat) : Int), (d : Int), fitGain f (n + 2 * p) d⟩ : TI3) ∈ ts := fun d hd hdp => by
    rw [← hts]
    have hle := Nat.le_of_dvd hp hdp
    refine List.mem_map.mpr ⟨d - 1, List.mem_filter.mpr ⟨List.mem_range.mpr (by omega), decide_eq_true ?_⟩, ?_⟩
    · rw [show (1 : Int) + ((d - 1 : Nat) : Int) = (d : Int) by omega]
      exact Int.emod_eq_zero_of_dvd (Int.natCast_dvd_natCast.mpr hdp)
    · rw [show 1 + (d - 1) = d by omega]
  refine xs_asgE (evr_cb (EvA.go (ea_cons (ev_var rfl) ea_nil) (rcr_minT (List.length_pos_of_mem (hin p hp (Nat.dvd_refl p))) fun t ht hmin => ?_)))
  rw [← hts] at ht
  obtain ⟨i, hi, rfl⟩ := List.mem_map.mp ht
  obtain ⟨hi1, hi2⟩ := List.mem_filter.mp hi
  have hi1 := List.mem_range.mp hi1
  have hrp : (1 + i) ∣ p := by
    have := Int.dvd_of_emod_eq_zero (of_decide_eq_true hi2)
    rw [show (1 : Int) + (i : Int) = ((1 + i : Nat) : Int) by omega] at this
    exact Int.natCast_dvd_natCast.mp this
  have hpl := plain_of_fits hper hp hpn (r := 1 + i) (by omega) hrp fun d hd hdp => Int.ofNat_le.mp (hmin _ (hin d hd hdp))
  refine bd_tup (bds_nm (bds_nm (bds_nm (bds_nil ?_)))) rfl
  have hfin := hR _ _ _ hpl.1 (by omega)
  rw [show fitSize f (n + 2 * p) (1 + i) - (1 + i) + (1 + i) = fitSize f (n + 2 * p) (1 + i) by omega] at hfin
  refine xs_retE (Ev.is (ev_tup (ea_cons (ev_slT (ev_var rfl) eo_none (eo_some (ev_var rfl))) (ea_cons (ev_var rfl) (ea_cons (ev_var rfl) ea_nil)))) (by rw [cut_row (by omega)])) hfin
/-- a told pattern as a function of naturals -/
def fnOf (vs : List Int) (p g : Int) : Nat → Int := fun x => valAt vs p g (x : Int)
theorem per_told {vs : List Int} {p g : Int} (hp : 1 ≤ p) (hl : p ≤ vs.length) : Per (fnOf vs p g) (vs.length - p.toNat) p.toNat g := fun x hx => by
  show valAt vs p g ((x + p.toNat : Nat) : Int) = valAt vs p g (x : Int) + g
  rw [valAt_per hp hl (by omega), show ((x + p.toNat : Nat) : Int) - p = (x : Int) by omega]
def S_plain_told : SpecD := fun ds M R => ∃ (vs : List Int) (p g : Int), ds = [toldD vs p g] ∧ Told vs p g ∧ ∀ t r c, Plain (fnOf vs p g) t r c → t + r ≤ vs.length → R (.tup [.tup (rowL (fnOf vs p g) (t + r)), .int (r : Nat), .int c]) M
theorem ok_plain_told (T : Tx K mg A) : FnOk P w K mg base CX0 3 A.f_plain_told A.d_plain_told ["told"] (spD K S_plain_told) := by
  refine fnD T.F_plain_told sc_plain_told (fun ds M R h => by obtain ⟨vs, p, g, rfl, _⟩ := h; rfl) fun cdv B up z H E hr ds M R h => ?_
  obtain ⟨vs, p, g, rfl, hw, hR⟩ := h
  have hp1 := hw.p1
  have hp2 := hw.p2
  have hl := hw.l
  refine ⟨_, (pss_cons (ps_set (i := 1) sc_plain_told.nd rfl (.inl rfl) (pe_callTy (wTupOf K rfl) (by rfl) T.n_tuple (by decide +kernel) (pa_cons (pe_lc (own := [("amount", 2)]) rfl sc_plain_told.nd (pi_range1 rfl T.n_range (pa_cons (pe_op (wAdd K rfl) (pe_callB (wLen K rfl) (by rfl) T.n_len PySem.boot_len (pa_cons (pe_ix (wIx K rfl) (pv 0) pe_int (fun _ _ => rfl)) pa_nil)) (pe_op (wMul K rfl) pe_int (pe_ix (wIx K rfl) (pv 0) pe_int (fun _ _ => rfl)))) pa_nil)) (blkOk_by (own := [("amount", 2)]) (N := ["told", "row", "amount"]) (sc := defScope s_plain_told) (by decide +kernel)) (fun _ _ _ _ _ => (pg_name (i := 2) sc_plain_told.nd rfl (.inl rfl))) (fun _ _ _ _ _ => pts_nil) (fun _ _ _ _ _ => (pe_call (ok_value_at T) (hr.mono (by decide)) (by rfl) T.g_value_at T.F_value_at.kp (b_value_at T) .nil pass0 (pa_cons (pv 0) (pa_cons (pv 2) pa_nil))))) pa_nil))) (pss_one (ps_ret (pe_call (ok_plainest T) (hr.mono (by decide)) (by rfl) T.g_plainest T.F_plainest.kp (b_plainest T) .nil pass0 (pa_cons (pv 1) (pa_cons (pe_ix (wIx K rfl) (pv 0) pe_int (fun _ _ => rfl)) pa_nil)))))), ?_⟩
  have ix : ∀ {ρ : Rho} {k : Int} {d : DV}, ρ[0]? = some (some (toldD vs p g)) → atI [.tup (vs.map .int), .int p, .int g] k = some d → Ev K (tOp (rIx K) (tVar 0) (tC (.int k))) ρ M d := fun {ρ k d} h hk => ev_op (ev_var h) ev_cI (rv_ixT hk)
  have hn : (vs.length : Int) + 2 * p = ((vs.length + 2 * p.toNat : Nat) : Int) := by omega
  have hwalk : EvI K (iRng1 (tCons (tOp (rAddU K) (tCB (DD.rLen K) (tCons (tOp (rIx K) (tVar 0) (tC (.int 0))) tNil)) (tOp (rMulU K) (tC (.int 2)) (tOp (rIx K) (tVar 0) (tC (.int 1))))) tNil)) (rho0 ["told", "row", "amount"] [toldD vs p g]) M [] (vs.length + 2 * p.toNat) (fun i => .int (i : Int)) (fun M' => M' = M) := by
    have := ei_rng1 (K := K) (j := ((vs.length + 2 * p.toNat : Nat) : Int)) (RM := fun M' => M' = M) (ρ := rho0 ["told", "row", "amount"] [toldD vs p g]) (M := M) (ta := tCons (tOp (rAddU K) (tCB (DD.rLen K) (tCons (tOp (rIx K) (tVar 0) (tC (.int 0))) tNil)) (tOp (rMulU K) (tC (.int 2)) (tOp (rIx K) (tVar 0) (tC (.int 1))))) tNil) (EvA.go (ea_cons (Ev.is (ev_op (ev_cb (ea_cons (ix rfl rfl) ea_nil) rc_lenT) (ev_op ev_cI (ix (k := 1) (d := .int p) rfl rfl) (rv_mul (.inl ⟨by decide, by decide⟩))) rv_add) (by rw [List.length_map, hn])) ea_nil) ⟨rfl, rfl⟩) ⟨by omega, by omega⟩
    rw [Int.toNat_natCast] at this
    exact this
  have hrow : Ev K (tLc (iRng1 (tCons (tOp (rAddU K) (tCB (DD.rLen K) (tCons (tOp (rIx K) (tVar 0) (tC (.int 0))) tNil)) (tOp (rMulU K) (tC (.int 2)) (tOp (rIx K) (tVar 0) (tC (.int 1))))) tNil)) (gName 2) tYes (tCall (spD K S_value_at) [] E0 (tCons (tVar 0) (tCons (tVar 2) tNil))) [2]) (rho0 ["told", "row", "amount"] [toldD vs p g]) M (.lst (rowL (fnOf vs p g) (vs.length + 2 * p.toNat))) := by
    refine Ev.is (ev_lc (fun _ => true) (fun i => .int (fnOf vs p g i)) hwalk (by omega) (bdw_name (by simp)) fun i hi => bd_name ⟨rfl, et_yes, fun _ => ?_⟩) (by rw [picked_all]; rfl)
    exact ev_call (ea_cons (ev_var rfl) (ea_cons (ev_var rfl) ea_nil)) (sp_value_at (x := (i : Int)) hw (by omega))
  refine xs_setE (ev_cb (ea_cons hrow ea_nil) rc_tupL) ?_
  refine xs_ret (evr_call (EvA.go (ds := [.tup (rowL (fnOf vs p g) (vs.length + 2 * p.toNat)), .int (p.toNat : Nat)]) (ea_cons (ev_var rfl) (ea_cons (Ev.is (ix (k := 1) (d := .int p) rfl rfl) (by rw [show ((p.toNat : Nat) : Int) = p by omega])) ea_nil)) ⟨fnOf vs p g, vs.length, p.toNat, g, rfl, per_told hp1 hp2, by omega, by omega, by omega, hR⟩))

/-- the plain pattern of a pattern -/
theorem plain_pat {vs : List Int} {p g : Int} {t r : Nat} {c : Int} (hp : PatOk vs p g) (h : Plain (fnOf vs p g) t r c) (hl : t + r ≤ vs.length) : PatOk ((List.range (t + r)).map (fnOf vs p g)) r c := by
  have p1 := hp.p1
  have p2 := hp.p2
  have l2 := hp.l2
  have q1 := h.q1
  have hg := h.gain (p := p.toNat) (by omega) (per_told (g := g) p1 p2) hp.g1
  have g2 := hp.g2
  refine ⟨by rw [List.length_map, List.length_range]; omega, by rw [List.length_map, List.length_range]; omega, fun v hv => ?_, by omega, by rw [List.length_map, List.length_range]; omega, hg.1, by omega⟩
  obtain ⟨x, hx, rfl⟩ := List.mem_map.mp hv
  have hx := List.mem_range.mp hx
  have e : fnOf vs p g x = vs.getD x 0 := by
    show valAt vs p g (x : Int) = _
    unfold valAt
    rw [if_pos (by omega), Int.toNat_natCast]
  rw [e]
  exact hp.hv _ (getD_mem (by omega))

/-! ### the same function with more values -/
theorem fnOf_lt {vs : List Int} {p g : Int} {x : Nat} (h : x < vs.length) : fnOf vs p g x = vs.getD x 0 := by
  show valAt vs p g (x : Int) = _
  unfold valAt
  rw [if_pos (by omega), Int.toNat_natCast]
theorem getD_mapRange {f : Nat → Int} {n x : Nat} (h : x < n) : ((List.range n).map f).getD x 0 = f x := by
  rw [List.getD_eq_getElem?_getD, List.getElem?_map, List.getElem?_range h]; rfl
/-- a function that goes on so is told by its first values -/
theorem fnOf_ext {f : Nat → Int} {n q : Nat} {h : Int} (hf : Per f (n - q) q h) (hq : 1 ≤ q) (hqn : q ≤ n) (x : Nat) : fnOf ((List.range n).map f) q h x = f x := by
  have hl : ((List.range n).map f).length = n := by rw [List.length_map, List.length_range]
  have hg := per_told (vs := (List.range n).map f) (p := (q : Int)) (g := h) (by omega) (by omega)
  rw [hl, Int.toNat_natCast] at hg
  exact Per.ext hg hf hq (fun x hx => by rw [fnOf_lt (by omega), getD_mapRange (by omega)]) (x + 1) x (by omega)
theorem valAt_tiny {vs : List Int} {p g x : Int} (h : PatOk vs p g) (hv : ∀ v ∈ vs, v ≤ 1000) (hg : g ≤ 1000) (h0 : 0 ≤ x) (h1 : x ≤ 100) : valAt vs p g x ≤ 1000000 := by
  have hp := h.p1
  have hl := h.p2
  have hg0 := h.g1
  unfold valAt
  split
  · have := hv _ (getD_mem (vs := vs) (i := x.toNat) (by omega)); omega
  · rename_i hx
    have hr := round_lo hp hl (show (vs.length : Int) ≤ x by omega)
    have h2 := hv _ (getD_mem (vs := vs) (i := (x - ((x - vs.length) / p + 1) * p).toNat) (by omega))
    have h4 : (x - vs.length) / p + 1 ≤ 101 := by
      have := Int.ediv_le_self p (show 0 ≤ x - vs.length by omega)
      omega
    have h5 : 0 ≤ (x - vs.length) / p := Int.ediv_nonneg (by omega) (by omega)
    have h6 : ((x - vs.length) / p + 1) * g ≤ 101 * 1000 := Int.mul_le_mul h4 hg hg0 (by omega)
    omega
theorem valAt_wide {vs : List Int} {p g x : Int} (h : PatOk vs p g) (h0 : 0 ≤ x) (h1 : x ≤ 3000000000000) : 0 ≤ valAt vs p g x ∧ valAt vs p g x ≤ 4000000000000000000 := by
  have hp := h.p1
  have hl := h.p2
  have hg0 := h.g1
  have hg := h.g2
  unfold valAt
  split
  · have := h.hv _ (getD_mem (vs := vs) (i := x.toNat) (by omega)); omega
  · rename_i hx
    have hr := round_lo hp hl (show (vs.length : Int) ≤ x by omega)
    have h2 := h.hv _ (getD_mem (vs := vs) (i := (x - ((x - vs.length) / p + 1) * p).toNat) (by omega))
    have h4 : (x - vs.length) / p + 1 ≤ 3000000000001 := by
      have := Int.ediv_le_self p (show 0 ≤ x - vs.length by omega)
      omega
    have h5 : 0 ≤ (x - vs.length) / p := Int.ediv_nonneg (by omega) (by omega)
    have h6 : ((x - vs.length) / p + 1) * g ≤ 3000000000001 * 1000000 := Int.mul_le_mul h4 hg hg0 (by omega)
    have h7 : 0 ≤ ((x - vs.length) / p + 1) * g := Int.mul_nonneg (by omega) hg0
    omega
def S_longer : SpecD := fun ds M R => ∃ (j : Addr) (vs : List Int) (p g : Int), ds = [.raw (.ref j), toldD vs p g] ∧ (j, jugO) ∈ M ∧ PatOk vs p g ∧ (∀ v ∈ vs, v ≤ 1000) ∧ g ≤ 1000 ∧ ∀ (ws : List Int) (q h : Int), PatOk ws q h → (∀ x, fnOf ws q h x = fnOf vs p g x) → R (toldD ws q h) M
/-! ### owned ones are let go at the return -/
theorem Wd.dropL {K : PySem.W.Frag} {F H : Hp} {N M2 : Ms} : ∀ (C : Ms), Wd K F (N ++ (C ++ M2)) H → Wd K F (N ++ M2) H
  | [], w => w
  | c :: C, w => Wd.dropL C (w.perm (List.perm_middle.symm)).drop
theorem xs_out {K : PySem.W.Frag} {ρ : Rho} {M : Ms} {t : TS} {P : Post} (h : XS K t ρ M { P with rt := fun d M' => ∃ C M2, M' = C ++ M2 ∧ P.rt d M2 }) : XS K t ρ M P := fun N F σ H D S e => h N F σ H D S ⟨e.nx, fun v F' H' d M' e1 ⟨C, M2, hm, hr⟩ w r => by
  subst hm
  exact e.rt v F' H' d M2 e1 hr (Wd.dropL C w) r, e.bk, e.ct⟩
/-- an owned list that is returned stays from then on -/
theorem xs_outL {K : PySem.W.Frag} {ρ : Rho} {M : Ms} {t : TS} {P : Post} (h : XS K t ρ M { P with rt := fun d M' => ∃ a ds C M2, d = .raw (.ref a) ∧ M' = (a, MO.lst ds) :: (C ++ M2) ∧ P.rt (.lst ds) M2 }) : XS K t ρ M P := fun N F σ H D S e => h N F σ H D S ⟨e.nx, fun v F' H' d M' e1 ⟨a, ds, C, M2, hd, hm, hr⟩ w r => by
  subst hd hm
  cases r.raw_of
  obtain ⟨F2, e2, w2, r2⟩ := (w.perm (List.perm_middle.symm)).freeze
  exact e.rt _ F2 H' _ M2 (e1.trans e2) hr (Wd.dropL C w2) r2, e.bk, e.ct⟩
/-! loops in which owned ones change; x = [] is owned -/
section
variable {K : PySem.W.Frag} {ρ : Rho} {M : Ms} {te : TE} {ta : TA} {t : TS} {P : Post} {k : Nat}
theorem w_asgNil {i : Nat} (h : ∀ a, P.nx (ρ.set i (some (.raw (.ref a)))) ((a, .lst []) :: M)) : XS K (tAsg (tLst tNil) (gName i)) ρ M P := xs_asg (evr_lstC (ear_nil ⟨by decide, fun a => bd_name (h a)⟩))
theorem w_for1M (n : Nat) (hn : n ≤ 1000000) (hI : EvAR K ta ρ M fun ds M' => ds = [.int n] ∧ M' = M) (inv : Nat → Rho → Ms → Prop) (h0 : inv 0 ρ M)
    (hs : ∀ i ρ' M', i < n → inv i ρ' M' → XS K t (ρ'.set k (some (.int i))) M' { P with nx := inv (i + 1), ct := inv (i + 1), bk := P.nx })
    (hd : ∀ ρ' M', inv n ρ' M' → P.nx ρ' M') : XS K (tFor (iRng1 ta) (gName k) t) ρ M P := by
  have := ei_rng1 hI (show -(2 ^ 62) ≤ (n : Int) ∧ (n : Int) < 2 ^ 62 by omega)
  rw [Int.toNat_natCast] at this
  exact xs_for this inv (fun M' e => by rw [e]; exact h0) (fun _ _ _ _ _ => nil_sub) (fun i ρ' M' hi hv => bd_name (hs i ρ' M' hi hv)) hd
theorem w_for2M (lo : Int) (n : Nat) (hl : -1000000 ≤ lo ∧ lo ≤ 1000000) (hn : n ≤ 1000000) (hI : EvAR K ta ρ M fun ds M' => ds = [.int lo, .int (lo + n)] ∧ M' = M) (inv : Nat → Rho → Ms → Prop) (h0 : inv 0 ρ M)
    (hs : ∀ i ρ' M', i < n → inv i ρ' M' → XS K t (ρ'.set k (some (.int (lo + i)))) M' { P with nx := inv (i + 1), ct := inv (i + 1), bk := P.nx })
    (hd : ∀ ρ' M', inv n ρ' M' → P.nx ρ' M') : XS K (tFor (iRng2 ta) (gName k) t) ρ M P := by
  have := ei_rng2 hI (show -(2 ^ 62) ≤ lo ∧ lo < 2 ^ 62 ∧ -(2 ^ 62) ≤ lo + (n : Int) ∧ lo + (n : Int) < 2 ^ 62 by omega)
  rw [show (lo + (n : Int) - lo).toNat = n by omega] at this
  exact xs_for this inv (fun M' e => by rw [e]; exact h0) (fun _ _ _ _ _ => nil_sub) (fun i ρ' M' hi hv => bd_name (hs i ρ' M' hi hv)) hd
theorem w_forTM {ds : List DV} {g : TG} (hI : EvR K te ρ M fun d M' => d = .tup ds ∧ M' = M) (inv : Nat → Rho → Ms → Prop) (h0 : inv 0 ρ M)
    (hs : ∀ i ρ' M' d, ds[i]? = some d → inv i ρ' M' → BdG K g ρ' M' d fun ρ2 M2 => XS K t ρ2 M2 { P with nx := inv (i + 1), ct := inv (i + 1), bk := P.nx })
    (hd : ∀ ρ' M', inv ds.length ρ' M' → P.nx ρ' M') : XS K (tFor (iTup K te) g t) ρ M P :=
  xs_for (ei_tup hI) inv (fun M' e => by rw [e]; exact h0) (fun _ _ _ _ _ => nil_sub) (fun i ρ' M' hi hv => hs i ρ' M' _ (nth_get hi) hv) hd
theorem w_forLM {ds : List DV} {g : TG} (hI : EvR K te ρ M fun d M' => d = .lst ds ∧ M' = M) (inv : Nat → Rho → Ms → Prop) (h0 : inv 0 ρ M)
    (hs : ∀ i ρ' M' d, ds[i]? = some d → inv i ρ' M' → BdG K g ρ' M' d fun ρ2 M2 => XS K t ρ2 M2 { P with nx := inv (i + 1), ct := inv (i + 1), bk := P.nx })
    (hd : ∀ ρ' M', inv ds.length ρ' M' → P.nx ρ' M') : XS K (tFor (iList K te) g t) ρ M P :=
  xs_for (ei_lst hI) inv (fun M' e => by rw [e]; exact h0) (fun _ _ _ _ _ => nil_sub) (fun i ρ' M' hi hv => hs i ρ' M' _ (nth_get hi) hv) hd
end
section
variable {K : PySem.W.Frag} {M : Ms}
theorem w_lenRT {f : Nat → Int} {n : Nat} : RC K (DD.rLen K) [.tup ((rowI f n).map .int)] M (.int n) := by
  have := rc_lenT (K := K) (M := M) (ds := (rowI f n).map .int)
  rw [List.length_map, rowI_len] at this; exact this
theorem w_lenRL {f : Nat → Int} {n : Nat} : RC K (DD.rLen K) [.lst ((rowI f n).map .int)] M (.int n) := by
  have := rc_lenL (K := K) (M := M) (ds := (rowI f n).map .int)
  rw [List.length_map, rowI_len] at this; exact this
end
local macro_rules | `(tactic| walk_at "st_rc") => `(tactic| first | (with_reducible refine' RC.go w_lenRT ?_) | (with_reducible refine' RC.go w_lenRL ?_))
local macro_rules | `(tactic| walk_at "st_xs") => `(tactic| (with_reducible refine' w_asgNil (fun acc => ?_)))
theorem rv_inS3 {K : PySem.W.Frag} {M : Ms} {s a b c : Str} : RV K (rIn K false) (.str s) (.tup [.str a, .str b, .str c]) M (.bl ([a, b, c].any fun t => t == s)) := rv_inS (ss := [a, b, c])
local macro_rules | `(tactic| walk_at "st_rv") => `(tactic| (with_reducible refine' RV.go rv_inS3 ?_))
local macro_rules | `(tactic| walk_at "st_if") => `(tactic| first | ((with_reducible refine' w_T ?aa ?_); (case aa => decide +kernel)) | ((with_reducible refine' w_F ?aa ?_); (case aa => decide +kernel)))

/-! ### walkers: mathematics -/
/-- where one is after so many things, and what has been given -/
def wSt (tab : List (Int × Int)) : Nat → Int
  | 0 => 0
  | k + 1 => (tab.getD (wSt tab k).toNat (0, 0)).1
def wVal (tab : List (Int × Int)) (b : Int) : Nat → Int
  | 0 => b
  | k + 1 => wVal tab b k + (tab.getD (wSt tab k).toNat (0, 0)).2
structure WalkOk (n : Int) (b : Int) (tab : List (Int × Int)) : Prop where
  l : (tab.length : Int) = n
  n1 : 1 ≤ n
  n2 : n ≤ 24
  b1 : 0 ≤ b
  b2 : b ≤ 1000000
  he : ∀ e ∈ tab, (0 ≤ e.1 ∧ e.1 < n) ∧ 0 ≤ e.2 ∧ e.2 ≤ 1000000
theorem getD_mem2 {tab : List (Int × Int)} {i : Nat} (h : i < tab.length) : tab.getD i (0, 0) ∈ tab := by
  rw [List.getD_eq_getElem?_getD, List.getElem?_eq_getElem h]
  exact List.getElem_mem h
theorem wSt_ok {n b : Int} {tab : List (Int × Int)} (h : WalkOk n b tab) : ∀ k, 0 ≤ wSt tab k ∧ wSt tab k < n
  | 0 => ⟨Int.le_refl _, by have := h.n1; show (0 : Int) < n; omega⟩
  | k + 1 => by
    have ih := wSt_ok h k
    have hl := h.l
    exact (h.he _ (getD_mem2 (tab := tab) (i := (wSt tab k).toNat) (by omega))).1
theorem wGift_ok {n b : Int} {tab : List (Int × Int)} (h : WalkOk n b tab) (k : Nat) : 0 ≤ (tab.getD (wSt tab k).toNat (0, 0)).2 ∧ (tab.getD (wSt tab k).toNat (0, 0)).2 ≤ 1000000 := by
  have ih := wSt_ok h k
  have hl := h.l
  exact (h.he _ (getD_mem2 (tab := tab) (i := (wSt tab k).toNat) (by omega))).2
theorem wVal_ok {n b : Int} {tab : List (Int × Int)} (h : WalkOk n b tab) : ∀ k : Nat, 0 ≤ wVal tab b k ∧ wVal tab b k ≤ 1000000 * (k + 1)
  | 0 => by have := h.b1; have := h.b2; show 0 ≤ b ∧ b ≤ _; omega
  | k + 1 => by
    have ih := wVal_ok h k
    have g := wGift_ok h k
    show 0 ≤ wVal tab b k + _ ∧ wVal tab b k + _ ≤ _
    rw [Int.natCast_add]
    omega
theorem wSt_add {tab : List (Int × Int)} {i j : Nat} (h : wSt tab i = wSt tab j) : ∀ k, wSt tab (i + k) = wSt tab (j + k)
  | 0 => h
  | k + 1 => by
    show (tab.getD (wSt tab (i + k)).toNat (0, 0)).1 = (tab.getD (wSt tab (j + k)).toNat (0, 0)).1
    rw [wSt_add h k]
theorem wVal_add {tab : List (Int × Int)} {b : Int} {i j : Nat} (h : wSt tab i = wSt tab j) : ∀ k, wVal tab b (i + k) - wVal tab b i = wVal tab b (j + k) - wVal tab b j
  | 0 => by show wVal tab b i - wVal tab b i = wVal tab b j - wVal tab b j; omega
  | k + 1 => by
    have ih := wVal_add (b := b) h k
    have e1 : wVal tab b (i + (k + 1)) = wVal tab b (i + k) + (tab.getD (wSt tab (i + k)).toNat (0, 0)).2 := rfl
    have e2 : wVal tab b (j + (k + 1)) = wVal tab b (j + k) + (tab.getD (wSt tab (j + k)).toNat (0, 0)).2 := rfl
    rw [e1, e2, wSt_add h k]
    omega
/-- where a state comes again, the sums go on by what lies between -/
theorem walk_per {tab : List (Int × Int)} {b : Int} {f m : Nat} (h : wSt tab m = wSt tab f) (hf : f ≤ m) : Per (wVal tab b) f (m - f) (wVal tab b m - wVal tab b f) := fun x hx => by
  have := wVal_add (b := b) h (x - f)
  rw [show m + (x - f) = x + (m - f) by omega, show f + (x - f) = x by omega] at this
  omega
/-- the walker of a plain form: each amount's state, and the last one goes back -/
def plainTab (f : Nat → Int) (t r : Nat) : List (Int × Int) := (List.range (t + r)).map fun a => (if a + 1 < t + r then ((a + 1 : Nat) : Int) else ((t : Nat) : Int), f (a + 1) - f a)
theorem plainTab_get {f : Nat → Int} {t r a : Nat} (h : a < t + r) : (plainTab f t r).getD a (0, 0) = (if a + 1 < t + r then ((a + 1 : Nat) : Int) else ((t : Nat) : Int), f (a + 1) - f a) := by
  unfold plainTab
  rw [List.getD_eq_getElem?_getD, List.getElem?_map, List.getElem?_range h]; rfl
theorem plain_walks {f : Nat → Int} {t r : Nat} {c : Int} (h : Per f t r c) (hr : 1 ≤ r) : ∀ k, (∃ s j : Nat, wSt (plainTab f t r) k = (s : Int) ∧ s < t + r ∧ k = s + j * r ∧ (j = 0 ∨ t ≤ s)) ∧ wVal (plainTab f t r) (f 0) k = f k
  | 0 => ⟨⟨0, 0, rfl, by omega, by omega, .inl rfl⟩, rfl⟩
  | k + 1 => by
    obtain ⟨⟨s, j, h1, h2, h3, h4⟩, h5⟩ := plain_walks h hr k
    have e : (plainTab f t r).getD (wSt (plainTab f t r) k).toNat (0, 0) = (if s + 1 < t + r then ((s + 1 : Nat) : Int) else ((t : Nat) : Int), f (s + 1) - f s) := by
      rw [h1, Int.toNat_natCast]; exact plainTab_get h2
    have hf : f (k + 1) - f k = f (s + 1) - f s := by
      rcases h4 with rfl | h4
      · rw [h3]; simp
      · have a1 := h.mul j s h4
        have a2 := h.mul j (s + 1) (by omega)
        rw [h3, show s + j * r + 1 = s + 1 + j * r by omega]
        omega
    refine ⟨?_, ?_⟩
    · by_cases hs : s + 1 < t + r
      · refine ⟨s + 1, j, ?_, hs, by omega, ?_⟩
        · show ((plainTab f t r).getD (wSt (plainTab f t r) k).toNat (0, 0)).1 = _
          rw [e, if_pos hs]
        · rcases h4 with h4 | h4
          · exact .inl h4
          · exact .inr (by omega)
      · refine ⟨t, j + 1, ?_, by omega, ?_, .inr (Nat.le_refl _)⟩
        · show ((plainTab f t r).getD (wSt (plainTab f t r) k).toNat (0, 0)).1 = _
          rw [e, if_neg hs]
        · rw [Nat.add_mul, Nat.one_mul]; omega
    · show wVal (plainTab f t r) (f 0) k + ((plainTab f t r).getD (wSt (plainTab f t r) k).toNat (0, 0)).2 = _
      rw [e, h5]
      show f k + (f (s + 1) - f s) = f (k + 1)
      omega

/-! ### pairs of a number and a gift -/
abbrev entD (e : Int × Int) : DV := .tup [.int e.1, .int e.2]
theorem ents_get {tab : List (Int × Int)} {i : Nat} {d : DV} (h : (tab.map entD)[i]? = some d) : ∃ e, tab[i]? = some e ∧ e ∈ tab ∧ d = entD e := by
  rw [List.getElem?_map] at h
  cases e : tab[i]? with
  | none => rw [e] at h; cases h
  | some x => rw [e] at h; cases h; exact ⟨x, rfl, List.mem_of_getElem? e, rfl⟩
theorem atI_ents {tab : List (Int × Int)} {i : Int} (h0 : 0 ≤ i) (h1 : i < tab.length) : atI (tab.map entD) i = some (entD (tab.getD i.toNat (0, 0))) := by
  have hl : i.toNat < tab.length := by omega
  have e : (tab.map entD)[i.toNat]? = some (entD (tab.getD i.toNat (0, 0))) := by
    rw [List.getElem?_map, List.getD_eq_getElem?_getD, List.getElem?_eq_getElem hl]; rfl
  have := atI_nat e
  rw [show ((i.toNat : Nat) : Int) = i by omega] at this
  exact this
local macro_rules | `(tactic| walk_at "ix") => `(tactic| ((with_reducible show atI (List.map entD _) _ = _); exact atI_ents (by omega) (by omega)))
/-- a pair that is let -/
def S_is_entry : SpecD := fun ds M R => ∃ (e : Int × Int) (n : Int), ds = [entD e, .int n] ∧ (0 ≤ e.1 ∧ e.1 < n) ∧ (0 ≤ e.2 ∧ e.2 ≤ 1000000) ∧ R (.bl true) M
theorem ok_is_entry (T : Tx K mg A) : FnOk P w K mg base CX0 2 A.f_is_entry A.d_is_entry ["value", "count"] (spD K S_is_entry) := by
  refine fnD T.F_is_entry sc_is_entry (fun ds M R h => by obtain ⟨e, n, rfl, _⟩ := h; rfl) fun cdv B up z H E hr ds M R h => ?_
  obtain ⟨⟨e1, e2⟩, n, rfl, h1, h2, hR⟩ := h
  refine ⟨_, (pss_cons (ps_if (PW.pt (pw_or (pt_not (pt_val (pe_callB (wIsi K rfl) (by rfl) T.n_isinstance (by decide +kernel) (pa_cons (pv 0) (pa_cons (pe_bltn (v := .ty "tuple") (by rfl) T.n_tuple (by decide +kernel) rfl) pa_nil))))) (pw_or1 (pt_cmpR (wNe K rfl hr) (pe_callB (wLen K rfl) (by rfl) T.n_len PySem.boot_len (pa_cons (pv 0) pa_nil)) pe_int (nomark _))))) (pss_one (ps_ret pe_bl)) pss_nil) (pss_one (ps_ret (pe_and (pe_call (ok_is_between T) (hr.mono (by decide)) (by rfl) T.g_is_between T.F_is_between.kp (b_is_between T) .nil pass0 (pa_cons (pe_ix (wIx K rfl) (pv 0) pe_int (fun _ _ => rfl)) (pa_cons pe_int (pa_cons (pe_op op_sub (pv 1) pe_int) pa_nil)))) (pe_one (pe_call (ok_is_between T) (hr.mono (by decide)) (by rfl) T.g_is_between T.F_is_between.kp (b_is_between T) .nil pass0 (pa_cons (pe_ix (wIx K rfl) (pv 0) pe_int (fun _ _ => rfl)) (pa_cons pe_int (pa_cons (pe_glob (v := .int 1000000) (by rfl) (Classical.choose_spec T.c_MOST_GIFT) ⟨_, rfl⟩) pa_nil))))))))), ?_⟩
  walk_at "go"
  exact hR
def S_wrong_entry : SpecD := fun ds M R => ∃ (tab : List (Int × Int)) (n : Int), ds = [.tup (tab.map entD), .int n] ∧ (∀ e ∈ tab, (0 ≤ e.1 ∧ e.1 < n) ∧ 0 ≤ e.2 ∧ e.2 ≤ 1000000) ∧ R .non M
theorem ok_wrong_entry (T : Tx K mg A) : FnOk P w K mg base CX0 3 A.f_wrong_entry A.d_wrong_entry ["entries", "count"] (spD K S_wrong_entry) := by
  refine fnD T.F_wrong_entry sc_wrong_entry (fun ds M R h => by obtain ⟨tab, n, rfl, _⟩ := h; rfl) fun cdv B up z H E hr ds M R h => ?_
  obtain ⟨tab, n, rfl, he, hR⟩ := h
  refine ⟨_, (pss_cons (ps_for PassesOwn.never rfl (wEnumT K rfl rfl T.n_enumerate (pa_cons (pv 0) pa_nil)) (wTupG K rfl (pg_tup rfl (pgs_cons (pg_name (i := 2) sc_wrong_entry.nd rfl (.inl rfl)) (pgs_cons (pg_name (i := 3) sc_wrong_entry.nd rfl (.inl rfl)) pgs_nil)))) (pss_one (ps_if (pt_not (pt_val (pe_call (ok_is_entry T) (hr.mono (by decide)) (by rfl) T.g_is_entry T.F_is_entry.kp (b_is_entry T) .nil pass0 (pa_cons (pv 3) (pa_cons (pv 1) pa_nil))))) (pss_one (ps_ret (pv 2))) pss_nil))) (pss_one (ps_ret pe_non))), ?_⟩
  walk_at "go"
  refine w_forE (ds := tab.map entD) ?_ (fun i ρ => ∃ a b, ρ = [some (.tup (tab.map entD)), some (.int n), a, b]) ⟨none, none, rfl⟩ (fun i ρ' d hd hinv => ?_) fun ρ' hinv => ?_
  · walk_at "go"
    exact ⟨rfl, rfl⟩
  · obtain ⟨a, b, rfl⟩ := hinv
    obtain ⟨e, _, hm, rfl⟩ := ents_get hd
    walk_at "go"
    refine ⟨e, n, rfl, (he e hm).1, (he e hm).2, ?_⟩
    walk_at "go"
    exact ⟨rfl, _, _, rfl⟩
  · obtain ⟨a, b, rfl⟩ := hinv
    walk_at "go"
    exact hR

theorem rowL_rowI {f : Nat → Int} {n : Nat} : rowL f n = (rowI f n).map DV.int := by unfold rowL; rw [List.map_map]; rfl
/-! ### walkers: the code -/
def walkTold (n b : Int) (tab : List (Int × Int)) : DV := .tup [.int n, .int b, .tup (tab.map entD)]
def walkF (n b : Int) (tab : List (Int × Int)) : List (Str × DV) := [("count", .int n), ("begin", .int b), ("table", .tup (tab.map entD)), ("told", walkTold n b tab)]
abbrev walkD (A : Ad) (n b : Int) (tab : List (Int × Int)) : DV := .ins A.C_Walker (walkF n b tab)
theorem walk_count {n b : Int} {tab : List (Int × Int)} : (walkF n b tab).lookup ("count" : Str) = some (.int n) := rfl
theorem walk_begin {n b : Int} {tab : List (Int × Int)} : (walkF n b tab).lookup ("begin" : Str) = some (.int b) := rfl
theorem walk_table {n b : Int} {tab : List (Int × Int)} : (walkF n b tab).lookup ("table" : Str) = some (.tup (tab.map entD)) := rfl
theorem walk_told {n b : Int} {tab : List (Int × Int)} : (walkF n b tab).lookup ("told" : Str) = some (walkTold n b tab) := rfl
local macro_rules | `(tactic| walk_at "fl") => `(tactic| first | exact walk_count | exact walk_begin | exact walk_table | exact walk_told)
local macro_rules | `(tactic| walk_at "cl") => `(tactic| exact Tx.cl_Walker (by assumption))
local macro_rules | `(tactic| walk_at "na") => `(tactic| first | exact Tx.na_Walker_count (by assumption) | exact Tx.na_Walker_begin (by assumption) | exact Tx.na_Walker_table (by assumption) | exact Tx.na_Walker_told (by assumption))
def S_Walker_init (A : Ad) : SpecD := fun ds M R => ∃ (x : Addr) (n b : Int) (tab : List (Int × Int)) (M' : Ms), ds = [.raw (.ref x), .int n, .int b, .tup (tab.map entD)] ∧ M = (x, MO.ins A.C_Walker []) :: M' ∧ WalkOk n b tab ∧ R .non ((x, MO.ins A.C_Walker (walkF n b tab)) :: M')
theorem ok_Walker_init (T : Tx K mg A) : FnOk P w K mg base CX0 4 A.f_Walker_init A.d_Walker_init ["self", "count", "begin", "table"] (spD K (S_Walker_init A)) := by
  refine fnD T.F_Walker_init sc_Walker_init (fun ds M R h => by obtain ⟨x, n, b, tab, M', rfl, _⟩ := h; rfl) fun cdv B up z H E hr ds M R h => ?_
  obtain ⟨x, n, b, tab, M', rfl, rfl, ⟨hl, n1, n2, b1, b2, he⟩, hR⟩ := h
  refine ⟨_, (pss_cons (ps_if (pt_not (pt_val (pe_call (ok_is_between T) (hr.mono (by decide)) (by rfl) T.g_is_between T.F_is_between.kp (b_is_between T) .nil pass0 (pa_cons (pv 1) (pa_cons pe_int (pa_cons (pe_glob (v := .int 24) (by rfl) (Classical.choose_spec T.c_MOST_VALUES) ⟨_, rfl⟩) pa_nil)))))) (pss_one ps_never) pss_nil) (pss_cons (ps_if (pt_not (pt_val (pe_call (ok_is_between T) (hr.mono (by decide)) (by rfl) T.g_is_between T.F_is_between.kp (b_is_between T) .nil pass0 (pa_cons (pv 2) (pa_cons pe_int (pa_cons (pe_glob (v := .int 1000000) (by rfl) (Classical.choose_spec T.c_MOST_GIFT) ⟨_, rfl⟩) pa_nil)))))) (pss_one ps_never) pss_nil) (pss_cons (ps_if (PW.pt (pw_or (pt_not (pt_val (pe_callB (wIsi K rfl) (by rfl) T.n_isinstance (by decide +kernel) (pa_cons (pv 3) (pa_cons (pe_bltn (v := .ty "tuple") (by rfl) T.n_tuple (by decide +kernel) rfl) pa_nil))))) (pw_or1 (pt_cmpR (wNe K rfl hr) (pe_callB (wLen K rfl) (by rfl) T.n_len PySem.boot_len (pa_cons (pv 3) pa_nil)) (pv 1) (nomark _))))) (pss_one ps_never) pss_nil) (pss_cons (ps_set (i := 4) sc_Walker_init.nd rfl (.inl rfl) (pe_call (ok_wrong_entry T) (hr.mono (by decide)) (by rfl) T.g_wrong_entry T.F_wrong_entry.kp (b_wrong_entry T) .nil pass0 (pa_cons (pv 3) (pa_cons (pv 1) pa_nil)))) (pss_cons (ps_if (pt_cmpR op_notN' (pv 4) pe_non (nomark _)) (pss_one ps_never) pss_nil) (pss_cons (wPutF K rfl (pv 0) (pv 1) rfl) (pss_cons (wPutF K rfl (pv 0) (pv 2) rfl) (pss_cons (wPutF K rfl (pv 0) (pv 3) rfl) (pss_one (wPutF K rfl (pv 0) (pe_tup (pa_cons (pv 1) (pa_cons (pv 2) (pa_cons (pv 3) pa_nil)))) rfl)))))))))), ?_⟩
  walk_at "go"
  refine ⟨tab, n, rfl, he, ?_⟩
  walk_at "go"
  exact hR
theorem evr_Walker {t : TA} {ρ : Rho} {M : Ms} {R : DV → Ms → Prop} (h : EvAR K t ρ M fun ds M1 => ∃ n b tab, ds = [.int n, .int b, .tup (tab.map entD)] ∧ WalkOk n b tab ∧ R (walkD A n b tab) M1) : EvR K (tMake A.C_Walker (spD K (S_Walker_init A)) [] E0 t) ρ M R := by
  refine evr_freezeI (evr_make ?_)
  intro N F σ H S Q q
  refine h N F σ H S Q fun us ds M1 F1 H1 e1 ⟨n, b, tab, hd, hp, hR⟩ w1 r1 => q us ds M1 F1 H1 e1 (fun x => ?_) w1 r1
  subst hd
  exact ⟨x, n, b, tab, M1, rfl, rfl, hp, rfl, x, A.C_Walker, _, M1, rfl, rfl, hR⟩
def MkWalk (A : Ad) (ds : List DV) (M : Ms) (R : DV → Ms → Prop) : Prop := ∃ n b tab, ds = [.int n, .int b, .tup (tab.map entD)] ∧ WalkOk n b tab ∧ R (walkD A n b tab) M
theorem evr_mkwalk {t : TA} {ρ : Rho} {M : Ms} {R : DV → Ms → Prop} (h : EvAR K t ρ M fun ds M1 => MkWalk A ds M1 R) : EvR K (tMake A.C_Walker (spD K (S_Walker_init A)) [] E0 t) ρ M R := evr_Walker h
theorem w_mkwalk {M : Ms} {R : DV → Ms → Prop} {n b : Int} {tab : List (Int × Int)} (hp : WalkOk n b tab) (k : R (walkD A n b tab) M) : MkWalk A [.int n, .int b, .tup (tab.map entD)] M R := ⟨n, b, tab, rfl, hp, k⟩
local macro_rules | `(tactic| walk_at "st_evr") => `(tactic| ((with_reducible show EvR _ (tMake (Ad.C_Walker _) _ _ _ _) _ _ _); refine' evr_mkwalk ?_))
local macro_rules | `(tactic| walk_at "spc") => `(tactic| ((with_reducible refine' w_mkwalk ?aa ?_); (case' aa => try assumption)))
/-- the sums of the gifts, as a pattern is told -/
def S_walked (A : Ad) : SpecD := fun ds M R => ∃ (n b : Int) (tab : List (Int × Int)), ds = [walkD A n b tab] ∧ WalkOk n b tab ∧ ∀ (vs : List Int) (p g : Int), Told vs p g → (∀ x, fnOf vs p g x = wVal tab b x) → R (toldD vs p g) M
theorem ok_walked (T : Tx K mg A) : FnOk P w K mg base CX0 1 A.f_walked A.d_walked ["walker"] (spD K (S_walked A)) := by
  refine fnD T.F_walked sc_walked (fun ds M R h => by obtain ⟨n, b, tab, rfl, _⟩ := h; rfl) fun cdv B up z H E hr ds M R h => ?_
  obtain ⟨n, b, tab, rfl, hw, hR⟩ := h
  have hl := hw.l; have n1 := hw.n1; have n2 := hw.n2
  refine ⟨_, (pss_cons (ps_par (i := 1) (j := 2) rfl sc_walked.nd rfl rfl (by decide) rfl rfl (pa_cons (pe_lst (pa_cons pe_int pa_nil)) (pa_cons (pe_lst (pa_cons (wFld K rfl (pv 0) rfl) pa_nil)) pa_nil)) rfl) (pss_cons (ps_while PassesOwn.never (pt_cmpR (wNotIn K rfl) (pe_ix (wIx K rfl) (pv 1) (pe_un un_neg pe_int) (fun _ _ => rfl)) (pe_slice (wSl K rfl) (pv 1) po_none (po_some (pe_un un_neg pe_int))) (by rfl)) (pss_cons (ps_asg (pe_ix (wIx K rfl) (wFld K rfl (pv 0) rfl) (pe_ix (wIx K rfl) (pv 1) (pe_un un_neg pe_int) (fun _ _ => rfl)) (fun _ _ => rfl)) (wTupG K rfl (pg_tup rfl (pgs_cons (pg_name (i := 3) sc_walked.nd rfl (.inl rfl)) (pgs_cons (pg_name (i := 4) sc_walked.nd rfl (.inl rfl)) pgs_nil))))) (pss_cons (ps_expr (wBm K rfl (pe_bm PySem.F.plainAttrs_list PySem.F.slot_list_append PySem.F.type_list_append mt_append (pv 1) (pa_cons (pv 3) pa_nil)))) (pss_one (ps_expr (wBm K rfl (pe_bm PySem.F.plainAttrs_list PySem.F.slot_list_append PySem.F.type_list_append mt_append (pv 2) (pa_cons (pe_op (wAdd K rfl) (pe_ix (wIx K rfl) (pv 2) (pe_un un_neg pe_int) (fun _ _ => rfl)) (pv 4)) pa_nil)))))))) (pss_cons (ps_set (i := 5) sc_walked.nd rfl (.inl rfl) (wBm K rfl (pe_bm PySem.F.plainAttrs_list PySem.F.slot_list_index PySem.F.type_list_index mt_index (pv 1) (pa_cons (pe_ix (wIx K rfl) (pv 1) (pe_un un_neg pe_int) (fun _ _ => rfl)) pa_nil)))) (pss_one (ps_ret (pe_tup (pa_cons (pe_callTy (wTupOf K rfl) (by rfl) T.n_tuple (by decide +kernel) (pa_cons (pe_slice (wSl K rfl) (pv 2) po_none (po_some (pe_un un_neg pe_int))) pa_nil)) (pa_cons (pe_op op_sub (pe_op op_sub (pe_callB (wLen K rfl) (by rfl) T.n_len PySem.boot_len (pa_cons (pv 1) pa_nil)) pe_int) (pv 5)) (pa_cons (pe_op op_sub (pe_ix (wIx K rfl) (pv 2) (pe_un un_neg pe_int) (fun _ _ => rfl)) (pe_ix (wIx K rfl) (pv 2) (pv 5) (fun _ _ => rfl))) pa_nil))))))))), ?_⟩
  refine xs_out (xs_seq (w_par (ear_cons (evr_lstC ?_))))
  walk_at "go"
  refine fun sA => ear_cons (evr_lstC ?_)
  walk_at "go"
  refine fun vA => ?_
  walk_at "go"
  refine xs_while (fun m ρ M' => ∃ (i : Nat) (c d e : Option DV), m + i = n.toNat ∧ M' = (vA, MO.lst ((rowI (wVal tab b) (i + 1)).map .int)) :: (sA, MO.lst ((rowI (wSt tab) (i + 1)).map .int)) :: M ∧ ρ = [some (walkD A n b tab), some (.raw (.ref sA)), some (.raw (.ref vA)), c, d, e] ∧ ∀ x y, x < i → y < i → wSt tab x = wSt tab y → x = y) (m := n.toNat)
    ⟨0, none, none, none, rfl, rfl, rfl, fun x y h => absurd h (Nat.not_lt_zero _)⟩ fun m ρ' M' hinv => ?_
  obtain ⟨i, c, d, e, hm, rfl, rfl, hinj⟩ := hinv
  have hin : i ≤ n.toNat := by omega
  have hst := wSt_ok hw i
  walk_at "go"
  rw [cut_lastI]
  walk_at "go"
  · have hc : (rowI (wSt tab) i).contains (wSt tab i) = true := by assumption
    obtain ⟨f, hf, hfe, hfm⟩ := least_ix i (rowI_contains.mp hc)
    have hix : ∀ {ρ : Rho} {M' : Ms}, ρ[1]? = some (some (.raw (.ref sA))) → (sA, MO.lst ((rowI (wSt tab) (i + 1)).map .int)) ∈ M' → Ev K (tBM K "list" (rIndex K) (tVar 1) (tCons (tOp (rIx K) (tVar 1) (tUn (rU fun i => .int (-i)) (tC (.int 1)))) tNil)) ρ M' (.int f) := fun {ρ M'} h1 hm => by
      refine ev_indexC hm (ev_var h1) (ea_cons (ev_op (ev_var h1) (ev_un ev_cI ru_neg) (rv_ixC hm atI_lastI)) ea_nil) (by rw [rowI_get (by omega), hfe]) fun m hmf e => ?_
      rw [rowI_get (by omega)] at e
      exact hfm m hmf (Option.some.inj e)
    refine Ev.go (hix ?_ ?_) ?_
    · rfl
    · exact List.mem_cons_of_mem _ List.mem_cons_self
    walk_at "go"
    rw [cut_lastI]
    walk_at "go"
    have hper := walk_per (b := b) hfe.symm (Nat.le_of_lt hf)
    have hv := fun k => wVal_ok hw k
    have e : DV.tup [.tup ((rowI (wVal tab b) i).map .int), .int (((((rowI (wSt tab) (i + 1)).map DV.int).length : Nat) : Int) - 1 - f), .int (wVal tab b i - wVal tab b ((f : Int)).toNat)] = toldD (rowI (wVal tab b) i) ((i - f : Nat) : Int) (wVal tab b i - wVal tab b f) := by
      rw [List.length_map, rowI_len, show (((i + 1 : Nat) : Int) - 1 - (f : Int)) = ((i - f : Nat) : Int) by omega, Int.toNat_natCast]; rfl
    refine ⟨[_, _], M, rfl, ?_⟩
    show R _ M
    rw [e]
    have v1 := hv i
    have v2 := hv f
    refine hR _ _ _ ⟨by omega, by rw [rowI_len]; omega, by rw [rowI_len]; omega, by omega, by omega⟩ fun x => fnOf_ext (n := i) (q := i - f) (by rw [show i - (i - f) = f by omega]; exact hper) (by omega) (by omega) x
  · have hnc : (rowI (wSt tab) i).contains (wSt tab i) = false := by assumption
    have hne : ∀ x, x < i → wSt tab x ≠ wSt tab i := fun x hx e => by
      have := rowI_contains.mpr ⟨x, hx, e⟩
      rw [hnc] at this; cases this
    have hinj2 : ∀ x y, x < i + 1 → y < i + 1 → wSt tab x = wSt tab y → x = y := fun x y hx hy e => by
      by_cases ex : x = i
      · by_cases ey : y = i
        · omega
        · subst ex; exact absurd e.symm (hne y (by omega))
      · by_cases ey : y = i
        · subst ey; exact absurd e (hne x (by omega))
        · exact hinj x y (by omega) (by omega) e
    have hpig : i + 1 ≤ n.toNat := by
      have := nodup_below n.toNat ((List.range (i + 1)).map fun x => (wSt tab x).toNat) (List.pairwise_map.mpr (List.pairwise_lt_range.imp_of_mem fun {x y} hx hy hxy e => by
        have a := wSt_ok hw x
        have c := wSt_ok hw y
        have := hinj2 x y (List.mem_range.mp hx) (List.mem_range.mp hy) (by omega)
        omega)) (fun x hx => by
        obtain ⟨y, _, rfl⟩ := List.mem_map.mp hx
        have := wSt_ok hw y
        omega)
      rw [List.length_map, List.length_range] at this
      exact this
    refine ⟨m - 1, by omega, i + 1, _, _, _, by omega, ?_, rfl, hinj2⟩
    show (vA, MO.lst ((rowI (wVal tab b) (i + 1)).map DV.int ++ [.int (wVal tab b (i + 1))])) :: (sA, MO.lst ((rowI (wSt tab) (i + 1)).map DV.int ++ [.int (wSt tab (i + 1))])) :: M = _
    rw [rowI_snoc, rowI_snoc]
/-- the walker of a pattern that never falls -/
theorem plainTab_ok {vs : List Int} {p g : Int} {t r : Nat} {c : Int} (hp : PatOk vs p g) (hup : ∀ x : Nat, fnOf vs p g x ≤ fnOf vs p g (x + 1)) (h : Plain (fnOf vs p g) t r c) (hl : t + r ≤ vs.length) : WalkOk ((t + r : Nat) : Int) (fnOf vs p g 0) (plainTab (fnOf vs p g) t r) := by
  have q1 := h.q1; have l2 := hp.l2; have hg2 := hp.g2
  have hg := h.gain (p := p.toNat) (by have := hp.p1; omega) (per_told (g := g) hp.p1 hp.p2) hp.g1
  have small : ∀ x : Nat, x < vs.length → 0 ≤ fnOf vs p g x ∧ fnOf vs p g x ≤ 1000000 := fun x hx => by rw [fnOf_lt hx]; exact hp.hv _ (getD_mem hx)
  have mono : ∀ d x : Nat, fnOf vs p g x ≤ fnOf vs p g (x + d) := fun d => by
    induction d with
    | zero => intro x; exact Int.le_refl _
    | succ d ih => intro x; have := ih x; have := hup (x + d); rw [show x + (d + 1) = x + d + 1 by omega]; omega
  have s0 := small 0 (by omega)
  refine ⟨by unfold plainTab; rw [List.length_map, List.length_range], by omega, by omega, s0.1, s0.2, fun e he => ?_⟩
  obtain ⟨a, ha, rfl⟩ := List.mem_map.mp he
  have ha := List.mem_range.mp ha
  refine ⟨?_, ?_⟩
  · show 0 ≤ (if a + 1 < t + r then ((a + 1 : Nat) : Int) else ((t : Nat) : Int)) ∧ (if a + 1 < t + r then ((a + 1 : Nat) : Int) else ((t : Nat) : Int)) < _
    split <;> omega
  · show 0 ≤ fnOf vs p g (a + 1) - fnOf vs p g a ∧ fnOf vs p g (a + 1) - fnOf vs p g a ≤ 1000000
    have h1 := hup a
    have h2 := small a (by omega)
    refine ⟨by omega, ?_⟩
    by_cases hs : a + 1 < t + r
    · have := small (a + 1) (by omega); omega
    · have h3 := h.per t (Nat.le_refl _)
      have h4 := mono (r - 1) t
      rw [show t + r = a + 1 by omega] at h3
      rw [show t + (r - 1) = a by omega] at h4
      omega
def S_walker_of (A : Ad) : SpecD := fun ds M R => ∃ (vs : List Int) (p g : Int), ds = [patD A vs p g] ∧ PatOk vs p g ∧ (∀ x : Nat, fnOf vs p g x ≤ fnOf vs p g (x + 1)) ∧ ∀ t r c, Plain (fnOf vs p g) t r c → t + r ≤ vs.length → WalkOk ((t + r : Nat) : Int) (fnOf vs p g 0) (plainTab (fnOf vs p g) t r) → R (walkD A ((t + r : Nat) : Int) (fnOf vs p g 0) (plainTab (fnOf vs p g) t r)) M
theorem ok_walker_of (T : Tx K mg A) : FnOk P w K mg base CX0 6 A.f_walker_of A.d_walker_of ["pattern"] (spD K (S_walker_of A)) := by
  refine fnD T.F_walker_of sc_walker_of (fun ds M R h => by obtain ⟨vs, p, g, rfl, _⟩ := h; rfl) fun cdv B up z H E hr ds M R h => ?_
  obtain ⟨vs, p, g, rfl, hp, hup, hR⟩ := h
  refine ⟨_, (pss_cons (ps_asg (pe_call (ok_plain_told T) (hr.mono (by decide)) (by rfl) T.g_plain_told T.F_plain_told.kp (b_plain_told T) .nil pass0 (pa_cons (wFld K rfl (pv 0) rfl) pa_nil)) (wTupG K rfl (pg_tup rfl (pgs_cons (pg_name (i := 1) sc_walker_of.nd rfl (.inl rfl)) (pgs_cons (pg_name (i := 2) sc_walker_of.nd rfl (.inl rfl)) (pgs_cons (pg_name (i := 3) sc_walker_of.nd rfl (.inl rfl)) pgs_nil)))))) (pss_cons (ps_set (i := 4) sc_walker_of.nd rfl (.inl rfl) (pe_lst pa_nil)) (pss_cons (ps_for PassesOwn.never rfl (pi_range1 rfl T.n_range (pa_cons (pe_callB (wLen K rfl) (by rfl) T.n_len PySem.boot_len (pa_cons (pv 1) pa_nil)) pa_nil)) (pg_name (i := 5) sc_walker_of.nd rfl (.inl rfl)) (pss_cons (ps_set (i := 6) sc_walker_of.nd rfl (.inl rfl) (pe_ifExp (pt_cmpR op_lt (pe_op (wAdd K rfl) (pv 5) pe_int) (pe_callB (wLen K rfl) (by rfl) T.n_len PySem.boot_len (pa_cons (pv 1) pa_nil)) (nomark _)) (pe_op (wAdd K rfl) (pv 5) pe_int) (pe_op op_sub (pe_callB (wLen K rfl) (by rfl) T.n_len PySem.boot_len (pa_cons (pv 1) pa_nil)) (pv 2)))) (pss_one (ps_expr (wBm K rfl (pe_bm PySem.F.plainAttrs_list PySem.F.slot_list_append PySem.F.type_list_append mt_append (pv 4) (pa_cons (pe_tup (pa_cons (pv 6) (pa_cons (pe_op op_sub (pe_meth (pv 0) T.cl_Pattern T.m_Pattern_at (ok_Pattern_at T) (hr.mono (by decide)) (b_Pattern_at T) .nil pass0 (pa_cons (pe_op (wAdd K rfl) (pv 5) pe_int) pa_nil)) (pe_meth (pv 0) T.cl_Pattern T.m_Pattern_at (ok_Pattern_at T) (hr.mono (by decide)) (b_Pattern_at T) .nil pass0 (pa_cons (pv 5) pa_nil))) pa_nil))) pa_nil))))))) (pss_one (ps_ret (pe_make T.mk_Walker (ok_Walker_init T) (hr.mono (by decide)) (by rfl) T.g_Walker (b_Walker_init T) .nil pass0 (pa_cons (pe_callB (wLen K rfl) (by rfl) T.n_len PySem.boot_len (pa_cons (pv 1) pa_nil)) (pa_cons (pe_meth (pv 0) T.cl_Pattern T.m_Pattern_at (ok_Pattern_at T) (hr.mono (by decide)) (b_Pattern_at T) .nil pass0 (pa_cons pe_int pa_nil)) (pa_cons (pe_callTy (wTupOf K rfl) (by rfl) T.n_tuple (by decide +kernel) (pa_cons (pv 4) pa_nil)) pa_nil))))))))), ?_⟩
  refine xs_out ?_
  walk_at "go"
  refine ⟨vs, p, g, rfl, hp.told, fun t r c hpl hle => ?_⟩
  have hok := plainTab_ok hp hup hpl hle
  have hfin := hR t r c hpl hle hok
  have q1 := hpl.q1; have l2 := hp.l2
  rw [rowL_rowI]
  walk_at "go"
  rename_i a
  refine w_for1M (t + r) (by omega) ?_ (fun i ρ' M' => (∃ b e, ρ' = [some (patD A vs p g), some (.tup ((rowI (fnOf vs p g) (t + r)).map .int)), some (.int (r : Nat)), some (.int c), some (.raw (.ref a)), b, e]) ∧ M' = (a, MO.lst (((plainTab (fnOf vs p g) t r).take i).map entD)) :: M) ⟨⟨none, none, rfl⟩, rfl⟩ (fun i ρ' M' hi hinv => ?_) fun ρ' M' hinv => ?_
  · walk_at "go"
    exact ⟨rfl, rfl⟩
  · obtain ⟨⟨b, e, rfl⟩, rfl⟩ := hinv
    have hsn : ∀ x : Int, x = (if i + 1 < t + r then ((i + 1 : Nat) : Int) else ((t : Nat) : Int)) → ((plainTab (fnOf vs p g) t r).take i).map entD ++ [.tup [.int x, .int (valAt vs p g ((i : Int) + 1) - valAt vs p g (i : Int))]] = ((plainTab (fnOf vs p g) t r).take (i + 1)).map entD := fun x hx => by
      have hlt : i < (plainTab (fnOf vs p g) t r).length := by unfold plainTab; rw [List.length_map, List.length_range]; exact hi
      rw [List.take_succ_eq_append_getElem hlt, List.map_append]
      congr 1
      show _ = [entD ((plainTab (fnOf vs p g) t r)[i])]
      have := plainTab_get (f := fnOf vs p g) (t := t) (r := r) hi
      rw [List.getD_eq_getElem?_getD, List.getElem?_eq_getElem hlt] at this
      rw [show (plainTab (fnOf vs p g) t r)[i] = _ from this, hx]
      rfl
    have hlt : ((plainTab (fnOf vs p g) t r).take i).length ≤ 1000 := by
      have := List.length_take_le i (plainTab (fnOf vs p g) t r); omega
    walk_at "go"
    · refine ⟨⟨_, _, rfl⟩, ?_⟩
      rw [← hsn ((i : Int) + 1) (by rw [if_pos (by omega)]; omega)]; rfl
    · refine ⟨⟨_, _, rfl⟩, ?_⟩
      rw [← hsn (((t + r : Nat) : Int) - (r : Int)) (by rw [if_neg (by omega)]; omega)]; rfl
  · obtain ⟨⟨b, e, rfl⟩, rfl⟩ := hinv
    have hall : (plainTab (fnOf vs p g) t r).take (t + r) = plainTab (fnOf vs p g) t r := by
      refine List.take_of_length_le ?_
      unfold plainTab; rw [List.length_map, List.length_range]; exact Nat.le_refl _
    rw [hall]
    walk_at "go"
    exact ⟨[_], M, rfl, hfin⟩

/-- the least gain: some number -/
def S_least : SpecD := fun ds M R => ∃ (a : Addr) (vs : List Int) (p B : Int), ds = [.raw (.ref a), .int p] ∧ (a, MO.lst (vs.map .int)) ∈ M ∧ 1 ≤ p ∧ p ≤ vs.length ∧ vs.length ≤ 100 ∧ (∀ v ∈ vs, 0 ≤ v ∧ v ≤ B) ∧ B ≤ 100000 ∧ ∀ r : Int, 0 ≤ r → r ≤ 2 * B → R (.int r) M
theorem neg_div_le {a r B : Int} (h : -B ≤ a) (hB : 0 ≤ B) (hr : 1 ≤ r) : -(a / r) ≤ B := by
  have h1 : -B ≤ a / r := by
    refine (Int.le_ediv_iff_mul_le (by omega)).mpr ?_
    have := Int.mul_le_mul_of_nonneg_left hr hB
    have e : -B * r = -(B * r) := Int.neg_mul B r
    omega
  omega
theorem ok__law_least_gain (T : Tx K mg A) : FnOk P w K mg base CX0 3 A.f__law_least_gain A.d__law_least_gain ["firsts", "period"] (spD K S_least) := by
  refine fnD T.F__law_least_gain sc__law_least_gain (fun ds M R h => by obtain ⟨a, vs, p, B, rfl, _⟩ := h; rfl) fun cdv B' up z H E hr ds M R h => ?_
  obtain ⟨a, vs, p, B, rfl, hm, p1, p2, hl, hv, hB, hR⟩ := h
  refine ⟨_, (pss_cons (ps_set (i := 2) sc__law_least_gain.nd rfl (.inl rfl) (pe_lst (pa_cons pe_int pa_nil))) (pss_cons (ps_for PassesOwn.never rfl (pi_range1 rfl T.n_range (pa_cons (pe_callB (wLen K rfl) (by rfl) T.n_len PySem.boot_len (pa_cons (pv 0) pa_nil)) pa_nil)) (pg_name (i := 3) sc__law_least_gain.nd rfl (.inl rfl)) (pss_one (ps_for PassesOwn.never rfl (pi_range2 rfl T.n_range (pa_cons (pv 3) (pa_cons (pe_callB (wLen K rfl) (by rfl) T.n_len PySem.boot_len (pa_cons (pv 0) pa_nil)) pa_nil))) (pg_name (i := 4) sc__law_least_gain.nd rfl (.inl rfl)) (pss_one (ps_if (pt_cmpR op_ge (pe_op (wAdd K rfl) (pv 3) (pv 4)) (pe_callB (wLen K rfl) (by rfl) T.n_len PySem.boot_len (pa_cons (pv 0) pa_nil)) (nomark _)) (pss_cons (ps_set (i := 5) sc__law_least_gain.nd rfl (.inl rfl) (pe_op (wAdd K rfl) (pe_op op_fdiv (pe_callTy wInt (by rfl) T.n_int (by decide +kernel) (pa_cons (pe_op op_sub (pe_op (wAdd K rfl) (pv 3) (pv 4)) (pe_callB (wLen K rfl) (by rfl) T.n_len PySem.boot_len (pa_cons (pv 0) pa_nil))) pa_nil)) (pv 1)) pe_int)) (pss_one (ps_expr (wBm K rfl (pe_bm PySem.F.plainAttrs_list PySem.F.slot_list_append PySem.F.type_list_append mt_append (pv 2) (pa_cons (pe_un un_neg (pe_op op_fdiv (pe_op op_sub (pe_op op_sub (pe_ix (wIx K rfl) (pv 0) (pe_op op_sub (pe_op (wAdd K rfl) (pv 3) (pv 4)) (pe_op (wMul K rfl) (pv 5) (pv 1))) (fun _ _ => rfl)) (pe_ix (wIx K rfl) (pv 0) (pv 3) (fun _ _ => rfl))) (pe_ix (wIx K rfl) (pv 0) (pv 4) (fun _ _ => rfl))) (pv 5))) pa_nil)))))) pss_nil))))) (pss_one (ps_ret (pe_callB (wMaxL K rfl rfl) (by rfl) T.n_max (by decide +kernel) (pa_cons (pv 2) pa_nil)))))), ?_⟩
  have hB0 : 0 ≤ B := by have := hv _ (getD_mem (show 0 < vs.length by omega)); omega
  refine xs_asgE (evr_lstC (ear_cons (Ev.go ev_cI (ear_nil ⟨by simp, fun f => bd_name ?_⟩))))
  have len : ∀ {ρ : Rho} {M' : Ms}, ρ[0]? = some (some (.raw (.ref a))) → (a, MO.lst (vs.map .int)) ∈ M' → Ev K (tCB (DD.rLen K) (tCons (tVar 0) tNil)) ρ M' (.int vs.length) := fun {ρ M'} h hm => Ev.is (ev_cb (ea_cons (ev_var h) ea_nil) (rc_lenC hm)) (by rw [List.length_map])
  have hmf : ∀ o, (a, MO.lst (vs.map .int)) ∈ (f, o) :: M := fun o => List.mem_cons_of_mem _ hm
  refine xs_seq (xs_for (ei_rng1 (j := vs.length) (RM := fun M' => M' = (f, MO.lst [.int 0]) :: M) (EvA.go (ea_cons (len rfl (hmf _)) ea_nil) ⟨rfl, rfl⟩) ⟨by omega, by omega⟩) (fun i ρ M' => ∃ (ws : List Int) (b c d : Option DV), M' = (f, MO.lst (ws.map .int)) :: M ∧ ρ = [some (.raw (.ref a)), some (.int p), some (.raw (.ref f)), b, c, d] ∧ (0 : Int) ∈ ws ∧ (∀ w ∈ ws, w ≤ 2 * B) ∧ ws.length ≤ 1 + 100 * i)
    (fun M' e => ⟨[0], none, none, none, e, rfl, by simp, fun w h => by rw [List.mem_singleton.mp h]; omega, by simp⟩) (fun _ _ _ _ _ c hc => nomatch hc) (fun i ρ M' hlt hinv => ?_) fun ρ M' hinv => ?_)
  · obtain ⟨ws, b, c, d, rfl, rfl, hz, hw, hwl⟩ := hinv
    refine bd_name ?_
    refine xs_for (ei_rng2 (lo := i) (j := vs.length) (RM := fun M'' => M'' = (f, MO.lst (ws.map .int)) :: M) (EvA.go (ea_cons (ev_var rfl) (ea_cons (len rfl (hmf _)) ea_nil)) ⟨rfl, rfl⟩) ⟨by omega, by omega, by omega, by omega⟩) (fun k ρ M'' => ∃ (us : List Int) (c d : Option DV), M'' = (f, MO.lst (us.map .int)) :: M ∧ ρ = [some (.raw (.ref a)), some (.int p), some (.raw (.ref f)), some (.int i), c, d] ∧ (0 : Int) ∈ us ∧ (∀ w ∈ us, w ≤ 2 * B) ∧ us.length ≤ 1 + 100 * i + k)
      (fun M'' e => ⟨ws, c, d, e, rfl, hz, hw, by omega⟩) (fun _ _ _ _ _ c hc => nomatch hc) (fun k ρ M'' hk hinv => ?_) fun ρ M'' hinv => ?_
    · obtain ⟨us, c, d, rfl, rfl, hz, hw, hul⟩ := hinv
      refine bd_name ?_
      refine xs_if2 (et_test (ev_op (ev_op (ev_var rfl) (ev_var rfl) rv_add) (len rfl (hmf _)) rv_B0)) (fun hb => ?_) fun _ => xs_next ⟨us, _, _, rfl, rfl, hz, hw, by omega⟩
      have hb := of_decide_eq_true hb
      have hr2 := round_lo (x := (i : Int) + ((i : Int) + (k : Int))) p1 p2 hb
      have hq : 0 ≤ ((i : Int) + ((i : Int) + (k : Int)) - vs.length) / p := Int.ediv_nonneg (by omega) (by omega)
      have hq2 : ((i : Int) + ((i : Int) + (k : Int)) - vs.length) / p ≤ (i : Int) + ((i : Int) + (k : Int)) - vs.length := Int.ediv_le_self _ (by omega)
      refine xs_setE (d := .int (((i : Int) + ((i : Int) + (k : Int)) - vs.length) / p + 1)) (ev_op (ev_op (ev_cb (ea_cons (ev_op (ev_op (ev_var rfl) (ev_var rfl) rv_add) (len rfl (hmf _)) rv_I0) ea_nil) rc_int) (ev_var rfl) (rv_I (by show CDiv _ _; exact ⟨by omega, by omega⟩))) ev_cI rv_add) ?_
      have hrb : 1 ≤ ((i : Int) + ((i : Int) + (k : Int)) - vs.length) / p + 1 ∧ ((i : Int) + ((i : Int) + (k : Int)) - vs.length) / p + 1 ≤ 1000 := by omega
      generalize ((i : Int) + ((i : Int) + (k : Int)) - vs.length) / p + 1 = r at hr2 hrb ⊢
      have at1 : ∀ {te : TE} {z : Int} {ρ : Rho}, ρ[0]? = some (some (.raw (.ref a))) → Ev K te ρ ((f, MO.lst (us.map .int)) :: M) (.int z) → 0 ≤ z → z < vs.length → Ev K (tOp (rIx K) (tVar 0) te) ρ ((f, MO.lst (us.map .int)) :: M) (.int (vs.getD z.toNat 0)) := fun {te z ρ} h0 he z0 z1 => ev_op (ev_var h0) he (rv_ixC (hmf _) (atI_ints z0 z1))
      have e1 : Ev K (tOp (rI0 fun i j => .int (i - j)) (tOp (rAddU K) (tVar 3) (tVar 4)) (tOp (rMulU K) (tVar 5) (tVar 1))) [some (.raw (.ref a)), some (.int p), some (.raw (.ref f)), some (.int (i : Int)), some (.int ((i : Int) + (k : Int))), some (.int r)] ((f, MO.lst (us.map .int)) :: M) (.int ((i : Int) + ((i : Int) + (k : Int)) - r * p)) := ev_op (ev_op (ev_var rfl) (ev_var rfl) rv_add) (ev_op (ev_var rfl) (ev_var rfl) (rv_mul (.inr ⟨by omega, by omega⟩))) rv_I0
      refine xs_drop (evr_append (i := 0) (a := f) (xs := us.map .int) (Ev.go (ev_var rfl) ⟨rfl, rfl, by rw [List.length_map]; omega, EvA.go (ea_cons (ev_un (ev_op (ev_op (ev_op (at1 rfl e1 hr2.1 hr2.2) (at1 (z := (i : Int)) rfl (ev_var rfl) (by omega) (by omega)) rv_I0) (at1 (z := (i : Int) + (k : Int)) rfl (ev_var rfl) (by omega) (by omega)) rv_I0) (ev_var rfl) (rv_I (by show CDiv _ _; exact ⟨by omega, by omega⟩))) ru_neg) ea_nil) ⟨_, rfl, rfl, ?_⟩⟩))
      have g1 := hv _ (getD_mem (show ((i : Int) + ((i : Int) + (k : Int)) - r * p).toNat < vs.length by omega))
      have g2 := hv _ (getD_mem (show (i : Int).toNat < vs.length by omega))
      have g3 := hv _ (getD_mem (show ((i : Int) + (k : Int)).toNat < vs.length by omega))
      refine ⟨us ++ [_], _, _, by rw [List.map_append]; rfl, rfl, List.mem_append_left _ hz, fun w h => ?_, by simp; omega⟩
      rcases List.mem_append.mp h with h | h
      · exact hw w h
      · rw [List.mem_singleton.mp h]; exact neg_div_le (by omega) (by omega) (by omega)
    · obtain ⟨us, c, d, rfl, rfl, hz, hw, hul⟩ := hinv
      refine ⟨us, _, _, _, rfl, rfl, hz, hw, ?_⟩
      have : ((vs.length : Int) - (i : Int)).toNat ≤ 100 := by omega
      omega
  · obtain ⟨ws, b, c, d, rfl, rfl, hz, hw, hwl⟩ := hinv
    refine xs_ret (evr_drop (evr_cb (EvA.go (ea_cons (ev_var rfl) ea_nil) (rcr_maxC List.mem_cons_self (List.length_pos_of_mem hz) fun m hm hx => ⟨_, M, rfl, hR m (hx 0 hz) (hw m hm)⟩))))

/-- some pattern of at most so many values -/
def S_form : SpecD := fun ds M R => ∃ (j : Addr) (most : Int), ds = [.raw (.ref j), .int most] ∧ (j, jugO) ∈ M ∧ 1 ≤ most ∧ most ≤ 24 ∧ ∀ (vs : List Int) (p g : Int), PatOk vs p g ∧ (∀ v ∈ vs, v ≤ 1000) ∧ g ≤ 1000 → vs.length ≤ most → R (toldD vs p g) M
/-- a list of draws below top -/
theorem evr_draws {ρ : Rho} {M : Ms} {R : DV → Ms → Prop} {j : Addr} {i k : Nat} {ti : TA} {n : Int} {tt : TE} {top : Int} (hj : (wipeD ρ [k])[i]? = some (some (.raw (.ref j)))) (hik : i ≠ k) (hm : (j, jugO) ∈ M) (hn : EvA K ti ρ M [.int n]) (n0 : 0 ≤ n) (n1 : n ≤ 1000) (ht : ∀ x, Ev K tt ((wipeD ρ [k]).set k (some x)) M (.int top)) (t0 : 0 < top) (t1 : top < 1073741824)
    (q : ∀ vs : List Int, (vs.length : Int) = n → (∀ v ∈ vs, 0 ≤ v ∧ v < top) → R (.lst (vs.map .int)) M) : EvR K (tLc (iRng1 ti) (gName k) tYes (tCall (spD K S_pour) [] E0 (tCons (tVar i) (tCons tt tNil))) [k]) ρ M R := by
  refine evr_lc (ei_rng1 (j := n) (RM := fun M' => M' = M) (hn.go ⟨rfl, rfl⟩) ⟨by omega, by omega⟩) (by omega) (fun i acc M' => M' = M ∧ ∃ vs : List Int, acc = vs.map .int ∧ vs.length = i ∧ ∀ v ∈ vs, 0 ≤ v ∧ v < top) (fun M' e => ⟨e, [], rfl, rfl, fun v h => nomatch h⟩) (fun _ _ _ _ _ c hc => nomatch hc) (bdw_name (by simp)) (fun i' acc M' hi hinv => ?_) fun acc M' hl hinv => ?_
  · obtain ⟨rfl, vs, rfl, hl, hv⟩ := hinv
    refine bd_name (etr_yes ?_)
    show EvR K _ _ _ _
    refine evr_pour (by rw [List.getElem?_set_ne (Ne.symm hik)]; exact hj) hm (ht _) t0 t1 fun r r0 r1 => ⟨rfl, vs ++ [r], by simp, by simp [hl], fun v h => ?_⟩
    rcases List.mem_append.mp h with h | h
    · exact hv v h
    · rw [List.mem_singleton.mp h]; exact ⟨r0, r1⟩
  · obtain ⟨rfl, vs, rfl, hl2, hv⟩ := hinv
    exact q vs (by omega) hv
theorem monotone_snoc {vs : List Int} {r : Int} (h : ∀ i j : Nat, i ≤ j → j < vs.length → vs.getD i 0 ≤ vs.getD j 0) (hr : ∀ v ∈ vs, v ≤ r) : ∀ i j : Nat, i ≤ j → j < (vs ++ [r]).length → (vs ++ [r]).getD i 0 ≤ (vs ++ [r]).getD j 0 := by
  intro i j hij hj
  rw [List.length_append] at hj
  simp only [List.length_singleton] at hj
  have at_end : ∀ i, i < vs.length → (vs ++ [r]).getD i 0 = vs.getD i 0 := fun i hi => by rw [List.getD_eq_getElem?_getD, List.getElem?_append_left hi, ← List.getD_eq_getElem?_getD]
  have last : (vs ++ [r]).getD vs.length 0 = r := by rw [List.getD_eq_getElem?_getD, List.getElem?_append_right (Nat.le_refl _), Nat.sub_self]; rfl
  by_cases h1 : j < vs.length
  · rw [at_end j h1, at_end i (by omega)]; exact h i j hij h1
  · have e : j = vs.length := by omega
    subst e
    rw [last]
    by_cases h2 : i < vs.length
    · rw [at_end i h2]; exact hr _ (getD_mem h2)
    · rw [show i = vs.length by omega, last]; exact Int.le_refl _
theorem ok__law_form (T : Tx K mg A) : FnOk P w K mg base CX0 4 A.f__law_form A.d__law_form ["jug", "most"] (spD K S_form) := by
  refine fnD T.F__law_form sc__law_form (fun ds M R h => by obtain ⟨j, most, rfl, _⟩ := h; rfl) fun cdv B' up z H E hr ds M R h => ?_
  obtain ⟨j, most, rfl, hm, m1, m2, hR⟩ := h
  refine ⟨_, (pss_cons (ps_par (i := 2) (j := 3) rfl sc__law_form.nd rfl rfl (by decide) rfl rfl (pa_cons (pe_op (wAdd K rfl) pe_int (pe_call (ok__law_pour T) (hr.mono (by decide)) (by rfl) T.g__law_pour T.F__law_pour.kp (b__law_pour T) .nil pass0 (pa_cons (pv 0) (pa_cons (pv 1) pa_nil)))) (pa_cons (pe_call (ok__law_pour T) (hr.mono (by decide)) (by rfl) T.g__law_pour T.F__law_pour.kp (b__law_pour T) .nil pass0 (pa_cons (pv 0) (pa_cons pe_int pa_nil))) pa_nil)) rfl) (pss_cons (ps_asg (pe_tup (pa_cons (pe_op (wAdd K rfl) pe_int (pe_call (ok__law_pour T) (hr.mono (by decide)) (by rfl) T.g__law_pour T.F__law_pour.kp (b__law_pour T) .nil pass0 (pa_cons (pv 0) (pa_cons (pv 2) pa_nil)))) (pa_cons (pe_call (ok__law_one T) (hr.mono (by decide)) (by rfl) T.g__law_one T.F__law_one.kp (b__law_one T) .nil pass0 (pa_cons (pv 0) (pa_cons (pe_lst (pa_cons pe_int (pa_cons pe_int (pa_cons pe_int pa_nil)))) pa_nil))) pa_nil))) (wTupG K rfl (pg_tup rfl (pgs_cons (pg_name (i := 4) sc__law_form.nd rfl (.inl rfl)) (pgs_cons (pg_name (i := 5) sc__law_form.nd rfl (.inr rfl)) pgs_nil))))) (pss_cons (ps_if (pt_cmpR (wEq K rfl hr) (pv 3) pe_int (nomark _)) (pss_one (ps_ret (pe_tup (pa_cons (pe_callTy (wTupOf K rfl) (by rfl) T.n_tuple (by decide +kernel) (pa_cons (pe_lc (own := [("k", 6)]) rfl sc__law_form.nd (pi_range1 rfl T.n_range (pa_cons (pv 2) pa_nil)) (blkOk_by (own := [("k", 6)]) (N := ["jug", "most", "n", "way", "period", "top", "k", "firsts", "step", "least", "a"]) (sc := defScope s__law_form) (by decide +kernel)) (fun _ _ _ _ _ => (pg_name (i := 6) sc__law_form.nd rfl (.inl rfl))) (fun _ _ _ _ _ => pts_nil) (fun _ _ _ _ _ => (pe_call (ok__law_pour T) (hr.mono (by decide)) (by rfl) T.g__law_pour T.F__law_pour.kp (b__law_pour T) .nil pass0 (pa_cons (pv 0) (pa_cons (pv 5) pa_nil))))) pa_nil)) (pa_cons (pv 4) (pa_cons (pe_call (ok__law_pour T) (hr.mono (by decide)) (by rfl) T.g__law_pour T.F__law_pour.kp (b__law_pour T) .nil pass0 (pa_cons (pv 0) (pa_cons (pe_op (wAdd K rfl) (pv 5) pe_int) pa_nil))) pa_nil)))))) pss_nil) (pss_cons (ps_asg (pe_tup (pa_cons (pe_lst (pa_cons pe_int pa_nil)) (pa_cons (pe_call (ok__law_pour T) (hr.mono (by decide)) (by rfl) T.g__law_pour T.F__law_pour.kp (b__law_pour T) .nil pass0 (pa_cons (pv 0) (pa_cons pe_int pa_nil))) pa_nil))) (wTupG K rfl (pg_tup rfl (pgs_cons (pg_name (i := 7) sc__law_form.nd rfl (.inr rfl)) (pgs_cons (pg_name (i := 8) sc__law_form.nd rfl (.inl rfl)) pgs_nil))))) (pss_cons (ps_for PassesOwn.never rfl (pi_range2 rfl T.n_range (pa_cons pe_int (pa_cons (pv 2) pa_nil))) (pg_name (i := 6) sc__law_form.nd rfl (.inr rfl)) (pss_one (ps_expr (wBm K rfl (pe_bm PySem.F.plainAttrs_list PySem.F.slot_list_append PySem.F.type_list_append mt_append (pv 7) (pa_cons (pe_op (wAdd K rfl) (pe_ix (wIx K rfl) (pv 7) (pe_un un_neg pe_int) (fun _ _ => rfl)) (pe_call (ok__law_pour T) (hr.mono (by decide)) (by rfl) T.g__law_pour T.F__law_pour.kp (b__law_pour T) .nil pass0 (pa_cons (pv 0) (pa_cons (pv 5) pa_nil)))) pa_nil)))))) (pss_cons (ps_set (i := 9) sc__law_form.nd rfl (.inl rfl) (pe_op op_sub (pe_ix (wIx K rfl) (pv 7) (pe_un un_neg pe_int) (fun _ _ => rfl)) (pe_ix (wIx K rfl) (pv 7) (pe_op op_sub (pv 2) (pv 4)) (fun _ _ => rfl)))) (pss_cons (ps_if (pt_cmpR (wEq K rfl hr) (pv 3) pe_int (nomark _)) (pss_cons (ps_for PassesOwn.never rfl (pi_range2 rfl T.n_range (pa_cons pe_int (pa_cons (pv 2) pa_nil))) (pg_name (i := 6) sc__law_form.nd rfl (.inr rfl)) (pss_one (ps_asg (pe_op (wAdd K rfl) (pe_callB (wMaxL K rfl rfl) (by rfl) T.n_max (by decide +kernel) (pa_cons (pe_op (wAdd K rfl) (pe_lst (pa_cons (pe_op (wMul K rfl) (pv 8) (pv 6)) pa_nil)) (pe_lc (own := [("a", 10)]) rfl sc__law_form.nd (pi_range2 rfl T.n_range (pa_cons pe_int (pa_cons (pv 6) pa_nil))) (blkOk_by (own := [("a", 10)]) (N := ["jug", "most", "n", "way", "period", "top", "k", "firsts", "step", "least", "a"]) (sc := defScope s__law_form) (by decide +kernel)) (fun _ _ _ _ _ => (pg_name (i := 10) sc__law_form.nd rfl (.inl rfl))) (fun _ _ _ _ _ => pts_nil) (fun _ _ _ _ _ => (pe_op (wAdd K rfl) (pe_ix (wIx K rfl) (pv 7) (pv 10) (fun _ _ => rfl)) (pe_ix (wIx K rfl) (pv 7) (pe_op op_sub (pv 6) (pv 10)) (fun _ _ => rfl)))))) pa_nil)) (pe_call (ok__law_pour T) (hr.mono (by decide)) (by rfl) T.g__law_pour T.F__law_pour.kp (b__law_pour T) .nil pass0 (pa_cons (pv 0) (pa_cons pe_int pa_nil)))) (pg_sub (pv 7) (pv 6) set_list)))) (pss_one (ps_set (i := 9) sc__law_form.nd rfl (.inl rfl) (pe_call (ok__law_least_gain T) (hr.mono (by decide)) (by rfl) T.g__law_least_gain T.F__law_least_gain.kp (b__law_least_gain T) .nil pass0 (pa_cons (pv 7) (pa_cons (pv 4) pa_nil)))))) pss_nil) (pss_one (ps_ret (pe_tup (pa_cons (pe_callTy (wTupOf K rfl) (by rfl) T.n_tuple (by decide +kernel) (pa_cons (pv 7) pa_nil)) (pa_cons (pv 4) (pa_cons (pe_op (wAdd K rfl) (pv 9) (pe_call (ok__law_pour T) (hr.mono (by decide)) (by rfl) T.g__law_pour T.F__law_pour.kp (b__law_pour T) .nil pass0 (pa_cons (pv 0) (pa_cons (pv 5) pa_nil)))) pa_nil))))))))))))), ?_⟩
  -- n, way
  refine xs_par (ear_cons (evr_op (Ev.go ev_cI (evr_pour rfl hm (ev_var rfl) (by omega) (by omega) fun n0 n1 n2 => rv_add.go (ear_cons (evr_pour rfl hm ev_cI (by decide) (by decide) fun way w0 w1 => ear_nil ⟨_, _, rfl, ?_⟩))))))
  generalize hn : 1 + n0 = n
  -- period, top
  refine xs_asgE (evr_tup (ear_cons (evr_op (Ev.go ev_cI (evr_pour rfl hm (ev_var rfl) (by omega) (by omega) fun p0 p1 p2 => rv_add.go (ear_cons (evr_one rfl hm (by walk_at "ev") (by simp) (by simp) fun d hd => ear_nil ⟨by simp, bd_tup (bds_nm (bds_nm (bds_nil ?_))) rfl⟩)))))))
  generalize hp : 1 + p0 = p
  obtain ⟨top, rfl, t0, t1⟩ : ∃ top : Int, d = .int top ∧ 2 ≤ top ∧ top ≤ 9 := by
    simp only [List.mem_cons, List.not_mem_nil, or_false] at hd
    rcases hd with rfl | rfl | rfl <;> exact ⟨_, rfl, by decide, by decide⟩
  refine xs_whenE (et_test (ev_op (ev_var rfl) ev_cI rv_eqI)) (fun hb => ?_) fun hb => ?_
  · -- drawn ones
    refine xs_ret (evr_tup (ear_cons (evr_cb (ear_cons (evr_draws (n := n) (top := top) rfl (by decide) hm (by walk_at "ea") (by omega) (by omega) (fun x => ev_var rfl) (by omega) (by omega) fun vs hl hv => ear_nil (rc_tupL.go (ear_cons (Ev.go (ev_var rfl) (ear_cons (evr_pour rfl hm (by walk_at "ev") (by omega) (by omega) fun g g0 g1 => ear_nil ⟨by simp, ?_⟩))))))))))
    exact hR vs p g ⟨⟨by omega, by omega, fun v h => by have := hv v h; omega, by omega, by omega, g0, by omega⟩, fun v h => by have := hv v h; omega, by omega⟩ (by omega)
  -- values, step = [0], ..
  refine xs_asgE (evr_tup (ear_cons (evr_lstC (EvA.go (by walk_at "ea") ⟨by simp, fun a => ear_cons (evr_pour rfl (List.mem_cons_of_mem _ hm) ev_cI (by decide) (by decide) fun step s0 s1 => ear_nil ⟨by simp, bd_tup (bds_nm (bds_nm (bds_nil ?_))) rfl⟩)⟩))))
  have hma : ∀ {o : MO}, (j, jugO) ∈ (a, o) :: M := fun {o} => List.mem_cons_of_mem _ hm
  refine xs_seq (xs_for (ei_rng2 (lo := 1) (j := n) (RM := fun M' => M' = (a, MO.lst [.int 0]) :: M) (EvA.go (by walk_at "ea") ⟨rfl, rfl⟩) ⟨by decide, by decide, by omega, by omega⟩)
    (fun i ρ M' => ∃ (vs : List Int) (e f : Option DV), M' = (a, MO.lst (vs.map .int)) :: M ∧ ρ = [some (.raw (.ref j)), some (.int most), some (.int n), some (.int way), some (.int p), some (.int top), e, some (.raw (.ref a)), some (.int step), none, f] ∧ vs.length = i + 1 ∧ (∀ v ∈ vs, 0 ≤ v ∧ v ≤ 8 * i) ∧ ∀ i j : Nat, i ≤ j → j < vs.length → vs.getD i 0 ≤ vs.getD j 0)
    (fun M' e => ⟨[0], none, none, by rw [e]; rfl, rfl, rfl, fun v h => by rw [List.mem_singleton.mp h]; omega, fun i j h1 h2 => by
      have e1 : j = 0 := by simp at h2; exact h2
      have e2 : i = 0 := by omega
      rw [e1, e2]; exact Int.le_refl _⟩) (fun _ _ _ _ _ c hc => nomatch hc) (fun i ρ M' hlt hinv => ?_) fun ρ M' hinv => ?_)
  · obtain ⟨vs, e, f, rfl, rfl, hl, hv, hmono⟩ := hinv
    have lastv := hv _ (getD_mem (show vs.length - 1 < vs.length by omega))
    refine bd_name (xs_drop (evr_append (i := 0) (a := a) (xs := vs.map .int) (Ev.go (ev_var rfl) ⟨rfl, rfl, by rw [List.length_map]; omega, ear_cons (evr_op (Ev.go (ev_op (ev_var rfl) (ev_un ev_cI ru_neg) (rv_ixC List.mem_cons_self (atI_neg1 (by omega)))) (evr_pour rfl hma (ev_var rfl) (by omega) (by omega) fun r r0 r1 => rv_add.go (ear_nil ⟨_, rfl, rfl, ?_⟩))))⟩)))
    refine ⟨vs ++ [vs.getD (vs.length - 1) 0 + r], _, _, by simp, rfl, by simp [hl], fun v h => ?_, monotone_snoc hmono fun v h => ?_⟩
    · rcases List.mem_append.mp h with h | h
      · have := hv v h; omega
      · rw [List.mem_singleton.mp h]; omega
    · obtain ⟨k, hk, ek⟩ := List.mem_iff_getElem.mp h
      have e2 : vs.getD k 0 = v := by rw [List.getD_eq_getElem?_getD, List.getElem?_eq_getElem hk, ek]; rfl
      have := hmono k (vs.length - 1) (by omega) (by omega)
      omega
  obtain ⟨vs, e, f, rfl, rfl, hl, hv, hmono⟩ := hinv
  have hln : (vs.length : Int) = n := by omega
  have hv24 : ∀ v ∈ vs, 0 ≤ v ∧ v ≤ 184 := fun v h => by have := hv v h; omega
  -- least
  refine xs_setE (ev_op (ev_op (ev_var rfl) (ev_un ev_cI ru_neg) (rv_ixC List.mem_cons_self (atI_neg1 (by omega)))) (ev_op (ev_var rfl) (by walk_at "ev") (rv_ixC List.mem_cons_self (atI_ints (x := n - p) (by omega) (by omega)))) rv_I0) ?_
  generalize hle : vs.getD (vs.length - 1) 0 - vs.getD (n - p).toNat 0 = least
  have hle0 : 0 ≤ least := by have := hmono (n - p).toNat (vs.length - 1) (by omega) (by omega); omega
  have hle1 : least ≤ 184 := by have := hv24 _ (getD_mem (show vs.length - 1 < vs.length by omega)); have := hv24 _ (getD_mem (show (n - p).toNat < vs.length by omega)); omega
  -- the last row, from any values that are so
  refine xs_cut (fun ρ' M' => ∃ (ws : List Int) (l : Int) (e f g : Option DV), M' = (a, MO.lst (ws.map .int)) :: M ∧ ρ' = [some (.raw (.ref j)), some (.int most), some (.int n), some (.int way), some (.int p), some (.int top), e, some (.raw (.ref a)), some (.int step), some (.int l), g] ∧ (ws.length : Int) = n ∧ (∀ v ∈ ws, 0 ≤ v ∧ v ≤ 184) ∧ 0 ≤ l ∧ l ≤ 400) ?_ fun ρ' M' hinv => ?_
  · refine xs_if2 (et_test (ev_op (ev_var rfl) ev_cI rv_eqI)) (fun _ => ?_) fun _ => xs_next ⟨vs, least, _, none, _, rfl, rfl, hln, hv24, hle0, by omega⟩
    -- values[k] = max(..) + ..
    refine xs_seq (xs_for (ei_rng2 (lo := 1) (j := n) (RM := fun M' => M' = (a, MO.lst (vs.map .int)) :: M) (EvA.go (by walk_at "ea") ⟨rfl, rfl⟩) ⟨by decide, by decide, by omega, by omega⟩)
      (fun i ρ M' => ∃ (ws : List Int) (e f : Option DV), M' = (a, MO.lst (ws.map .int)) :: M ∧ ρ = [some (.raw (.ref j)), some (.int most), some (.int n), some (.int way), some (.int p), some (.int top), e, some (.raw (.ref a)), some (.int step), some (.int least), f] ∧ (ws.length : Int) = n ∧ (∀ v ∈ ws, 0 ≤ v ∧ v ≤ 184) ∧ ∀ k : Nat, 1 ≤ k → k < i + 1 → 0 ≤ ws.getD k 0 ∧ ws.getD k 0 ≤ 4 * k - 1)
      (fun M' e => ⟨vs, _, _, e, rfl, hln, hv24, fun k h1 h2 => by omega⟩) (fun _ _ _ _ _ c hc => nomatch hc) (fun i ρ M' hlt hinv => ?_) fun ρ M' hinv => ?_)
    · obtain ⟨ws, e, f, rfl, rfl, hw, hv, hk⟩ := hinv
      have hin : 1 + (i : Int) < n := by omega
      refine bd_name ?_
      -- the list of what parts give
      have lc : ∀ {ρ : Rho}, ρ = [some (.raw (.ref j)), some (.int most), some (.int n), some (.int way), some (.int p), some (.int top), some (.int (1 + (i : Int))), some (.raw (.ref a)), some (.int step), some (.int least), f] → Ev K (tLc (iRng2 (tCons (tC (.int 1)) (tCons (tVar 6) tNil))) (gName 10) tYes (tOp (rAddU K) (tOp (rIx K) (tVar 7) (tVar 10)) (tOp (rIx K) (tVar 7) (tOp (rI0 fun i j => .int (i - j)) (tVar 6) (tVar 10)))) [10]) ρ ((a, MO.lst (ws.map .int)) :: M) (.lst (((List.range (1 + (i : Int) - 1).toNat).map fun x : Nat => ws.getD (1 + (x : Int)).toNat 0 + ws.getD (1 + (i : Int) - (1 + (x : Int))).toNat 0).map .int)) := fun {ρ} h => by
        subst h
        refine Ev.is (ev_lc (fun _ => true) (fun x => .int (ws.getD (1 + (x : Int)).toNat 0 + ws.getD (1 + (i : Int) - (1 + (x : Int))).toNat 0)) (ei_rng2 (lo := 1) (j := 1 + (i : Int)) (EvA.go (by walk_at "ea") ⟨rfl, rfl⟩) ⟨by decide, by decide, by omega, by omega⟩) (by omega) (bdw_name (by simp)) fun x hx => bd_name ⟨rfl, et_yes, fun _ => ?_⟩) (by rw [picked_all, List.map_map]; rfl)
        exact ev_op (ev_op (ev_var rfl) (ev_var rfl) (rv_ixC List.mem_cons_self (atI_ints (by omega) (by omega)))) (ev_op (ev_var rfl) (ev_op (ev_var rfl) (ev_var rfl) rv_I0) (rv_ixC List.mem_cons_self (atI_ints (by omega) (by omega)))) rv_add
      refine xs_asg (evr_op (evr_cb (ear_cons (Ev.go (ev_op (ev_lst (ds := [.int (step * (1 + (i : Int)))]) (by walk_at "ea") (by simp)) (lc rfl) (rv_addL (by simp; omega))) (ear_nil ?_)))))
      rw [show ([DV.int (step * (1 + (i : Int)))] : List DV) = ([step * (1 + (i : Int))] : List Int).map .int from rfl, ← List.map_append]
      refine rcr_maxL (by simp) fun m hmem hmax => evr_pour rfl hma ev_cI (by decide) (by decide) fun r r0 r1 => rv_add.go (bd_subL (i := 0) (a := a) (xs := ws.map .int) (Ev.go (ev_var rfl) ⟨rfl, Ev.go (ev_var rfl) ⟨1 + (i : Int), i + 1, rfl, rfl, ?_, ?_⟩⟩))
      · unfold ixN
        rw [if_pos (by omega), if_pos (by rw [List.length_map]; omega)]
        rw [show (1 + (i : Int)).toNat = i + 1 by omega]
      have hm1 : 0 ≤ m ∧ m ≤ 4 * (i + 1) - 2 := by
        have hs : 0 ≤ step * (1 + (i : Int)) ∧ step * (1 + (i : Int)) ≤ 2 * (1 + (i : Int)) := by
          have h3 : step = 0 ∨ step = 1 ∨ step = 2 := by omega
          rcases h3 with rfl | rfl | rfl <;> omega
        have hge := hmax _ (List.mem_append_left _ (List.mem_singleton.mpr rfl))
        rcases List.mem_append.mp hmem with h | h
        · rw [List.mem_singleton.mp h]; omega
        · obtain ⟨x, hx, rfl⟩ := List.mem_map.mp h
          have hx := List.mem_range.mp hx
          have k1 := hk (1 + (x : Int)).toNat (by omega) (by omega)
          have k2 := hk (1 + (i : Int) - (1 + (x : Int))).toNat (by omega) (by omega)
          omega
      refine ⟨ws.set (i + 1) (m + r), _, _, by rw [List.map_set]; rfl, rfl, by rw [List.length_set]; exact hw, fun v h => ?_, fun k h1 h2 => ?_⟩
      · rcases List.mem_or_eq_of_mem_set h with h | h
        · exact hv v h
        · rw [h]; omega
      · by_cases ek : k = i + 1
        · subst ek
          rw [List.getD_eq_getElem?_getD, List.getElem?_set_self (by omega)]
          show 0 ≤ m + r ∧ m + r ≤ _
          omega
        · rw [List.getD_eq_getElem?_getD, List.getElem?_set_ne (Ne.symm ek), ← List.getD_eq_getElem?_getD]
          exact hk k h1 (by omega)
    · obtain ⟨ws, e, f, rfl, rfl, hw, hv, hk⟩ := hinv
      refine xs_asg (evr_call (EvA.go (by walk_at "ea") ⟨a, ws, p, 184, rfl, List.mem_cons_self, by omega, by omega, by omega, hv, by decide, fun l l0 l1 => bd_name ⟨ws, l, _, none, _, rfl, rfl, hw, hv, l0, by omega⟩⟩))
  · obtain ⟨ws, l, e, f, g, rfl, rfl, hw, hv, l0, l1⟩ := hinv
    refine xs_ret (evr_drop (evr_tup (ear_cons (Ev.go (ev_cb (ea_cons (ev_var rfl) ea_nil) (rc_tupC List.mem_cons_self)) (ear_cons (Ev.go (ev_var rfl) (ear_cons (evr_op (Ev.go (ev_var rfl) (evr_pour rfl hma (ev_var rfl) (by omega) (by omega) fun r r0 r1 => rv_add.go (ear_nil ⟨by simp, _, M, rfl, ?_⟩)))))))))))
    exact hR ws p (l + r) ⟨⟨by omega, by omega, fun v h => by have := hv v h; omega, by omega, by omega, by omega, by omega⟩, fun v h => by have := hv v h; omega, by omega⟩ (by omega)

/-! ### judging: claims of patterns -/
def S_is_triple : SpecD := fun ds M R => ∃ (x y z : DV), ds = [.tup [x, y, z]] ∧ R (.bl true) M
theorem ok_is_triple (T : Tx K mg A) : FnOk P w K mg base CX0 1 A.f_is_triple A.d_is_triple ["value"] (spD K S_is_triple) := by
  refine fnD T.F_is_triple sc_is_triple (fun ds M R h => by obtain ⟨x, y, z, rfl, _⟩ := h; rfl) fun cdv B up z H E hr ds M R h => ?_
  obtain ⟨x, y, z, rfl, hR⟩ := h
  refine ⟨_, (pss_one (ps_ret (pe_and (pe_callB (wIsi K rfl) (by rfl) T.n_isinstance (by decide +kernel) (pa_cons (pv 0) (pa_cons (pe_bltn (v := .ty "tuple") (by rfl) T.n_tuple (by decide +kernel) rfl) pa_nil))) (pe_one (pe_cmpR (wEq K rfl hr) (pe_callB (wLen K rfl) (by rfl) T.n_len PySem.boot_len (pa_cons (pv 0) pa_nil)) pe_int (nomark _)))))), ?_⟩
  exact xs_retE (ev_andTr (ev_cb (ea_cons (ev_var rfl) (ea_cons ev_cT ea_nil)) (rc_isiTup rfl)) (Ev.is (d' := .bl true) (ev_op (ev_cb (ea_cons (ev_var rfl) ea_nil) rc_lenT) ev_cI rv_eqI) rfl)) hR
theorem sp_is_triple {x y z : DV} {M : Ms} : S_is_triple [.tup [x, y, z]] M fun d' M' => d' = .bl true ∧ M' = M := ⟨x, y, z, rfl, rfl, rfl⟩
def S_pattern_from (A : Ad) : SpecD := fun ds M R => ∃ (vs : List Int) (p g : Int), ds = [toldD vs p g] ∧ PatOk vs p g ∧ R (patD A vs p g) M
theorem ok_pattern_from (T : Tx K mg A) : FnOk P w K mg base CX0 6 A.f_pattern_from A.d_pattern_from ["value"] (spD K (S_pattern_from A)) := by
  refine fnD T.F_pattern_from sc_pattern_from (fun ds M R h => by obtain ⟨vs, p, g, rfl, _⟩ := h; rfl) fun cdv B up z H E hr ds M R h => ?_
  obtain ⟨vs, p, g, rfl, hp, hR⟩ := h
  refine ⟨_, (pss_cons (ps_if (pt_not (pt_val (pe_call (ok_is_triple T) (hr.mono (by decide)) (by rfl) T.g_is_triple T.F_is_triple.kp (b_is_triple T) .nil pass0 (pa_cons (pv 0) pa_nil)))) (pss_one (ps_ret pe_non)) pss_nil) (pss_cons (ps_try_thru0 (pss_one (ps_set (i := 1) sc_pattern_from.nd rfl (.inl rfl) (pe_make T.mk_Pattern (ok_Pattern_init T) (hr.mono (by decide)) (by rfl) T.g_Pattern (b_Pattern_init T) .nil pass0 (pa_cons (pe_ix (wIx K rfl) (pv 0) pe_int (fun _ _ => rfl)) (pa_cons (pe_ix (wIx K rfl) (pv 0) pe_int (fun _ _ => rfl)) (pa_cons (pe_ix (wIx K rfl) (pv 0) pe_int (fun _ _ => rfl)) pa_nil))))))) (pss_one (ps_ret (pv 1))))), ?_⟩
  refine xs_whenE (b := false) (EvT.is (et_not (et_B (ev_call (by walk_at "ea") sp_is_triple))) rfl) (fun h => nomatch h) fun _ => ?_
  refine xs_setE (ev_Pattern (vs := vs) (p := p) (g := g) (ea_cons (ev_op (ev_var rfl) ev_cI (rv_ixT rfl)) (ea_cons (ev_op (ev_var rfl) ev_cI (rv_ixT rfl)) (ea_cons (ev_op (ev_var rfl) ev_cI (rv_ixT rfl)) ea_nil))) hp) ?_
  exact xs_retE (ev_var rfl) hR
theorem sp_pattern_from {vs : List Int} {p g : Int} {M : Ms} (hp : PatOk vs p g) : S_pattern_from A [toldD vs p g] M fun d' M' => d' = patD A vs p g ∧ M' = M := ⟨vs, p, g, rfl, hp, rfl, rfl⟩

/-! ### led, by a walker -/
theorem up_of {vs : List Int} {p g : Int} (hp : PatOk vs p g) (h : fallIn vs p g vs.length = none) (x : Nat) : fnOf vs p g x ≤ fnOf vs p g (x + 1) := by
  refine Int.not_lt.mp fun hf => ?_
  have hf : valAt vs p g ((x : Int) + 1) < valAt vs p g (x : Int) := hf
  obtain ⟨y, h1, _, h3⟩ := fall_back hp.p1 hp.p2 (x + 1) x (by omega) hf
  exact List.find?_eq_none.mp h y (List.mem_range.mpr h1) (decide_eq_true h3)
theorem fall_at {vs : List Int} {p g : Int} {i : Nat} (h : fallIn vs p g vs.length = some i) : i < vs.length ∧ valAt vs p g ((i : Int) + 1) < valAt vs p g (i : Int) := by
  obtain ⟨h1, h2, _⟩ := List.find?_range_eq_some.mp h
  exact ⟨List.mem_range.mp h2, of_decide_eq_true h1⟩
def S_certify_led (A : Ad) : SpecD := fun ds M R => ∃ (vs : List Int) (p g : Int), ds = [patD A vs p g] ∧ PatOk vs p g ∧ (∀ i : Nat, fallIn vs p g vs.length = some i → R (.tup [.tup [.str "falls", toldD vs p g], .int i]) M) ∧
  (fallIn vs p g vs.length = none → ∀ t r c, Plain (fnOf vs p g) t r c → t + r ≤ vs.length → WalkOk ((t + r : Nat) : Int) (fnOf vs p g 0) (plainTab (fnOf vs p g) t r) → R (.tup [.tup [.str "led", toldD vs p g], walkTold ((t + r : Nat) : Int) (fnOf vs p g 0) (plainTab (fnOf vs p g) t r)]) M)
theorem ok_certify_led (T : Tx K mg A) : FnOk P w K mg base CX0 7 A.f_certify_led A.d_certify_led ["pattern"] (spD K (S_certify_led A)) := by
  refine fnD T.F_certify_led sc_certify_led (fun ds M R h => by obtain ⟨vs, p, g, rfl, _⟩ := h; rfl) fun cdv B up z H E hr ds M R h => ?_
  obtain ⟨vs, p, g, rfl, hp, h1, h2⟩ := h
  refine ⟨_, (pss_cons (ps_expr (pe_call (ok_check_pattern T) (hr.mono (by decide)) (by rfl) T.g_check_pattern T.F_check_pattern.kp (b_check_pattern T) .nil pass0 (pa_cons (pv 0) pa_nil))) (pss_cons (ps_set (i := 1) sc_certify_led.nd rfl (.inl rfl) (pe_call (ok_fall_of T) (hr.mono (by decide)) (by rfl) T.g_fall_of T.F_fall_of.kp (b_fall_of T) .nil pass0 (pa_cons (pv 0) pa_nil))) (pss_cons (ps_if (pt_cmpR op_isN' (pv 1) pe_non (nomark _)) (pss_one (ps_ret (pe_tup (pa_cons (pe_tup (pa_cons pe_str (pa_cons (wFld K rfl (pv 0) rfl) pa_nil))) (pa_cons (wFld K rfl (pe_call (ok_walker_of T) (hr.mono (by decide)) (by rfl) T.g_walker_of T.F_walker_of.kp (b_walker_of T) .nil pass0 (pa_cons (pv 0) pa_nil)) rfl) pa_nil))))) pss_nil) (pss_one (ps_ret (pe_tup (pa_cons (pe_tup (pa_cons pe_str (pa_cons (wFld K rfl (pv 0) rfl) pa_nil))) (pa_cons (pv 1) pa_nil)))))))), ?_⟩
  walk_at "go"
  refine ⟨vs, p, g, rfl, hp, ?_⟩
  cases e : fallIn vs p g vs.length with
  | none =>
    show BdG _ _ _ _ DV.non _
    walk_at "go"
    refine ⟨vs, p, g, rfl, hp, up_of hp e, fun t r c hpl hle hok => ?_⟩
    walk_at "go"
    exact h2 e t r c hpl hle hok
  | some i =>
    show BdG _ _ _ _ (DV.int i) _
    walk_at "go"
    exact h1 i e
def S_walker_from (A : Ad) : SpecD := fun ds M R => ∃ (n b : Int) (tab : List (Int × Int)), ds = [walkTold n b tab] ∧ WalkOk n b tab ∧ R (walkD A n b tab) M
theorem rv_walk0 {M : Ms} {n b : Int} {tab : List (Int × Int)} : RV K (rIx K) (walkTold n b tab) (.int 0) M (.int n) := rv_ixT rfl
theorem rv_walk1 {M : Ms} {n b : Int} {tab : List (Int × Int)} : RV K (rIx K) (walkTold n b tab) (.int 1) M (.int b) := rv_ixT rfl
theorem rv_walk2 {M : Ms} {n b : Int} {tab : List (Int × Int)} : RV K (rIx K) (walkTold n b tab) (.int 2) M (.tup (tab.map entD)) := rv_ixT rfl
theorem w_triple {M : Ms} {R : DV → Ms → Prop} {x y z : DV} (k : R (.bl true) M) : S_is_triple [.tup [x, y, z]] M R := ⟨x, y, z, rfl, k⟩
theorem w_tripleW {M : Ms} {R : DV → Ms → Prop} {n b : Int} {tab : List (Int × Int)} (k : R (.bl true) M) : S_is_triple [walkTold n b tab] M R := ⟨_, _, _, rfl, k⟩
local macro_rules | `(tactic| walk_at "st_rv") => `(tactic| first | (with_reducible refine' RV.go rv_walk0 ?_) | (with_reducible refine' RV.go rv_walk1 ?_) | (with_reducible refine' RV.go rv_walk2 ?_))
local macro_rules | `(tactic| walk_at "spc") => `(tactic| first | (with_reducible refine' w_triple ?_) | (with_reducible refine' w_tripleW ?_))
theorem ok_walker_from (T : Tx K mg A) : FnOk P w K mg base CX0 6 A.f_walker_from A.d_walker_from ["value"] (spD K (S_walker_from A)) := by
  refine fnD T.F_walker_from sc_walker_from (fun ds M R h => by obtain ⟨n, b, tab, rfl, _⟩ := h; rfl) fun cdv B up z H E hr ds M R h => ?_
  obtain ⟨n, b, tab, rfl, hp, hR⟩ := h
  refine ⟨_, (pss_cons (ps_if (pt_not (pt_val (pe_call (ok_is_triple T) (hr.mono (by decide)) (by rfl) T.g_is_triple T.F_is_triple.kp (b_is_triple T) .nil pass0 (pa_cons (pv 0) pa_nil)))) (pss_one (ps_ret pe_non)) pss_nil) (pss_cons (ps_try_thru0 (pss_one (ps_set (i := 1) sc_walker_from.nd rfl (.inl rfl) (pe_make T.mk_Walker (ok_Walker_init T) (hr.mono (by decide)) (by rfl) T.g_Walker (b_Walker_init T) .nil pass0 (pa_cons (pe_ix (wIx K rfl) (pv 0) pe_int (fun _ _ => rfl)) (pa_cons (pe_ix (wIx K rfl) (pv 0) pe_int (fun _ _ => rfl)) (pa_cons (pe_ix (wIx K rfl) (pv 0) pe_int (fun _ _ => rfl)) pa_nil))))))) (pss_one (ps_ret (pv 1))))), ?_⟩
  walk_at "go"
  exact hR
def S_shows_led (A : Ad) : SpecD := fun ds M R => ∃ (vs : List Int) (p g n b : Int) (tab : List (Int × Int)), ds = [patD A vs p g, walkTold n b tab] ∧ PatOk vs p g ∧ WalkOk n b tab ∧ (∀ x, wVal tab b x = fnOf vs p g x) ∧ R (.bl true) M
theorem Plain.ext {f g : Nat → Int} {t q : Nat} {c : Int} (h : Plain f t q c) (e : ∀ x, g x = f x) : Plain g t q c := by
  have : g = f := funext e
  rw [this]; exact h
theorem ok_shows_led (T : Tx K mg A) : FnOk P w K mg base CX0 7 A.f_shows_led A.d_shows_led ["pattern", "paper"] (spD K (S_shows_led A)) := by
  refine fnD T.F_shows_led sc_shows_led (fun ds M R h => by obtain ⟨vs, p, g, n, b, tab, rfl, _⟩ := h; rfl) fun cdv B up z H E hr ds M R h => ?_
  obtain ⟨vs, p, g, n, b, tab, rfl, hp, hw, hs, hR⟩ := h
  refine ⟨_, (pss_cons (ps_set (i := 2) sc_shows_led.nd rfl (.inl rfl) (pe_call (ok_walker_from T) (hr.mono (by decide)) (by rfl) T.g_walker_from T.F_walker_from.kp (b_walker_from T) .nil pass0 (pa_cons (pv 1) pa_nil))) (pss_one (ps_ret (pe_and (pe_cmpR op_notN' (pv 2) pe_non (nomark _)) (pe_one (pe_cmpR (wEq K rfl hr) (pe_call (ok_plain_told T) (hr.mono (by decide)) (by rfl) T.g_plain_told T.F_plain_told.kp (b_plain_told T) .nil pass0 (pa_cons (pe_call (ok_walked T) (hr.mono (by decide)) (by rfl) T.g_walked T.F_walked.kp (b_walked T) .nil pass0 (pa_cons (pv 2) pa_nil)) pa_nil)) (pe_call (ok_plain_told T) (hr.mono (by decide)) (by rfl) T.g_plain_told T.F_plain_told.kp (b_plain_told T) .nil pass0 (pa_cons (wFld K rfl (pv 0) rfl) pa_nil)) (nomark _))))))), ?_⟩
  walk_at "go"
  refine ⟨n, b, tab, rfl, hw, ?_⟩
  walk_at "go"
  refine ⟨n, b, tab, rfl, hw, fun us q h hu hx => ?_⟩
  walk_at "go"
  have he : fnOf us q h = fnOf vs p g := funext fun x => by rw [hx, hs]
  refine ⟨us, q, h, rfl, hu, fun t r c hpl hle => ?_⟩
  walk_at "go"
  refine ⟨vs, p, g, rfl, hp.told, fun t2 r2 c2 hpl2 hle2 => ?_⟩
  rw [he] at hpl ⊢
  obtain ⟨rfl, rfl, rfl⟩ := hpl.unique hpl2
  have hpo := plain_pat hp hpl2 hle2
  have ff : Fit (.tup [.tup (rowL (fnOf vs p g) (t + r)), .int (r : Nat), .int c]) := by
    rw [rowL_rowI]; exact (fs_told hpo).fit (by decide) (by decide)
  walk_at "go"
  exact hR
def S_shows_falls (A : Ad) : SpecD := fun ds M R => ∃ (vs : List Int) (p g i : Int), ds = [patD A vs p g, .int i] ∧ PatOk vs p g ∧ 0 ≤ i ∧ i ≤ 1000000 ∧ valAt vs p g (i + 1) < valAt vs p g i ∧ R (.bl true) M
theorem ok_shows_falls (T : Tx K mg A) : FnOk P w K mg base CX0 3 A.f_shows_falls A.d_shows_falls ["pattern", "paper"] (spD K (S_shows_falls A)) := by
  refine fnD T.F_shows_falls sc_shows_falls (fun ds M R h => by obtain ⟨vs, p, g, i, rfl, _⟩ := h; rfl) fun cdv B up z H E hr ds M R h => ?_
  obtain ⟨vs, p, g, i, rfl, hp, h0, h1, h2, hR⟩ := h
  refine ⟨_, (pss_one (ps_ret (pe_and (pe_call (ok_is_between T) (hr.mono (by decide)) (by rfl) T.g_is_between T.F_is_between.kp (b_is_between T) .nil pass0 (pa_cons (pv 1) (pa_cons pe_int (pa_cons (pe_glob (v := .int 1000000) (by rfl) (Classical.choose_spec T.c_MOST_SUMMED) ⟨_, rfl⟩) pa_nil)))) (pe_one (pe_cmpR op_lt (pe_meth (pv 0) T.cl_Pattern T.m_Pattern_at (ok_Pattern_at T) (hr.mono (by decide)) (b_Pattern_at T) .nil pass0 (pa_cons (pe_op (wAdd K rfl) (pv 1) pe_int) pa_nil)) (pe_meth (pv 0) T.cl_Pattern T.m_Pattern_at (ok_Pattern_at T) (hr.mono (by decide)) (b_Pattern_at T) .nil pass0 (pa_cons (pv 1) pa_nil)) (nomark _)))))), ?_⟩
  walk_at "go"
  rw [decide_eq_true h2]
  exact hR
/-- a claim of a pattern that a paper shows -/
inductive Shown (vs : List Int) (p g : Int) : Str → DV → Prop
  | falls {i : Int} (h0 : 0 ≤ i) (h1 : i ≤ 1000000) (h : valAt vs p g (i + 1) < valAt vs p g i) : Shown vs p g "falls" (.int i)
  | led {n b : Int} {tab : List (Int × Int)} (hw : WalkOk n b tab) (h : ∀ x, wVal tab b x = fnOf vs p g x) : Shown vs p g "led" (walkTold n b tab)
def S_hop : SpecD := fun ds M R => ∃ (vs : List Int) (p g : Int) (s : Str) (x : DV), ds = [.tup [.str s, toldD vs p g], x] ∧ PatOk vs p g ∧ Shown vs p g s x ∧ R (.bl true) M
theorem w_pattern_from {M : Ms} {R : DV → Ms → Prop} {vs : List Int} {p g : Int} (hp : PatOk vs p g) (k : R (patD A vs p g) M) : S_pattern_from A [toldD vs p g] M R := ⟨vs, p, g, rfl, hp, k⟩
local macro_rules | `(tactic| walk_at "spc") => `(tactic| ((with_reducible refine' w_pattern_from ?aa ?_); (case' aa => try assumption)))
theorem ok_holds_of_pattern (T : Tx K mg A) : FnOk P w K mg base CX0 8 A.f_holds_of_pattern A.d_holds_of_pattern ["claim", "paper"] (spD K S_hop) := by
  refine fnD T.F_holds_of_pattern sc_holds_of_pattern (fun ds M R h => by obtain ⟨vs, p, g, s, x, rfl, _⟩ := h; rfl) fun cdv B up z H E hr ds M R h => ?_
  obtain ⟨vs, p, g, s, x, rfl, hp, hs, hR⟩ := h
  refine ⟨_, (pss_cons (ps_set (i := 2) sc_holds_of_pattern.nd rfl (.inl rfl) (pe_call (ok_pattern_from T) (hr.mono (by decide)) (by rfl) T.g_pattern_from T.F_pattern_from.kp (b_pattern_from T) .nil pass0 (pa_cons (pe_ix (wIx K rfl) (pv 0) pe_int (fun _ _ => rfl)) pa_nil))) (pss_cons (ps_if (pt_cmpR op_isN' (pv 2) pe_non (nomark _)) (pss_one (ps_ret pe_bl)) pss_nil) (pss_cons (ps_if (pt_cmpR (wEq K rfl hr) (pe_ix (wIx K rfl) (pv 0) pe_int (fun _ _ => rfl)) pe_str (nomark _)) (pss_one (ps_ret pe_nv)) pss_nil) (pss_cons (ps_if (pt_cmpR (wEq K rfl hr) (pe_ix (wIx K rfl) (pv 0) pe_int (fun _ _ => rfl)) pe_str (nomark _)) (pss_one (ps_ret pe_nv)) pss_nil) (pss_cons (ps_if (pt_cmpR (wEq K rfl hr) (pe_ix (wIx K rfl) (pv 0) pe_int (fun _ _ => rfl)) pe_str (nomark _)) (pss_one (ps_ret (pe_call (ok_shows_led T) (hr.mono (by decide)) (by rfl) T.g_shows_led T.F_shows_led.kp (b_shows_led T) .nil pass0 (pa_cons (pv 2) (pa_cons (pv 1) pa_nil))))) pss_nil) (pss_one (ps_ret (pe_and (pe_cmpR (wEq K rfl hr) (pe_ix (wIx K rfl) (pv 0) pe_int (fun _ _ => rfl)) pe_str (nomark _)) (pe_one (pe_call (ok_shows_falls T) (hr.mono (by decide)) (by rfl) T.g_shows_falls T.F_shows_falls.kp (b_shows_falls T) .nil pass0 (pa_cons (pv 2) (pa_cons (pv 1) pa_nil)))))))))))), ?_⟩
  cases hs with
  | @falls i h0 h1 h =>
    walk_at "go"
    exact ⟨vs, p, g, i, rfl, hp, h0, h1, h, hR⟩
  | @led n b tab hw h =>
    walk_at "go"
    exact ⟨vs, p, g, n, b, tab, rfl, hp, hw, h, hR⟩
theorem ok_holds (T : Tx K mg A) : FnOk P w K mg base CX0 9 A.f_holds A.d_holds ["claim", "paper"] (spD K S_hop) := by
  refine fnD T.F_holds sc_holds (fun ds M R h => by obtain ⟨vs, p, g, s, x, rfl, _⟩ := h; rfl) fun cdv B up z H E hr ds M R h => ?_
  obtain ⟨vs, p, g, s, x, rfl, hp, hs, hR⟩ := h
  refine ⟨_, (pss_cons (ps_if (PW.pt (pw_or (pt_not (pt_val (pe_callB (wIsi K rfl) (by rfl) T.n_isinstance (by decide +kernel) (pa_cons (pv 0) (pa_cons (pe_bltn (v := .ty "tuple") (by rfl) T.n_tuple (by decide +kernel) rfl) pa_nil))))) (pw_or (pt_not (pt_chain op_le op_le pe_int (pe_callB (wLen K rfl) (by rfl) T.n_len PySem.boot_len (pa_cons (pv 0) pa_nil)) pe_int)) (pw_or1 (pt_not (pt_val (pe_callB (wIsi K rfl) (by rfl) T.n_isinstance (by decide +kernel) (pa_cons (pe_ix (wIx K rfl) (pv 0) pe_int (fun _ _ => rfl)) (pa_cons (pe_bltn (v := .ty "str") (by rfl) T.n_str (by decide +kernel) rfl) pa_nil))))))))) (pss_one (ps_ret pe_bl)) pss_nil) (pss_cons (ps_if (pt_cmpR (wIn K rfl) (pe_ix (wIx K rfl) (pv 0) pe_int (fun _ _ => rfl)) (pe_tup (pa_cons pe_str (pa_cons pe_str (pa_cons pe_str pa_nil)))) (by rfl)) (pss_one (ps_ret pe_nv)) pss_nil) (pss_one (ps_ret (pe_ifExp (pt_cmpR (wEq K rfl hr) (pe_callB (wLen K rfl) (by rfl) T.n_len PySem.boot_len (pa_cons (pv 0) pa_nil)) pe_int (nomark _)) pe_nv (pe_and (pe_cmpR (wEq K rfl hr) (pe_callB (wLen K rfl) (by rfl) T.n_len PySem.boot_len (pa_cons (pv 0) pa_nil)) pe_int (nomark _)) (pe_one (pe_call (ok_holds_of_pattern T) (hr.mono (by decide)) (by rfl) T.g_holds_of_pattern T.F_holds_of_pattern.kp (b_holds_of_pattern T) .nil pass0 (pa_cons (pv 0) (pa_cons (pv 1) pa_nil)))))))))), ?_⟩
  cases hs with
  | @falls i h0 h1 h =>
    walk_at "go"
    exact ⟨vs, p, g, _, _, rfl, hp, .falls h0 h1 h, hR⟩
  | @led n b tab hw h =>
    walk_at "go"
    exact ⟨vs, p, g, _, _, rfl, hp, .led hw h, hR⟩

/-- a pattern with great numbers -/
def S_scaled : SpecD := fun ds M R => ∃ (vs : List Int) (p g : Int), ds = [toldD vs p g] ∧ PatOk vs p g ∧ ∀ (ws : List Int) (g' : Int), ws.length = vs.length → PatOk ws p g' → R (toldD ws p g') M
theorem scaled_ints {vs : List Int} {f : Int} : (List.range (vs.map DV.int).length).map (fun i : Nat => DV.int (vs.getD i 0 * f)) = (vs.map fun v => v * f).map .int := by
  refine List.ext_getElem (by simp) fun i h1 h2 => ?_
  simp only [List.length_map, List.length_range] at h1
  simp only [List.getElem_map, List.getElem_range]
  rw [List.getD_eq_getElem?_getD, List.getElem?_eq_getElem h1]; rfl
theorem scaled_le {v m : Int} (h0 : 0 ≤ v) (h1 : v ≤ m) (hm : 1 ≤ m) : 0 ≤ v * (1000000 / m) ∧ v * (1000000 / m) ≤ 1000000 := by
  have hf : 0 ≤ 1000000 / m := Int.ediv_nonneg (by decide) (by omega)
  refine ⟨Int.mul_nonneg h0 hf, Int.le_trans (Int.mul_le_mul_of_nonneg_right h1 hf) (Int.mul_ediv_self_le (by omega))⟩
theorem ok__law_scaled (T : Tx K mg A) : FnOk P w K mg base CX0 1 A.f__law_scaled A.d__law_scaled ["form"] (spD K S_scaled) := by
  refine fnD T.F__law_scaled sc__law_scaled (fun ds M R h => by obtain ⟨vs, p, g, rfl, _⟩ := h; rfl) fun cdv B up z H E hr ds M R h => ?_
  obtain ⟨vs, p, g, rfl, hp, hR⟩ := h
  have hl2 := hp.l2
  have hg1 := hp.g1
  have hg2 := hp.g2
  refine ⟨_, (pss_cons (ps_set (i := 1) sc__law_scaled.nd rfl (.inr rfl) (pe_op op_fdiv (pe_op op_pow pe_int pe_int) (pe_callB (wMaxL K rfl rfl) (by rfl) T.n_max (by decide +kernel) (pa_cons (pe_op (wAdd K rfl) (pe_lst (pa_cons pe_int (pa_cons (pe_ix (wIx K rfl) (pv 0) pe_int (fun _ _ => rfl)) pa_nil))) (pe_callTy (wListOf K rfl) (by rfl) T.n_list (by decide +kernel) (pa_cons (pe_ix (wIx K rfl) (pv 0) pe_int (fun _ _ => rfl)) pa_nil))) pa_nil)))) (pss_one (ps_ret (pe_tup (pa_cons (pe_callTy (wTupOf K rfl) (by rfl) T.n_tuple (by decide +kernel) (pa_cons (pe_lc (own := [("each", 2)]) rfl sc__law_scaled.nd (wTup K rfl (pe_ix (wIx K rfl) (pv 0) pe_int (fun _ _ => rfl))) (blkOk_by (own := [("each", 2)]) (N := ["form", "factor", "each"]) (sc := defScope s__law_scaled) (by decide +kernel)) (fun _ _ _ _ _ => (pg_name (i := 2) sc__law_scaled.nd rfl (.inl rfl))) (fun _ _ _ _ _ => pts_nil) (fun _ _ _ _ _ => (pe_op (wMul K rfl) (pv 2) (pv 1)))) pa_nil)) (pa_cons (pe_ix (wIx K rfl) (pv 0) pe_int (fun _ _ => rfl)) (pa_cons (pe_op (wMul K rfl) (pe_ix (wIx K rfl) (pv 0) pe_int (fun _ _ => rfl)) (pv 1)) pa_nil))))))), ?_⟩
  refine xs_asgE (evr_op (Ev.go (by walk_at "ev") (evr_cb (ear_cons (Ev.go (Ev.is (d' := .lst ((1 :: g :: vs).map .int)) (ev_op (ev_lst (ds := [.int 1, .int g]) (ea_cons ev_cI (ea_cons (ev_op (ev_var rfl) ev_cI (rv_ixT rfl)) ea_nil))) (ev_cb (ea_cons (ev_op (ev_var rfl) ev_cI (rv_ixT rfl)) ea_nil) rc_listT) (rv_addL (by simp; omega))) rfl) (ear_nil ?_))))))
  refine rcr_maxL (by simp) fun m hm hx => ?_
  have m1 : 1 ≤ m := hx 1 (by simp)
  have m2 : g ≤ m := hx g (by simp)
  have m3 : m ≤ 1000000 := by
    rcases List.mem_cons.mp hm with rfl | hm
    · decide
    · rcases List.mem_cons.mp hm with rfl | hm
      · omega
      · exact (hp.hv m hm).2
  refine RV.go (rv_I (by show CDiv _ _; exact ⟨by omega, by omega⟩)) (bd_name ?_)
  have hf : (10 : Int) ^ (6 : Int).toNat / m = 1000000 / m := rfl
  rw [hf]
  have hf0 : 0 ≤ 1000000 / m := Int.ediv_nonneg (by decide) (by omega)
  have hf1 : 1000000 / m ≤ 1000000 := Int.ediv_le_self _ (by decide)
  generalize hfe : 1000000 / m = f at hf0 hf1 ⊢
  refine xs_retE (d := toldD (vs.map fun v => v * f) p (g * f)) (ev_tup (ea_cons (ev_cb (ea_cons (Ev.is (ev_lc (n := (vs.map DV.int).length) (fun _ => true) (fun i => .int (vs.getD i 0 * f)) (ei_tup (ds := vs.map .int) (Ev.go (ev_op (ev_var rfl) ev_cI (rv_ixT rfl)) ⟨rfl, rfl⟩)) (by rw [List.length_map]; omega) (bdw_name (by simp)) fun i hi => bd_name ⟨rfl, et_yes, fun _ => ?_⟩) (by rw [picked_all, scaled_ints])) ea_nil) rc_tupL) (ea_cons (ev_op (ev_var rfl) ev_cI (rv_ixT rfl)) (ea_cons (ev_op (ev_op (ev_var rfl) ev_cI (rv_ixT rfl)) (ev_var rfl) (rv_mul (.inr ⟨by omega, by omega⟩))) ea_nil)))) ?_
  · rw [List.length_map] at hi
    rw [nth_of (d := .int (vs.getD i 0)) (by rw [List.getElem?_map, List.getElem?_eq_getElem hi, List.getD_eq_getElem?_getD, List.getElem?_eq_getElem hi]; rfl)]
    exact ev_op (ev_var rfl) (ev_var rfl) (rv_mul (.inr ⟨by omega, by omega⟩))
  · have sg := scaled_le hg1 m2 m1
    rw [hfe] at sg
    refine hR _ _ (by rw [List.length_map]) ⟨by rw [List.length_map]; exact hp.l1, by rw [List.length_map]; exact hp.l2, fun v h => ?_, hp.p1, by rw [List.length_map]; exact hp.p2, sg.1, sg.2⟩
    obtain ⟨u, hu, rfl⟩ := List.mem_map.mp h
    have := scaled_le (hp.hv u hu).1 (hx u (List.mem_cons_of_mem _ (List.mem_cons_of_mem _ hu))) m1
    rw [hfe] at this
    exact this

/-! ### the law's own walkers -/
def S_law_sums : SpecD := fun ds M R => ∃ (n b : Int) (tab : List (Int × Int)) (k : Nat), ds = [.tup (tab.map entD), .int b, .int k] ∧ WalkOk n b tab ∧ k ≤ 1000 ∧ R (.lst ((rowI (wVal tab b) (k + 1)).map .int)) M
theorem ok__law_walk_sums (T : Tx K mg A) : FnOk P w K mg base CX0 1 A.f__law_walk_sums A.d__law_walk_sums ["table_here", "begin", "size"] (spD K S_law_sums) := by
  refine fnD T.F__law_walk_sums sc__law_walk_sums (fun ds M R h => by obtain ⟨n, b, tab, k, rfl, _⟩ := h; rfl) fun cdv B up z H E hr ds M R h => ?_
  obtain ⟨n, b, tab, m, rfl, hw, hm, hR⟩ := h
  have hl := hw.l; have n1 := hw.n1; have n2 := hw.n2
  refine ⟨_, (pss_cons (ps_par (i := 3) (j := 4) rfl sc__law_walk_sums.nd rfl rfl (by decide) rfl rfl (pa_cons (pe_lst (pa_cons (pv 1) pa_nil)) (pa_cons pe_int pa_nil)) rfl) (pss_cons (ps_for PassesOwn.never rfl (pi_range1 rfl T.n_range (pa_cons (pv 2) pa_nil)) (pg_name (i := 5) sc__law_walk_sums.nd rfl (.inl rfl)) (pss_cons (ps_asg (pe_ix (wIx K rfl) (pv 0) (pv 4) (fun _ _ => rfl)) (wTupG K rfl (pg_tup rfl (pgs_cons (pg_name (i := 4) sc__law_walk_sums.nd rfl (.inl rfl)) (pgs_cons (pg_name (i := 6) sc__law_walk_sums.nd rfl (.inl rfl)) pgs_nil))))) (pss_one (ps_expr (wBm K rfl (pe_bm PySem.F.plainAttrs_list PySem.F.slot_list_append PySem.F.type_list_append mt_append (pv 3) (pa_cons (pe_op (wAdd K rfl) (pe_ix (wIx K rfl) (pv 3) (pe_un un_neg pe_int) (fun _ _ => rfl)) (pv 6)) pa_nil))))))) (pss_one (ps_ret (pv 3))))), ?_⟩
  refine xs_outL (xs_seq (w_par (ear_cons (evr_lstC ?_))))
  walk_at "go"
  refine fun a => ?_
  walk_at "go"
  refine w_for1M m (by omega) ?_ (fun i ρ' M' => (∃ c e, ρ' = [some (.tup (tab.map entD)), some (.int b), some (.int (m : Nat)), some (.raw (.ref a)), some (.int (wSt tab i)), c, e]) ∧ M' = (a, MO.lst ((rowI (wVal tab b) (i + 1)).map .int)) :: M) ⟨⟨none, none, rfl⟩, rfl⟩ (fun i ρ' M' hi hinv => ?_) fun ρ' M' hinv => ?_
  · walk_at "go"
    exact ⟨rfl, rfl⟩
  · obtain ⟨⟨c, e, rfl⟩, rfl⟩ := hinv
    have hst := wSt_ok hw i
    walk_at "go"
    refine ⟨⟨_, _, rfl⟩, ?_⟩
    show (a, MO.lst ((rowI (wVal tab b) (i + 1)).map DV.int ++ [.int (wVal tab b (i + 1))])) :: M = _
    rw [rowI_snoc]
  · obtain ⟨⟨c, e, rfl⟩, rfl⟩ := hinv
    walk_at "go"
    exact ⟨a, _, [], M, rfl, rfl, hR⟩
theorem ok__law_is_whole (T : Tx K mg A) : FnOk P w K mg base CX0 1 A.f__law_is_whole A.d__law_is_whole ["thing", "low", "high"] (spD K S_is_between) := by
  refine fnD T.F__law_is_whole sc__law_is_whole (fun ds M R h => by obtain ⟨v, lo, hi, rfl, _⟩ := h; rfl) fun cdv B up z H E hr ds M R h => ?_
  obtain ⟨v, lo, hi, rfl, hv, hR⟩ := h
  refine ⟨_, (pss_one (ps_ret (pe_and (pe_callB (wIsi K rfl) (by rfl) T.n_isinstance (by decide +kernel) (pa_cons (pv 0) (pa_cons (pe_bltn (v := .ty "int") (by rfl) T.n_int (by decide +kernel) rfl) pa_nil))) (pe_and (pe_not (pe_callB (wIsi K rfl) (by rfl) T.n_isinstance (by decide +kernel) (pa_cons (pv 0) (pa_cons (pe_bltn (v := .ty "bool") (by rfl) T.n_bool (by decide +kernel) rfl) pa_nil)))) (pe_one (pe_chain op_le op_le (pv 1) (pv 0) (pv 2))))))), ?_⟩
  have h1 : Ev K (tCB (rIsi K) (tCons (tVar 0) (tCons (tC (.ty "int")) tNil))) (rho0 ["thing", "low", "high"] [v, .int lo, .int hi]) M (.bl (isIntD v)) := by walk_at "ev"
  have h2 : Ev K (tNotV (tCB (rIsi K) (tCons (tVar 0) (tCons (tC (.ty "bool")) tNil)))) (rho0 ["thing", "low", "high"] [v, .int lo, .int hi]) M (.bl (!isBoolD v)) := by walk_at "ev"
  cases v with
  | int i => exact xs_retE (ev_andTr h1 (ev_andTr h2 (ev_chain (ev_var rfl) (ev_var rfl) rv_B0 (fun _ => ev_var rfl) (fun _ => rv_B0)))) hR
  | bl b => exact xs_retE (ev_andTr h1 (ev_andF h2)) hR
  | _ => first | exact xs_retE (ev_andF h1) hR | cases hv
def S_law_entry : SpecD := fun ds M R => ∃ (e : Int × Int) (n : Int), ds = [entD e, .int n] ∧ (0 ≤ e.1 ∧ e.1 < n) ∧ (0 ≤ e.2 ∧ e.2 ≤ 1000000) ∧ R (.bl true) M
theorem ok__law_is_entry (T : Tx K mg A) : FnOk P w K mg base CX0 2 A.f__law_is_entry A.d__law_is_entry ["thing", "n"] (spD K S_law_entry) := by
  refine fnD T.F__law_is_entry sc__law_is_entry (fun ds M R h => by obtain ⟨e, n, rfl, _⟩ := h; rfl) fun cdv B up z H E hr ds M R h => ?_
  obtain ⟨⟨e1, e2⟩, n, rfl, h1, h2, hR⟩ := h
  refine ⟨_, (pss_cons (ps_if (PW.pt (pw_or (pt_not (pt_val (pe_callB (wIsi K rfl) (by rfl) T.n_isinstance (by decide +kernel) (pa_cons (pv 0) (pa_cons (pe_bltn (v := .ty "tuple") (by rfl) T.n_tuple (by decide +kernel) rfl) pa_nil))))) (pw_or1 (pt_cmpR (wNe K rfl hr) (pe_callB (wLen K rfl) (by rfl) T.n_len PySem.boot_len (pa_cons (pv 0) pa_nil)) pe_int (nomark _))))) (pss_one (ps_ret pe_bl)) pss_nil) (pss_one (ps_ret (pe_and (pe_call (ok__law_is_whole T) (hr.mono (by decide)) (by rfl) T.g__law_is_whole T.F__law_is_whole.kp (b__law_is_whole T) .nil pass0 (pa_cons (pe_ix (wIx K rfl) (pv 0) pe_int (fun _ _ => rfl)) (pa_cons pe_int (pa_cons (pe_op op_sub (pv 1) pe_int) pa_nil)))) (pe_one (pe_call (ok__law_is_whole T) (hr.mono (by decide)) (by rfl) T.g__law_is_whole T.F__law_is_whole.kp (b__law_is_whole T) .nil pass0 (pa_cons (pe_ix (wIx K rfl) (pv 0) pe_int (fun _ _ => rfl)) (pa_cons pe_int (pa_cons (pe_op op_pow pe_int pe_int) pa_nil))))))))), ?_⟩
  walk_at "go"
  exact hR
def S_law_entries : SpecD := fun ds M R => ∃ (n b : Int) (tab : List (Int × Int)), ds = [.tup (tab.map entD), .int n, .int n, .int n] ∧ WalkOk n b tab ∧ R (.bl true) M
theorem all_yes {α : Type} {xs : List α} : (xs.all fun _ => true) = true := List.all_eq_true.mpr fun _ _ => rfl
theorem ok__law_are_entries (T : Tx K mg A) : FnOk P w K mg base CX0 3 A.f__law_are_entries A.d__law_are_entries ["thing", "n", "least", "most"] (spD K S_law_entries) := by
  refine fnD T.F__law_are_entries sc__law_are_entries (fun ds M R h => by obtain ⟨n, b, tab, rfl, _⟩ := h; rfl) fun cdv B up z H E hr ds M R h => ?_
  obtain ⟨n, b, tab, rfl, hw, hR⟩ := h
  have hl := hw.l; have n1 := hw.n1; have n2 := hw.n2
  refine ⟨_, (pss_cons (ps_if (PW.pt (pw_or (pt_not (pt_val (pe_callB (wIsi K rfl) (by rfl) T.n_isinstance (by decide +kernel) (pa_cons (pv 0) (pa_cons (pe_bltn (v := .ty "tuple") (by rfl) T.n_tuple (by decide +kernel) rfl) pa_nil))))) (pw_or1 (pt_not (pt_chain op_le op_le (pv 2) (pe_callB (wLen K rfl) (by rfl) T.n_len PySem.boot_len (pa_cons (pv 0) pa_nil)) (pv 3)))))) (pss_one (ps_ret pe_bl)) pss_nil) (pss_one (ps_ret (pe_callB (wAll K rfl rfl) (by rfl) T.n_all (by decide +kernel) (pa_cons (pe_lc (own := [("each", 4)]) rfl sc__law_are_entries.nd (wTup K rfl (pv 0)) (blkOk_by (own := [("each", 4)]) (N := ["thing", "n", "least", "most", "each"]) (sc := defScope s__law_are_entries) (by decide +kernel)) (fun _ _ _ _ _ => (pg_name (i := 4) sc__law_are_entries.nd rfl (.inl rfl))) (fun _ _ _ _ _ => pts_nil) (fun _ _ _ _ _ => (pe_call (ok__law_is_entry T) (hr.mono (by decide)) (by rfl) T.g__law_is_entry T.F__law_is_entry.kp (b__law_is_entry T) .nil pass0 (pa_cons (pv 4) (pa_cons (pv 1) pa_nil))))) pa_nil))))), ?_⟩
  walk_at "go"
  refine w_lcTm (xs := tab) (g := entD) (fun _ => .bl true) (by omega) ?_ (fun e he => ?_) ?_
  · walk_at "go"
    exact ⟨rfl, rfl⟩
  · walk_at "go"
    refine ⟨e, n, rfl, (hw.he e he).1, (hw.he e he).2, ?_⟩
    walk_at "go"
    exact ⟨rfl, rfl⟩
  walk_at "go"
  rw [all_yes]
  exact hR
def S_law_walk : SpecD := fun ds M R => ∃ (n b : Int) (tab : List (Int × Int)), ds = [walkTold n b tab] ∧ WalkOk n b tab ∧ R (.bl true) M
theorem rc_isiW {M : Ms} {n b : Int} {tab : List (Int × Int)} : RC K (rIsi K) [walkTold n b tab, .raw (.ty "tuple")] M (.bl true) := rc_isiTup (x := walkTold n b tab) rfl
theorem rc_lenW {M : Ms} {n b : Int} {tab : List (Int × Int)} : RC K (DD.rLen K) [walkTold n b tab] M (.int 3) := rc_lenT (ds := [.int n, .int b, .tup (tab.map entD)])
local macro_rules | `(tactic| walk_at "st_rc") => `(tactic| first | (with_reducible refine' RC.go rc_isiW ?_) | (with_reducible refine' RC.go rc_lenW ?_))
theorem ok__law_is_walk (T : Tx K mg A) : FnOk P w K mg base CX0 4 A.f__law_is_walk A.d__law_is_walk ["thing"] (spD K S_law_walk) := by
  refine fnD T.F__law_is_walk sc__law_is_walk (fun ds M R h => by obtain ⟨n, b, tab, rfl, _⟩ := h; rfl) fun cdv B up z H E hr ds M R h => ?_
  obtain ⟨n, b, tab, rfl, hw, hR⟩ := h
  have hl := hw.l; have n1 := hw.n1; have n2 := hw.n2; have b1 := hw.b1; have b2 := hw.b2
  refine ⟨_, (pss_cons (ps_if (PW.pt (pw_or (pt_not (pt_val (pe_callB (wIsi K rfl) (by rfl) T.n_isinstance (by decide +kernel) (pa_cons (pv 0) (pa_cons (pe_bltn (v := .ty "tuple") (by rfl) T.n_tuple (by decide +kernel) rfl) pa_nil))))) (pw_or (pt_cmpR (wNe K rfl hr) (pe_callB (wLen K rfl) (by rfl) T.n_len PySem.boot_len (pa_cons (pv 0) pa_nil)) pe_int (nomark _)) (pw_or1 (pt_not (pt_val (pe_call (ok__law_is_whole T) (hr.mono (by decide)) (by rfl) T.g__law_is_whole T.F__law_is_whole.kp (b__law_is_whole T) .nil pass0 (pa_cons (pe_ix (wIx K rfl) (pv 0) pe_int (fun _ _ => rfl)) (pa_cons pe_int (pa_cons pe_int pa_nil)))))))))) (pss_one (ps_ret pe_bl)) pss_nil) (pss_one (ps_ret (pe_and (pe_call (ok__law_is_whole T) (hr.mono (by decide)) (by rfl) T.g__law_is_whole T.F__law_is_whole.kp (b__law_is_whole T) .nil pass0 (pa_cons (pe_ix (wIx K rfl) (pv 0) pe_int (fun _ _ => rfl)) (pa_cons pe_int (pa_cons (pe_op op_pow pe_int pe_int) pa_nil)))) (pe_one (pe_call (ok__law_are_entries T) (hr.mono (by decide)) (by rfl) T.g__law_are_entries T.F__law_are_entries.kp (b__law_are_entries T) .nil pass0 (pa_cons (pe_ix (wIx K rfl) (pv 0) pe_int (fun _ _ => rfl)) (pa_cons (pe_ix (wIx K rfl) (pv 0) pe_int (fun _ _ => rfl)) (pa_cons (pe_ix (wIx K rfl) (pv 0) pe_int (fun _ _ => rfl)) (pa_cons (pe_ix (wIx K rfl) (pv 0) pe_int (fun _ _ => rfl)) pa_nil)))))))))), ?_⟩
  walk_at "go"
  exact ⟨n, b, tab, rfl, hw, hR⟩
def S_law_led : SpecD := fun ds M R => ∃ (vs : List Int) (p g n b : Int) (tab : List (Int × Int)), ds = [toldD vs p g, walkTold n b tab] ∧ PatOk vs p g ∧ WalkOk n b tab ∧ (∀ x, wVal tab b x = fnOf vs p g x) ∧ R (.bl true) M
theorem ok__law_led_shown (T : Tx K mg A) : FnOk P w K mg base CX0 5 A.f__law_led_shown A.d__law_led_shown ["form", "thing"] (spD K S_law_led) := by
  refine fnD T.F__law_led_shown sc__law_led_shown (fun ds M R h => by obtain ⟨vs, p, g, n, b, tab, rfl, _⟩ := h; rfl) fun cdv B up z H E hr ds M R h => ?_
  obtain ⟨vs, p, g, n, b, tab, rfl, hp, hw, hs, hR⟩ := h
  refine ⟨_, (pss_cons (ps_if (pt_not (pt_val (pe_call (ok__law_is_walk T) (hr.mono (by decide)) (by rfl) T.g__law_is_walk T.F__law_is_walk.kp (b__law_is_walk T) .nil pass0 (pa_cons (pv 1) pa_nil)))) (pss_one (ps_ret pe_bl)) pss_nil) (pss_one (ps_ret (pe_cmpR (wEq K rfl hr) (pe_call (ok__law_walk_sums T) (hr.mono (by decide)) (by rfl) T.g__law_walk_sums T.F__law_walk_sums.kp (b__law_walk_sums T) .nil pass0 (pa_cons (pe_ix (wIx K rfl) (pv 1) pe_int (fun _ _ => rfl)) (pa_cons (pe_ix (wIx K rfl) (pv 1) pe_int (fun _ _ => rfl)) (pa_cons pe_int pa_nil)))) (pe_lc (own := [("x", 2)]) rfl sc__law_led_shown.nd (pi_range1 rfl T.n_range (pa_cons pe_int pa_nil)) (blkOk_by (own := [("x", 2)]) (N := ["form", "thing", "x"]) (sc := defScope s__law_led_shown) (by decide +kernel)) (fun _ _ _ _ _ => (pg_name (i := 2) sc__law_led_shown.nd rfl (.inl rfl))) (fun _ _ _ _ _ => pts_nil) (fun _ _ _ _ _ => (pe_call (ok__law_at T) (hr.mono (by decide)) (by rfl) T.g__law_at T.F__law_at.kp (b__law_at T) .nil pass0 (pa_cons (pv 0) (pa_cons (pv 2) pa_nil))))) (nomark _))))), ?_⟩
  walk_at "go"
  refine ⟨n, b, tab, rfl, hw, ?_⟩
  walk_at "go"
  refine ⟨n, b, tab, 620, rfl, hw, by decide, ?_⟩
  walk_at "go"
  refine w_lc1 621 (fun i => .int (wVal tab b i)) (by decide) ?_ (fun i hi => ?_) ?_
  · walk_at "go"
    exact w_rg1 rfl
  · walk_at "go"
    exact ⟨by rw [hs]; rfl, rfl⟩
  have e : (List.range 621).map (fun i => DV.int (wVal tab b i)) = (rowI (wVal tab b) 621).map .int := by rw [List.map_map]; rfl
  rw [e]
  have ff : Fit (.lst ((rowI (wVal tab b) (620 + 1)).map .int)) := Fit.intsL (fun v hv => by
    obtain ⟨x, hx, rfl⟩ := rowI_mem hv
    have := wVal_ok hw x
    exact Nat.lt_of_le_of_lt (show (wVal tab b x).natAbs ≤ 1000000000 by omega) (by decide)) (by rw [rowI_len]; decide)
  walk_at "go"
  exact hR
def S_law_falls : SpecD := fun ds M R => ∃ (vs : List Int) (p g i : Int), ds = [toldD vs p g, .int i] ∧ PatOk vs p g ∧ 0 ≤ i ∧ i ≤ 1000000 ∧ valAt vs p g (i + 1) < valAt vs p g i ∧ R (.bl true) M
theorem ok__law_falls_shown (T : Tx K mg A) : FnOk P w K mg base CX0 2 A.f__law_falls_shown A.d__law_falls_shown ["form", "thing"] (spD K S_law_falls) := by
  refine fnD T.F__law_falls_shown sc__law_falls_shown (fun ds M R h => by obtain ⟨vs, p, g, i, rfl, _⟩ := h; rfl) fun cdv B up z H E hr ds M R h => ?_
  obtain ⟨vs, p, g, i, rfl, hp, h0, h1, h2, hR⟩ := h
  refine ⟨_, (pss_one (ps_ret (pe_and (pe_call (ok__law_is_whole T) (hr.mono (by decide)) (by rfl) T.g__law_is_whole T.F__law_is_whole.kp (b__law_is_whole T) .nil pass0 (pa_cons (pv 1) (pa_cons pe_int (pa_cons (pe_op op_pow pe_int pe_int) pa_nil)))) (pe_one (pe_cmpR op_lt (pe_call (ok__law_at T) (hr.mono (by decide)) (by rfl) T.g__law_at T.F__law_at.kp (b__law_at T) .nil pass0 (pa_cons (pv 0) (pa_cons (pe_op (wAdd K rfl) (pv 1) pe_int) pa_nil))) (pe_call (ok__law_at T) (hr.mono (by decide)) (by rfl) T.g__law_at T.F__law_at.kp (b__law_at T) .nil pass0 (pa_cons (pv 0) (pa_cons (pv 1) pa_nil))) (nomark _)))))), ?_⟩
  walk_at "go"
  rw [decide_eq_true h2]
  exact hR
def S_law_pair : SpecD := fun ds M R => ∃ (xs : List DV) (y : DV), ds = [.tup [.tup xs, y]] ∧ R (.bl true) M
theorem ok__law_pair_told (T : Tx K mg A) : FnOk P w K mg base CX0 1 A.f__law_pair_told A.d__law_pair_told ["thing"] (spD K S_law_pair) := by
  refine fnD T.F__law_pair_told sc__law_pair_told (fun ds M R h => by obtain ⟨xs, y, rfl, _⟩ := h; rfl) fun cdv B up z H E hr ds M R h => ?_
  obtain ⟨xs, y, rfl, hR⟩ := h
  refine ⟨_, (pss_one (ps_ret (pe_and (pe_callB (wIsi K rfl) (by rfl) T.n_isinstance (by decide +kernel) (pa_cons (pv 0) (pa_cons (pe_bltn (v := .ty "tuple") (by rfl) T.n_tuple (by decide +kernel) rfl) pa_nil))) (pe_and (pe_cmpR (wEq K rfl hr) (pe_callB (wLen K rfl) (by rfl) T.n_len PySem.boot_len (pa_cons (pv 0) pa_nil)) pe_int (nomark _)) (pe_one (pe_callB (wIsi K rfl) (by rfl) T.n_isinstance (by decide +kernel) (pa_cons (pe_ix (wIx K rfl) (pv 0) pe_int (fun _ _ => rfl)) (pa_cons (pe_bltn (v := .ty "tuple") (by rfl) T.n_tuple (by decide +kernel) rfl) pa_nil)))))))), ?_⟩
  walk_at "go"
  exact hR
def S_formed (A : Ad) : SpecD := fun ds M R => ∃ (vs : List Int) (p g : Int), ds = [toldD vs p g] ∧ PatOk vs p g ∧ R (patD A vs p g) M
theorem ok__law_formed (T : Tx K mg A) : FnOk P w K mg base CX0 6 A.f__law_formed A.d__law_formed ["form"] (spD K (S_formed A)) := by
  refine fnD T.F__law_formed sc__law_formed (fun ds M R h => by obtain ⟨vs, p, g, rfl, _⟩ := h; rfl) fun cdv B up z H E hr ds M R h => ?_
  obtain ⟨vs, p, g, rfl, hp, hR⟩ := h
  refine ⟨_, (pss_one (ps_ret (pe_make T.mk_Pattern (ok_Pattern_init T) (hr.mono (by decide)) (by rfl) T.g_Pattern (b_Pattern_init T) .nil pass0 (pa_cons (pe_ix (wIx K rfl) (pv 0) pe_int (fun _ _ => rfl)) (pa_cons (pe_ix (wIx K rfl) (pv 0) pe_int (fun _ _ => rfl)) (pa_cons (pe_ix (wIx K rfl) (pv 0) pe_int (fun _ _ => rfl)) pa_nil)))))), ?_⟩
  walk_at "go"
  exact hR
def S_law_fallen : SpecD := fun ds M R => ∃ (vs : List Int) (p g : Int), ds = [toldD vs p g] ∧ PatOk vs p g ∧ R (optD (fallIn vs p g vs.length)) M
theorem ok__law_fallen (T : Tx K mg A) : FnOk P w K mg base CX0 2 A.f__law_fallen A.d__law_fallen ["form"] (spD K S_law_fallen) := by
  refine fnD T.F__law_fallen sc__law_fallen (fun ds M R h => by obtain ⟨vs, p, g, rfl, _⟩ := h; rfl) fun cdv B up z H E hr ds M R h => ?_
  obtain ⟨vs, p, g, rfl, hp, hR⟩ := h
  have l2 := hp.l2; have p1 := hp.p1; have p2 := hp.p2
  refine ⟨_, (pss_cons (ps_setLc (i := 1) (own := [("x", 2)]) rfl sc__law_fallen.nd rfl rfl (sw_true rfl rfl rfl (by decide +kernel)) (pi_range1 rfl T.n_range (pa_cons (pe_op (wMul K rfl) pe_int (pe_callB (wLen K rfl) (by rfl) T.n_len PySem.boot_len (pa_cons (pe_ix (wIx K rfl) (pv 0) pe_int (fun _ _ => rfl)) pa_nil))) pa_nil)) (blkOk_by (own := [("x", 2)]) (N := ["form", "down", "x"]) (sc := defScope s__law_fallen) (by decide +kernel)) (fun _ _ _ _ _ => (pg_name (i := 2) sc__law_fallen.nd rfl (.inl rfl))) (fun _ _ _ _ _ => (pts_one (pt_cmpR op_lt (pe_call (ok__law_at T) (hr.mono (by decide)) (by rfl) T.g__law_at T.F__law_at.kp (b__law_at T) .nil pass0 (pa_cons (pv 0) (pa_cons (pe_op (wAdd K rfl) (pv 2) pe_int) pa_nil))) (pe_call (ok__law_at T) (hr.mono (by decide)) (by rfl) T.g__law_at T.F__law_at.kp (b__law_at T) .nil pass0 (pa_cons (pv 0) (pa_cons (pv 2) pa_nil))) (nomark _)))) (fun _ _ _ _ _ => (pv 2))) (pss_one (ps_ret (pe_ifExp (pt_cmpR (wNe K rfl hr) (pv 1) (pe_lst pa_nil) (nomark _)) (pe_ix (wIx K rfl) (pv 1) pe_int (fun _ _ => rfl)) pe_non)))), ?_⟩
  walk_at "go"
  refine w_lc1t (2 * vs.length) (fun x => decide (valAt vs p g ((x : Int) + 1) < valAt vs p g (x : Int))) (fun x => .int x) (by omega) ?_ (fun x hx => ?_) (fun x hx _ => ?_) ?_
  · walk_at "go"
    exact w_rg1 (by omega)
  · walk_at "go"
    exact ⟨rfl, rfl⟩
  · walk_at "go"
    exact ⟨rfl, rfl⟩
  have hfar : ((List.range (2 * vs.length)).filter fun x : Nat => decide (valAt vs p g ((x : Int) + 1) < valAt vs p g (x : Int))).head? = fallIn vs p g vs.length := by
    rw [List.head?_filter, ← fallIn_more (n := 2 * vs.length) p1 p2 (by omega)]; rfl
  have hsm : ∀ y ∈ ((List.range (2 * vs.length)).filter fun x : Nat => decide (valAt vs p g ((x : Int) + 1) < valAt vs p g (x : Int))), y < 2 * vs.length := fun y hy => List.mem_range.mp (List.mem_filter.mp hy).1
  have hln := List.length_filter_le (fun x : Nat => decide (valAt vs p g ((x : Int) + 1) < valAt vs p g (x : Int))) (List.range (2 * vs.length))
  rw [List.length_range] at hln
  generalize (List.range (2 * vs.length)).filter (fun x : Nat => decide (valAt vs p g ((x : Int) + 1) < valAt vs p g (x : Int))) = L at hfar hsm hln ⊢
  have hfitL : Fit (.lst (L.map fun x : Nat => DV.int (x : Int))) := by
    have := Fit.intsL (ns := L.map fun x : Nat => (x : Int)) (fun n h => by
      obtain ⟨y, hy, rfl⟩ := List.mem_map.mp h
      have := hsm y hy
      exact Nat.lt_of_le_of_lt (show ((y : Int)).natAbs ≤ 1000000 by omega) (by decide)) (by rw [List.length_map]; omega)
    rw [List.map_map] at this
    exact this
  rcases nil_or L with rfl | ⟨x, L, rfl⟩
  · rw [show optD (fallIn vs p g vs.length) = .non by rw [← hfar]; rfl] at hR
    walk_at "go"
    exact hR
  · rw [show optD (fallIn vs p g vs.length) = .int x by rw [← hfar]; rfl] at hR
    walk_at "go"
    · exact (atI_nat (j := 0) rfl)
    · exact hR
def S_right : SpecD := fun ds M R => ∃ j : Addr, ds = [.raw (.ref j)] ∧ (j, jugO) ∈ M ∧ R (.bl true) M
theorem fs_walk {n b : Int} {tab : List (Int × Int)} (h : WalkOk n b tab) : Fs (walkTold n b tab) 3 100 := by
  have hl := h.l; have n1 := h.n1; have n2 := h.n2; have b1 := h.b1; have b2 := h.b2
  refine (Fs.tup (FsA.cons (Fs.int ⟨by omega, by omega⟩) (FsA.cons (Fs.int ⟨by omega, by omega⟩) (FsA.cons (Fs.tup (FsA.all (p := 1) (b := 2) (n := 24) (fun d hd => ?_) (by rw [List.length_map]; omega))) FsA.nil)))).le (by decide) (by decide)
  obtain ⟨e, he, rfl⟩ := List.mem_map.mp hd
  have := h.he e he
  exact (Fs.tup (FsA.cons (Fs.int ⟨by omega, by omega⟩) (FsA.cons (Fs.int ⟨by omega, by omega⟩) FsA.nil))).le (by decide) (by decide)
local macro_rules | `(tactic| walk_at "fit2") => `(tactic| exact fs_walk (by assumption))
theorem ok__law_right (T : Tx K mg A) : FnOk P w K mg base CX0 10 A.f__law_right A.d__law_right ["jug"] (spD K S_right) := by
  refine fnD T.F__law_right sc__law_right (fun ds M R h => by obtain ⟨j, rfl, _⟩ := h; rfl) fun cdv B up z H E hr ds M R h => ?_
  obtain ⟨j, rfl, hm, hR⟩ := h
  refine ⟨_, (pss_cons (ps_for PassesOwn.never rfl (pi_range1 rfl T.n_range (pa_cons pe_int pa_nil)) (pg_name (i := 1) sc__law_right.nd rfl (.inl rfl)) (pss_cons (ps_set (i := 2) sc__law_right.nd rfl (.inl rfl) (pe_call (ok__law_form T) (hr.mono (by decide)) (by rfl) T.g__law_form T.F__law_form.kp (b__law_form T) .nil pass0 (pa_cons (pv 0) (pa_cons pe_int pa_nil)))) (pss_cons (ps_if (pt_cmpR (wEq K rfl hr) (pe_call (ok__law_pour T) (hr.mono (by decide)) (by rfl) T.g__law_pour T.F__law_pour.kp (b__law_pour T) .nil pass0 (pa_cons (pv 0) (pa_cons pe_int pa_nil))) pe_int (nomark _)) (pss_one (ps_set (i := 2) sc__law_right.nd rfl (.inl rfl) (pe_call (ok__law_scaled T) (hr.mono (by decide)) (by rfl) T.g__law_scaled T.F__law_scaled.kp (b__law_scaled T) .nil pass0 (pa_cons (pv 2) pa_nil)))) pss_nil) (pss_cons (ps_par (i := 3) (j := 4) rfl sc__law_right.nd rfl rfl (by decide) rfl rfl (pa_cons (pe_call (ok__law_formed T) (hr.mono (by decide)) (by rfl) T.g__law_formed T.F__law_formed.kp (b__law_formed T) .nil pass0 (pa_cons (pv 2) pa_nil)) (pa_cons (pe_cmpR op_notN' (pe_call (ok__law_fallen T) (hr.mono (by decide)) (by rfl) T.g__law_fallen T.F__law_fallen.kp (b__law_fallen T) .nil pass0 (pa_cons (pv 2) pa_nil)) pe_non (nomark _)) pa_nil)) rfl) (pss_cons (ps_set (i := 5) sc__law_right.nd rfl (.inl rfl) (pe_call (ok_certify_led T) (hr.mono (by decide)) (by rfl) T.g_certify_led T.F_certify_led.kp (b_certify_led T) .nil pass0 (pa_cons (pv 3) pa_nil))) (pss_cons (ps_if (PW.pt (pw_or (pt_not (pt_val (pe_call (ok__law_pair_told T) (hr.mono (by decide)) (by rfl) T.g__law_pair_told T.F__law_pair_told.kp (b__law_pair_told T) .nil pass0 (pa_cons (pv 5) pa_nil)))) (pw_or1 (pt_cmpR (wNe K rfl hr) (pe_ix (wIx K rfl) (pv 5) pe_int (fun _ _ => rfl)) (pe_tup (pa_cons (pe_ifExp (pt_val (pv 4)) pe_str pe_str) (pa_cons (pv 2) pa_nil))) (nomark _))))) (pss_one (ps_ret pe_bl)) pss_nil) (pss_cons (ps_if (PW.pt (pw_or (PW.pt (pw_and (pt_val (pv 4)) (pw_and1 (pt_not (pt_val (pe_call (ok__law_falls_shown T) (hr.mono (by decide)) (by rfl) T.g__law_falls_shown T.F__law_falls_shown.kp (b__law_falls_shown T) .nil pass0 (pa_cons (pv 2) (pa_cons (pe_ix (wIx K rfl) (pv 5) pe_int (fun _ _ => rfl)) pa_nil)))))))) (pw_or1 (PW.pt (pw_and (pt_not (pt_val (pv 4))) (pw_and1 (pt_not (pt_val (pe_call (ok__law_led_shown T) (hr.mono (by decide)) (by rfl) T.g__law_led_shown T.F__law_led_shown.kp (b__law_led_shown T) .nil pass0 (pa_cons (pv 2) (pa_cons (pe_ix (wIx K rfl) (pv 5) pe_int (fun _ _ => rfl)) pa_nil))))))))))) (pss_one (ps_ret pe_bl)) pss_nil) (pss_one (ps_if (PW.pt (pw_or (pt_cmpR op_notB (pe_call (ok_holds T) (hr.mono (by decide)) (by rfl) T.g_holds T.F_holds.kp (b_holds T) .nil pass0 (pa_cons (pe_ix (wIx K rfl) (pv 5) pe_int (fun _ _ => rfl)) (pa_cons (pe_ix (wIx K rfl) (pv 5) pe_int (fun _ _ => rfl)) pa_nil))) pe_bl (nomark _)) (pw_or1 (pt_cmpR (wNe K rfl hr) (pe_callK0 (ok_certify_led T) (hr.mono (by decide)) (by rfl) T.g_certify_led T.F_certify_led.kp (kbinds_mk (ks := ["pattern"]) (n := 0) (m := 1) (perm := [0]) T.F_certify_led (by decide) (fun _ _ _ _ _ _ us ws h1 h2 => match us, h1, ws, h2 with | [], _, [_], _ => rfl)) pass0 (pk_cons (pv 3) pk_nil)) (pv 5) (nomark _))))) (pss_one (ps_ret pe_bl)) pss_nil))))))))) (pss_one (ps_ret pe_bl))), ?_⟩
  walk_at "go"
  refine w_for1 3 (by decide) ?_ (fun i ρ => ∃ a b c d e, ρ = [some (.raw (.ref j)), a, b, c, d, e]) ⟨none, none, none, none, none, rfl⟩ (fun i ρ' hi hinv => ?_) fun ρ' hinv => ?_
  · walk_at "go"
    exact w_rg1 rfl
  · obtain ⟨b1, b2, b3, b4, b5, rfl⟩ := hinv
    walk_at "go"
    refine ⟨j, 12, rfl, hm, by decide, by decide, fun vs p g ⟨hp, _, _⟩ hl => ?_⟩
    walk_at "go"
    refine w_pour hm (by omega) (by omega) fun x1 x10 x11 => ?_
    walk_at "go"
    · refine ⟨vs, p, g, rfl, hp, fun ws g' hlw hpw => ?_⟩
      walk_at "go"
      refine ⟨ws, p, g', rfl, hpw, ?_⟩
      walk_at "go"
      refine ⟨ws, p, g', rfl, hpw, ?_⟩
      cases e : fallIn ws p g' ws.length with
      | none =>
        walk_at "go"
        refine ⟨ws, p, g', rfl, hpw, fun i hi => (by rw [e] at hi; cases hi), fun _ t r c hpl hle hok => ?_⟩
        have hsum := fun x => (plain_walks hpl.per hpl.q1 x).2
        walk_at "go"
        refine ⟨_, _, rfl, ?_⟩
        walk_at "go"
        refine ⟨ws, p, g', _, _, _, rfl, hpw, hok, hsum, ?_⟩
        walk_at "go"
        refine ⟨ws, p, g', _, _, rfl, hpw, .led hok hsum, ?_⟩
        walk_at "go"
        refine ⟨ws, p, g', rfl, hpw, fun i hi => (by rw [e] at hi; cases hi), fun _ t2 r2 c2 hpl2 hle2 hok2 => ?_⟩
        obtain ⟨rfl, rfl, rfl⟩ := hpl.unique hpl2
        walk_at "go"
        exact ⟨rfl, _, _, _, _, _, rfl⟩
      | some k =>
        obtain ⟨hk, hf⟩ := fall_at e
        have hl24 := hpw.l2
        walk_at "go"
        refine ⟨ws, p, g', rfl, hpw, fun i hi => ?_, fun h => (by rw [e] at h; cases h)⟩
        obtain rfl : k = i := by rw [e] at hi; exact Option.some.inj hi
        walk_at "go"
        refine ⟨_, _, rfl, ?_⟩
        walk_at "go"
        refine ⟨ws, p, g', _, rfl, hpw, by omega, by omega, hf, ?_⟩
        walk_at "go"
        refine ⟨ws, p, g', _, _, rfl, hpw, .falls (by omega) (by omega) hf, ?_⟩
        walk_at "go"
        refine ⟨ws, p, g', rfl, hpw, fun i hi => ?_, fun h => (by rw [e] at h; cases h)⟩
        obtain rfl : k = i := by rw [e] at hi; exact Option.some.inj hi
        walk_at "go"
        exact ⟨rfl, _, _, _, _, _, rfl⟩
    · refine ⟨vs, p, g, rfl, hp, ?_⟩
      walk_at "go"
      refine ⟨vs, p, g, rfl, hp, ?_⟩
      cases e : fallIn vs p g vs.length with
      | none =>
        walk_at "go"
        refine ⟨vs, p, g, rfl, hp, fun i hi => (by rw [e] at hi; cases hi), fun _ t r c hpl hle hok => ?_⟩
        have hsum := fun x => (plain_walks hpl.per hpl.q1 x).2
        walk_at "go"
        refine ⟨_, _, rfl, ?_⟩
        walk_at "go"
        refine ⟨vs, p, g, _, _, _, rfl, hp, hok, hsum, ?_⟩
        walk_at "go"
        refine ⟨vs, p, g, _, _, rfl, hp, .led hok hsum, ?_⟩
        walk_at "go"
        refine ⟨vs, p, g, rfl, hp, fun i hi => (by rw [e] at hi; cases hi), fun _ t2 r2 c2 hpl2 hle2 hok2 => ?_⟩
        obtain ⟨rfl, rfl, rfl⟩ := hpl.unique hpl2
        walk_at "go"
        exact ⟨rfl, _, _, _, _, _, rfl⟩
      | some k =>
        obtain ⟨hk, hf⟩ := fall_at e
        have hl24 := hp.l2
        walk_at "go"
        refine ⟨vs, p, g, rfl, hp, fun i hi => ?_, fun h => (by rw [e] at h; cases h)⟩
        obtain rfl : k = i := by rw [e] at hi; exact Option.some.inj hi
        walk_at "go"
        refine ⟨_, _, rfl, ?_⟩
        walk_at "go"
        refine ⟨vs, p, g, _, rfl, hp, by omega, by omega, hf, ?_⟩
        walk_at "go"
        refine ⟨vs, p, g, _, _, rfl, hp, .falls (by omega) (by omega) hf, ?_⟩
        walk_at "go"
        refine ⟨vs, p, g, rfl, hp, fun i hi => ?_, fun h => (by rw [e] at h; cases h)⟩
        obtain rfl : k = i := by rw [e] at hi; exact Option.some.inj hi
        walk_at "go"
        exact ⟨rfl, _, _, _, _, _, rfl⟩
  · obtain ⟨b1, b2, b3, b4, b5, rfl⟩ := hinv
    walk_at "go"
    exact hR

/-! ### what is asked of the law -/
def S_law : SpecD := fun ds M R => ∃ ns : List Int, ds = [.rd (ns.map .int)] ∧ ns.length ≤ 63 ∧ R (.bl true) M
abbrev spLaw (K : PySem.W.Frag) : Sp := spD K S_law
theorem law_asks {H : Hp} {a : Addr} {ns : List Int} {E : XK} (hl : ns.length ≤ 63) (hS : SqL K H a (ns.map V.int)) : spLaw K [.ref a] H (fun v _ => v = .bl true) E :=
  ⟨H, [], [], [.rd (ns.map .int)], fun d _ => d = .bl true, ⟨Evl.Ex.refl H, (fun _ _ h => nomatch h), List.nodup_nil⟩, .cons (.rd hS (RpA.ints ns)) .nil, ⟨ns, rfl, hl, rfl⟩, fun v d M' F' H' _ h _ r => by subst h; exact r.bl_of⟩

/-! ### the law: all of some jugs -/
theorem ok_law (T : Tx K mg A) : FnG P w K mg base CX0 11 A.f_law A.d_law ["script"] (spLaw K) := by
  refine fnDG T.F_law sc_law (fun ds M R h => by obtain ⟨ns, rfl, _⟩ := h; rfl) fun cdv B up z H E hG hr ds M R h => ?_
  obtain ⟨ns, rfl, hl, hR⟩ := h
  refine ⟨_, (pss_one (ps_ret (pe_callB (wAll K rfl rfl) (by rfl) T.n_all (by decide +kernel) (pa_cons (pe_lc (own := [("k", 1)]) rfl sc_law.nd (pi_range1 rfl T.n_range (pa_cons (pe_callB (wMax2 rfl) (by rfl) T.n_max (by decide +kernel) (pa_cons pe_int (pa_cons (pe_callB (wMin2 rfl) (by rfl) T.n_min (by decide +kernel) (pa_cons (pe_callB (wLen K rfl) (by rfl) T.n_len PySem.boot_len (pa_cons (pv 0) pa_nil)) (pa_cons pe_int pa_nil))) pa_nil))) pa_nil)) (blkOk_by (own := [("k", 1)]) (N := ["script", "k"]) (sc := defScope s_law) (by decide +kernel)) (fun _ _ _ _ _ => (pg_name (i := 1) sc_law.nd rfl (.inl rfl))) (fun _ _ _ _ _ => pts_nil) (fun _ _ _ _ _ => (pe_call (ok__law_right T) (hr.mono (by decide)) (by rfl) T.g__law_right T.F__law_right.kp (b__law_right T) .nil pass0 (pa_cons (pe_call (ok__law_jug T) (hr.mono (by decide)) (by rfl) T.g__law_jug T.F__law_jug.kp (b__law_jug T) .nil pass0 (pa_cons (pv 0) (pa_cons (pv 1) pa_nil))) pa_nil)))) pa_nil)))), ?_⟩
  generalize hk : (if (if 5 < (ns.length : Int) then (5 : Int) else ns.length) > 2 then (if 5 < (ns.length : Int) then (5 : Int) else ns.length) else 2) = k
  have k0 : 0 ≤ k := by rw [← hk]; repeat' split <;> omega
  have k1 : k ≤ 5 := by rw [← hk]; repeat' split <;> omega
  refine xs_ret (evr_cb (ear_cons (evr_lc (ei_rng1 (j := k) (RM := fun M' => M' = M) (EvA.go (ds := [.int k]) (ea_cons (Ev.is (ev_cb (ea_cons ev_cI (ea_cons (ev_cb (ea_cons (ev_cb (ea_cons (ev_var rfl) ea_nil) rc_lenR) (ea_cons ev_cI ea_nil)) rc_min2) ea_nil)) rc_max2) (by rw [List.length_map]; exact congrArg DV.int hk)) ea_nil) ⟨rfl, rfl⟩) ⟨by omega, by omega⟩) (by omega) (fun i acc M' => M' = M ∧ acc = (List.replicate i true).map .bl) (fun M' e => ⟨e, rfl⟩) (fun _ _ _ _ _ c hc => nomatch hc) (bdw_name (by simp)) (fun i acc M' hi hinv => ?_) fun acc M' hl2 hinv => ?_)))
  · obtain ⟨rfl, rfl⟩ := hinv
    refine bd_name (etr_yes ?_)
    show EvR K _ _ _ _
    refine evr_drop (evr_call (ear_cons (evr_call (EvA.go (by walk_at "ea") ⟨ns, i, rfl, by omega, hl, fun p => ear_nil ⟨p, rfl, List.mem_cons_self, _, _, rfl, rfl, ?_⟩⟩))))
    rw [List.replicate_succ', List.map_append]; rfl
  · obtain ⟨rfl, rfl⟩ := hinv
    refine ear_nil (RC.go rc_allL ?_)
    rw [show (List.replicate k.toNat true).all id = true from List.all_eq_true.mpr fun b hb => by rw [List.eq_of_mem_replicate hb]; rfl]
    exact hR

end
theorem all_mk {l : PySem.W.OpenLaw} {w : World} {K : PySem.W.Frag} {h : Heap} {mg : Str → Option Value} {fa : Addr} (X : K.In h) (G : h.Ns mainGlobals mg) (hfa : mg "law" = some (.ref fa))
    {f0 : Addr} {od0 an0 : Option Addr} {sl0 : Array (Option Value)} {oc0 kV0 dc0 pm0 cd0 ct0 : Value}
    {f1 : Addr} {od1 an1 : Option Addr} {sl1 : Array (Option Value)} {oc1 kV1 dc1 pm1 cd1 ct1 : Value}
    {f2 : Addr} {od2 an2 : Option Addr} {sl2 : Array (Option Value)} {oc2 kV2 dc2 pm2 cd2 ct2 : Value}
    {f3 : Addr} {od3 an3 : Option Addr} {sl3 : Array (Option Value)} {oc3 kV3 dc3 pm3 cd3 ct3 : Value}
    {f4 : Addr} {od4 an4 : Option Addr} {sl4 : Array (Option Value)} {oc4 kV4 dc4 pm4 cd4 ct4 : Value}
    {f5 : Addr} {od5 an5 : Option Addr} {sl5 : Array (Option Value)} {oc5 kV5 dc5 pm5 cd5 ct5 : Value}
    {f6 : Addr} {od6 an6 : Option Addr} {sl6 : Array (Option Value)} {oc6 kV6 dc6 pm6 cd6 ct6 : Value}
    {f7 : Addr} {od7 an7 : Option Addr} {sl7 : Array (Option Value)} {oc7 kV7 dc7 pm7 cd7 ct7 : Value}
    {f8 : Addr} {od8 an8 : Option Addr} {sl8 : Array (Option Value)} {oc8 kV8 dc8 pm8 cd8 ct8 : Value}
    {f9 : Addr} {od9 an9 : Option Addr} {sl9 : Array (Option Value)} {oc9 kV9 dc9 pm9 cd9 ct9 : Value}
    {f10 : Addr} {od10 an10 : Option Addr} {sl10 : Array (Option Value)} {oc10 kV10 dc10 pm10 cd10 ct10 : Value}
    {f11 : Addr} {od11 an11 : Option Addr} {sl11 : Array (Option Value)} {oc11 kV11 dc11 pm11 cd11 ct11 : Value}
    {f12 : Addr} {od12 an12 : Option Addr} {sl12 : Array (Option Value)} {oc12 kV12 dc12 pm12 cd12 ct12 : Value}
    {f13 : Addr} {od13 an13 : Option Addr} {sl13 : Array (Option Value)} {oc13 kV13 dc13 pm13 cd13 ct13 : Value}
    {f14 : Addr} {od14 an14 : Option Addr} {sl14 : Array (Option Value)} {oc14 kV14 dc14 pm14 cd14 ct14 : Value}
    {f15 : Addr} {od15 an15 : Option Addr} {sl15 : Array (Option Value)} {oc15 kV15 dc15 pm15 cd15 ct15 : Value}
    {f16 : Addr} {od16 an16 : Option Addr} {sl16 : Array (Option Value)} {oc16 kV16 dc16 pm16 cd16 ct16 : Value}
    {f17 : Addr} {od17 an17 : Option Addr} {sl17 : Array (Option Value)} {oc17 kV17 dc17 pm17 cd17 ct17 : Value}
    {f18 : Addr} {od18 an18 : Option Addr} {sl18 : Array (Option Value)} {oc18 kV18 dc18 pm18 cd18 ct18 : Value}
    {f19 : Addr} {od19 an19 : Option Addr} {sl19 : Array (Option Value)} {oc19 kV19 dc19 pm19 cd19 ct19 : Value}
    {f20 : Addr} {od20 an20 : Option Addr} {sl20 : Array (Option Value)} {oc20 kV20 dc20 pm20 cd20 ct20 : Value}
    {f21 : Addr} {od21 an21 : Option Addr} {sl21 : Array (Option Value)} {oc21 kV21 dc21 pm21 cd21 ct21 : Value}
    {f22 : Addr} {od22 an22 : Option Addr} {sl22 : Array (Option Value)} {oc22 kV22 dc22 pm22 cd22 ct22 : Value}
    {f23 : Addr} {od23 an23 : Option Addr} {sl23 : Array (Option Value)} {oc23 kV23 dc23 pm23 cd23 ct23 : Value}
    {f24 : Addr} {od24 an24 : Option Addr} {sl24 : Array (Option Value)} {oc24 kV24 dc24 pm24 cd24 ct24 : Value}
    {f25 : Addr} {od25 an25 : Option Addr} {sl25 : Array (Option Value)} {oc25 kV25 dc25 pm25 cd25 ct25 : Value}
    {f26 : Addr} {od26 an26 : Option Addr} {sl26 : Array (Option Value)} {oc26 kV26 dc26 pm26 cd26 ct26 : Value}
    {f27 : Addr} {od27 an27 : Option Addr} {sl27 : Array (Option Value)} {oc27 kV27 dc27 pm27 cd27 ct27 : Value}
    {f28 : Addr} {od28 an28 : Option Addr} {sl28 : Array (Option Value)} {oc28 kV28 dc28 pm28 cd28 ct28 : Value}
    {f29 : Addr} {od29 an29 : Option Addr} {sl29 : Array (Option Value)} {oc29 kV29 dc29 pm29 cd29 ct29 : Value}
    {f30 : Addr} {od30 an30 : Option Addr} {sl30 : Array (Option Value)} {oc30 kV30 dc30 pm30 cd30 ct30 : Value}
    {f31 : Addr} {od31 an31 : Option Addr} {sl31 : Array (Option Value)} {oc31 kV31 dc31 pm31 cd31 ct31 : Value}
    {f32 : Addr} {od32 an32 : Option Addr} {sl32 : Array (Option Value)} {oc32 kV32 dc32 pm32 cd32 ct32 : Value}
    {f33 : Addr} {od33 an33 : Option Addr} {sl33 : Array (Option Value)} {oc33 kV33 dc33 pm33 cd33 ct33 : Value}
    {f34 : Addr} {od34 an34 : Option Addr} {sl34 : Array (Option Value)} {oc34 kV34 dc34 pm34 cd34 ct34 : Value}
    {f35 : Addr} {od35 an35 : Option Addr} {sl35 : Array (Option Value)} {oc35 kV35 dc35 pm35 cd35 ct35 : Value}
    {f36 : Addr} {od36 an36 : Option Addr} {sl36 : Array (Option Value)} {oc36 kV36 dc36 pm36 cd36 ct36 : Value}
    {f37 : Addr} {od37 an37 : Option Addr} {sl37 : Array (Option Value)} {oc37 kV37 dc37 pm37 cd37 ct37 : Value}
    {f38 : Addr} {od38 an38 : Option Addr} {sl38 : Array (Option Value)} {oc38 kV38 dc38 pm38 cd38 ct38 : Value}
    {f39 : Addr} {od39 an39 : Option Addr} {sl39 : Array (Option Value)} {oc39 kV39 dc39 pm39 cd39 ct39 : Value}
    {f40 : Addr} {od40 an40 : Option Addr} {sl40 : Array (Option Value)} {oc40 kV40 dc40 pm40 cd40 ct40 : Value}
    {f41 : Addr} {od41 an41 : Option Addr} {sl41 : Array (Option Value)} {oc41 kV41 dc41 pm41 cd41 ct41 : Value}
    {f42 : Addr} {od42 an42 : Option Addr} {sl42 : Array (Option Value)} {oc42 kV42 dc42 pm42 cd42 ct42 : Value}
    {C_Pattern : Addr}
    {C_Walker : Addr}
    {t_MOST_VALUES : Tok}
    {t_MOST_GIFT : Tok}
    {t_MOST_SUMMED : Tok}
    {t_MOST_AMOUNT : Tok}
    (aC_Pattern : PySem.W.nsIn K mainGlobals "Pattern" = some (some (.ref C_Pattern)))
    (aC_Walker : PySem.W.nsIn K mainGlobals "Walker" = some (some (.ref C_Walker)))
    (a0 : PySem.W.nsIn K mainGlobals "is_between" = some (some (.ref f0)))
    (l0 : K.lookup f0 = some ⟨oc0, od0, .func (PySem.W.fnOf "is_between" "is_between" (defArgs s_is_between) (defBody s_is_between) (defScope s_is_between) .none kV0 dc0 pm0 an0 cd0 ct0), sl0⟩)
    (c0 : PySem.W.codeIn K cd0 "is_between" = true)
    (k0 : PySem.W.keepIn K (.ref f0) = true)
    (a1 : PySem.W.nsIn K mainGlobals "is_entry" = some (some (.ref f1)))
    (l1 : K.lookup f1 = some ⟨oc1, od1, .func (PySem.W.fnOf "is_entry" "is_entry" (defArgs s_is_entry) (defBody s_is_entry) (defScope s_is_entry) .none kV1 dc1 pm1 an1 cd1 ct1), sl1⟩)
    (c1 : PySem.W.codeIn K cd1 "is_entry" = true)
    (k1 : PySem.W.keepIn K (.ref f1) = true)
    (a2 : PySem.W.nsIn K mainGlobals "wrong_entry" = some (some (.ref f2)))
    (l2 : K.lookup f2 = some ⟨oc2, od2, .func (PySem.W.fnOf "wrong_entry" "wrong_entry" (defArgs s_wrong_entry) (defBody s_wrong_entry) (defScope s_wrong_entry) .none kV2 dc2 pm2 an2 cd2 ct2), sl2⟩)
    (c2 : PySem.W.codeIn K cd2 "wrong_entry" = true)
    (k2 : PySem.W.keepIn K (.ref f2) = true)
    (a3 : PySem.W.nsIn K mainGlobals "wrong_number" = some (some (.ref f3)))
    (l3 : K.lookup f3 = some ⟨oc3, od3, .func (PySem.W.fnOf "wrong_number" "wrong_number" (defArgs s_wrong_number) (defBody s_wrong_number) (defScope s_wrong_number) .none kV3 dc3 pm3 an3 cd3 ct3), sl3⟩)
    (c3 : PySem.W.codeIn K cd3 "wrong_number" = true)
    (k3 : PySem.W.keepIn K (.ref f3) = true)
    (a4 : PySem.W.nsIn K mainGlobals "check_values" = some (some (.ref f4)))
    (l4 : K.lookup f4 = some ⟨oc4, od4, .func (PySem.W.fnOf "check_values" "check_values" (defArgs s_check_values) (defBody s_check_values) (defScope s_check_values) .none kV4 dc4 pm4 an4 cd4 ct4), sl4⟩)
    (c4 : PySem.W.codeIn K cd4 "check_values" = true)
    (k4 : PySem.W.keepIn K (.ref f4) = true)
    (a5 : PySem.W.nsIn K mainGlobals "value_at" = some (some (.ref f5)))
    (l5 : K.lookup f5 = some ⟨oc5, od5, .func (PySem.W.fnOf "value_at" "value_at" (defArgs s_value_at) (defBody s_value_at) (defScope s_value_at) .none kV5 dc5 pm5 an5 cd5 ct5), sl5⟩)
    (c5 : PySem.W.codeIn K cd5 "value_at" = true)
    (k5 : PySem.W.keepIn K (.ref f5) = true)
    (a6 : PySem.W.findIn K (.ref C_Pattern) "__init__" = some (some (.ref f6)))
    (i6 : PySem.W.isFn K (.ref f6) = true)
    (l6 : K.lookup f6 = some ⟨oc6, od6, .func (PySem.W.fnOf "__init__" "Pattern.__init__" (defArgs s_Pattern_init) (defBody s_Pattern_init) (defScope s_Pattern_init) .none kV6 dc6 pm6 an6 cd6 ct6), sl6⟩)
    (c6 : PySem.W.codeIn K cd6 "Pattern.__init__" = true)
    (k6 : PySem.W.keepIn K (.ref f6) = true)
    (a7 : PySem.W.findIn K (.ref C_Pattern) "at" = some (some (.ref f7)))
    (i7 : PySem.W.isFn K (.ref f7) = true)
    (l7 : K.lookup f7 = some ⟨oc7, od7, .func (PySem.W.fnOf "at" "Pattern.at" (defArgs s_Pattern_at) (defBody s_Pattern_at) (defScope s_Pattern_at) .none kV7 dc7 pm7 an7 cd7 ct7), sl7⟩)
    (c7 : PySem.W.codeIn K cd7 "Pattern.at" = true)
    (k7 : PySem.W.keepIn K (.ref f7) = true)
    (a8 : PySem.W.nsIn K mainGlobals "check_pattern" = some (some (.ref f8)))
    (l8 : K.lookup f8 = some ⟨oc8, od8, .func (PySem.W.fnOf "check_pattern" "check_pattern" (defArgs s_check_pattern) (defBody s_check_pattern) (defScope s_check_pattern) .none kV8 dc8 pm8 an8 cd8 ct8), sl8⟩)
    (c8 : PySem.W.codeIn K cd8 "check_pattern" = true)
    (k8 : PySem.W.keepIn K (.ref f8) = true)
    (a9 : PySem.W.nsIn K mainGlobals "fit_of" = some (some (.ref f9)))
    (l9 : K.lookup f9 = some ⟨oc9, od9, .func (PySem.W.fnOf "fit_of" "fit_of" (defArgs s_fit_of) (defBody s_fit_of) (defScope s_fit_of) .none kV9 dc9 pm9 an9 cd9 ct9), sl9⟩)
    (c9 : PySem.W.codeIn K cd9 "fit_of" = true)
    (k9 : PySem.W.keepIn K (.ref f9) = true)
    (a10 : PySem.W.nsIn K mainGlobals "plainest" = some (some (.ref f10)))
    (l10 : K.lookup f10 = some ⟨oc10, od10, .func (PySem.W.fnOf "plainest" "plainest" (defArgs s_plainest) (defBody s_plainest) (defScope s_plainest) .none kV10 dc10 pm10 an10 cd10 ct10), sl10⟩)
    (c10 : PySem.W.codeIn K cd10 "plainest" = true)
    (k10 : PySem.W.keepIn K (.ref f10) = true)
    (a11 : PySem.W.nsIn K mainGlobals "plain_told" = some (some (.ref f11)))
    (l11 : K.lookup f11 = some ⟨oc11, od11, .func (PySem.W.fnOf "plain_told" "plain_told" (defArgs s_plain_told) (defBody s_plain_told) (defScope s_plain_told) .none kV11 dc11 pm11 an11 cd11 ct11), sl11⟩)
    (c11 : PySem.W.codeIn K cd11 "plain_told" = true)
    (k11 : PySem.W.keepIn K (.ref f11) = true)
    (a12 : PySem.W.nsIn K mainGlobals "fall_of" = some (some (.ref f12)))
    (l12 : K.lookup f12 = some ⟨oc12, od12, .func (PySem.W.fnOf "fall_of" "fall_of" (defArgs s_fall_of) (defBody s_fall_of) (defScope s_fall_of) .none kV12 dc12 pm12 an12 cd12 ct12), sl12⟩)
    (c12 : PySem.W.codeIn K cd12 "fall_of" = true)
    (k12 : PySem.W.keepIn K (.ref f12) = true)
    (a13 : PySem.W.findIn K (.ref C_Walker) "__init__" = some (some (.ref f13)))
    (i13 : PySem.W.isFn K (.ref f13) = true)
    (l13 : K.lookup f13 = some ⟨oc13, od13, .func (PySem.W.fnOf "__init__" "Walker.__init__" (defArgs s_Walker_init) (defBody s_Walker_init) (defScope s_Walker_init) .none kV13 dc13 pm13 an13 cd13 ct13), sl13⟩)
    (c13 : PySem.W.codeIn K cd13 "Walker.__init__" = true)
    (k13 : PySem.W.keepIn K (.ref f13) = true)
    (a14 : PySem.W.nsIn K mainGlobals "walked" = some (some (.ref f14)))
    (l14 : K.lookup f14 = some ⟨oc14, od14, .func (PySem.W.fnOf "walked" "walked" (defArgs s_walked) (defBody s_walked) (defScope s_walked) .none kV14 dc14 pm14 an14 cd14 ct14), sl14⟩)
    (c14 : PySem.W.codeIn K cd14 "walked" = true)
    (k14 : PySem.W.keepIn K (.ref f14) = true)
    (a15 : PySem.W.nsIn K mainGlobals "walker_of" = some (some (.ref f15)))
    (l15 : K.lookup f15 = some ⟨oc15, od15, .func (PySem.W.fnOf "walker_of" "walker_of" (defArgs s_walker_of) (defBody s_walker_of) (defScope s_walker_of) .none kV15 dc15 pm15 an15 cd15 ct15), sl15⟩)
    (c15 : PySem.W.codeIn K cd15 "walker_of" = true)
    (k15 : PySem.W.keepIn K (.ref f15) = true)
    (a16 : PySem.W.nsIn K mainGlobals "certify_led" = some (some (.ref f16)))
    (l16 : K.lookup f16 = some ⟨oc16, od16, .func (PySem.W.fnOf "certify_led" "certify_led" (defArgs s_certify_led) (defBody s_certify_led) (defScope s_certify_led) .none kV16 dc16 pm16 an16 cd16 ct16), sl16⟩)
    (c16 : PySem.W.codeIn K cd16 "certify_led" = true)
    (k16 : PySem.W.keepIn K (.ref f16) = true)
    (a17 : PySem.W.nsIn K mainGlobals "is_triple" = some (some (.ref f17)))
    (l17 : K.lookup f17 = some ⟨oc17, od17, .func (PySem.W.fnOf "is_triple" "is_triple" (defArgs s_is_triple) (defBody s_is_triple) (defScope s_is_triple) .none kV17 dc17 pm17 an17 cd17 ct17), sl17⟩)
    (c17 : PySem.W.codeIn K cd17 "is_triple" = true)
    (k17 : PySem.W.keepIn K (.ref f17) = true)
    (a18 : PySem.W.nsIn K mainGlobals "pattern_from" = some (some (.ref f18)))
    (l18 : K.lookup f18 = some ⟨oc18, od18, .func (PySem.W.fnOf "pattern_from" "pattern_from" (defArgs s_pattern_from) (defBody s_pattern_from) (defScope s_pattern_from) .none kV18 dc18 pm18 an18 cd18 ct18), sl18⟩)
    (c18 : PySem.W.codeIn K cd18 "pattern_from" = true)
    (k18 : PySem.W.keepIn K (.ref f18) = true)
    (a19 : PySem.W.nsIn K mainGlobals "walker_from" = some (some (.ref f19)))
    (l19 : K.lookup f19 = some ⟨oc19, od19, .func (PySem.W.fnOf "walker_from" "walker_from" (defArgs s_walker_from) (defBody s_walker_from) (defScope s_walker_from) .none kV19 dc19 pm19 an19 cd19 ct19), sl19⟩)
    (c19 : PySem.W.codeIn K cd19 "walker_from" = true)
    (k19 : PySem.W.keepIn K (.ref f19) = true)
    (a20 : PySem.W.nsIn K mainGlobals "shows_led" = some (some (.ref f20)))
    (l20 : K.lookup f20 = some ⟨oc20, od20, .func (PySem.W.fnOf "shows_led" "shows_led" (defArgs s_shows_led) (defBody s_shows_led) (defScope s_shows_led) .none kV20 dc20 pm20 an20 cd20 ct20), sl20⟩)
    (c20 : PySem.W.codeIn K cd20 "shows_led" = true)
    (k20 : PySem.W.keepIn K (.ref f20) = true)
    (a21 : PySem.W.nsIn K mainGlobals "shows_falls" = some (some (.ref f21)))
    (l21 : K.lookup f21 = some ⟨oc21, od21, .func (PySem.W.fnOf "shows_falls" "shows_falls" (defArgs s_shows_falls) (defBody s_shows_falls) (defScope s_shows_falls) .none kV21 dc21 pm21 an21 cd21 ct21), sl21⟩)
    (c21 : PySem.W.codeIn K cd21 "shows_falls" = true)
    (k21 : PySem.W.keepIn K (.ref f21) = true)
    (a22 : PySem.W.nsIn K mainGlobals "holds_of_pattern" = some (some (.ref f22)))
    (l22 : K.lookup f22 = some ⟨oc22, od22, .func (PySem.W.fnOf "holds_of_pattern" "holds_of_pattern" (defArgs s_holds_of_pattern) (defBody s_holds_of_pattern) (defScope s_holds_of_pattern) .none kV22 dc22 pm22 an22 cd22 ct22), sl22⟩)
    (c22 : PySem.W.codeIn K cd22 "holds_of_pattern" = true)
    (k22 : PySem.W.keepIn K (.ref f22) = true)
    (a23 : PySem.W.nsIn K mainGlobals "holds" = some (some (.ref f23)))
    (l23 : K.lookup f23 = some ⟨oc23, od23, .func (PySem.W.fnOf "holds" "holds" (defArgs s_holds) (defBody s_holds) (defScope s_holds) .none kV23 dc23 pm23 an23 cd23 ct23), sl23⟩)
    (c23 : PySem.W.codeIn K cd23 "holds" = true)
    (k23 : PySem.W.keepIn K (.ref f23) = true)
    (a24 : PySem.W.nsIn K mainGlobals "_law_jug" = some (some (.ref f24)))
    (l24 : K.lookup f24 = some ⟨oc24, od24, .func (PySem.W.fnOf "_law_jug" "_law_jug" (defArgs s__law_jug) (defBody s__law_jug) (defScope s__law_jug) .none kV24 dc24 pm24 an24 cd24 ct24), sl24⟩)
    (c24 : PySem.W.codeIn K cd24 "_law_jug" = true)
    (k24 : PySem.W.keepIn K (.ref f24) = true)
    (a25 : PySem.W.nsIn K mainGlobals "_law_pour" = some (some (.ref f25)))
    (l25 : K.lookup f25 = some ⟨oc25, od25, .func (PySem.W.fnOf "_law_pour" "_law_pour" (defArgs s__law_pour) (defBody s__law_pour) (defScope s__law_pour) .none kV25 dc25 pm25 an25 cd25 ct25), sl25⟩)
    (c25 : PySem.W.codeIn K cd25 "_law_pour" = true)
    (k25 : PySem.W.keepIn K (.ref f25) = true)
    (a26 : PySem.W.nsIn K mainGlobals "_law_one" = some (some (.ref f26)))
    (l26 : K.lookup f26 = some ⟨oc26, od26, .func (PySem.W.fnOf "_law_one" "_law_one" (defArgs s__law_one) (defBody s__law_one) (defScope s__law_one) .none kV26 dc26 pm26 an26 cd26 ct26), sl26⟩)
    (c26 : PySem.W.codeIn K cd26 "_law_one" = true)
    (k26 : PySem.W.keepIn K (.ref f26) = true)
    (a27 : PySem.W.nsIn K mainGlobals "_law_least_gain" = some (some (.ref f27)))
    (l27 : K.lookup f27 = some ⟨oc27, od27, .func (PySem.W.fnOf "_law_least_gain" "_law_least_gain" (defArgs s__law_least_gain) (defBody s__law_least_gain) (defScope s__law_least_gain) .none kV27 dc27 pm27 an27 cd27 ct27), sl27⟩)
    (c27 : PySem.W.codeIn K cd27 "_law_least_gain" = true)
    (k27 : PySem.W.keepIn K (.ref f27) = true)
    (a28 : PySem.W.nsIn K mainGlobals "_law_form" = some (some (.ref f28)))
    (l28 : K.lookup f28 = some ⟨oc28, od28, .func (PySem.W.fnOf "_law_form" "_law_form" (defArgs s__law_form) (defBody s__law_form) (defScope s__law_form) .none kV28 dc28 pm28 an28 cd28 ct28), sl28⟩)
    (c28 : PySem.W.codeIn K cd28 "_law_form" = true)
    (k28 : PySem.W.keepIn K (.ref f28) = true)
    (a29 : PySem.W.nsIn K mainGlobals "_law_at" = some (some (.ref f29)))
    (l29 : K.lookup f29 = some ⟨oc29, od29, .func (PySem.W.fnOf "_law_at" "_law_at" (defArgs s__law_at) (defBody s__law_at) (defScope s__law_at) .none kV29 dc29 pm29 an29 cd29 ct29), sl29⟩)
    (c29 : PySem.W.codeIn K cd29 "_law_at" = true)
    (k29 : PySem.W.keepIn K (.ref f29) = true)
    (a30 : PySem.W.nsIn K mainGlobals "_law_walk_sums" = some (some (.ref f30)))
    (l30 : K.lookup f30 = some ⟨oc30, od30, .func (PySem.W.fnOf "_law_walk_sums" "_law_walk_sums" (defArgs s__law_walk_sums) (defBody s__law_walk_sums) (defScope s__law_walk_sums) .none kV30 dc30 pm30 an30 cd30 ct30), sl30⟩)
    (c30 : PySem.W.codeIn K cd30 "_law_walk_sums" = true)
    (k30 : PySem.W.keepIn K (.ref f30) = true)
    (a31 : PySem.W.nsIn K mainGlobals "_law_is_whole" = some (some (.ref f31)))
    (l31 : K.lookup f31 = some ⟨oc31, od31, .func (PySem.W.fnOf "_law_is_whole" "_law_is_whole" (defArgs s__law_is_whole) (defBody s__law_is_whole) (defScope s__law_is_whole) .none kV31 dc31 pm31 an31 cd31 ct31), sl31⟩)
    (c31 : PySem.W.codeIn K cd31 "_law_is_whole" = true)
    (k31 : PySem.W.keepIn K (.ref f31) = true)
    (a32 : PySem.W.nsIn K mainGlobals "_law_is_entry" = some (some (.ref f32)))
    (l32 : K.lookup f32 = some ⟨oc32, od32, .func (PySem.W.fnOf "_law_is_entry" "_law_is_entry" (defArgs s__law_is_entry) (defBody s__law_is_entry) (defScope s__law_is_entry) .none kV32 dc32 pm32 an32 cd32 ct32), sl32⟩)
    (c32 : PySem.W.codeIn K cd32 "_law_is_entry" = true)
    (k32 : PySem.W.keepIn K (.ref f32) = true)
    (a33 : PySem.W.nsIn K mainGlobals "_law_are_entries" = some (some (.ref f33)))
    (l33 : K.lookup f33 = some ⟨oc33, od33, .func (PySem.W.fnOf "_law_are_entries" "_law_are_entries" (defArgs s__law_are_entries) (defBody s__law_are_entries) (defScope s__law_are_entries) .none kV33 dc33 pm33 an33 cd33 ct33), sl33⟩)
    (c33 : PySem.W.codeIn K cd33 "_law_are_entries" = true)
    (k33 : PySem.W.keepIn K (.ref f33) = true)
    (a34 : PySem.W.nsIn K mainGlobals "_law_is_walk" = some (some (.ref f34)))
    (l34 : K.lookup f34 = some ⟨oc34, od34, .func (PySem.W.fnOf "_law_is_walk" "_law_is_walk" (defArgs s__law_is_walk) (defBody s__law_is_walk) (defScope s__law_is_walk) .none kV34 dc34 pm34 an34 cd34 ct34), sl34⟩)
    (c34 : PySem.W.codeIn K cd34 "_law_is_walk" = true)
    (k34 : PySem.W.keepIn K (.ref f34) = true)
    (a35 : PySem.W.nsIn K mainGlobals "_law_led_shown" = some (some (.ref f35)))
    (l35 : K.lookup f35 = some ⟨oc35, od35, .func (PySem.W.fnOf "_law_led_shown" "_law_led_shown" (defArgs s__law_led_shown) (defBody s__law_led_shown) (defScope s__law_led_shown) .none kV35 dc35 pm35 an35 cd35 ct35), sl35⟩)
    (c35 : PySem.W.codeIn K cd35 "_law_led_shown" = true)
    (k35 : PySem.W.keepIn K (.ref f35) = true)
    (a36 : PySem.W.nsIn K mainGlobals "_law_falls_shown" = some (some (.ref f36)))
    (l36 : K.lookup f36 = some ⟨oc36, od36, .func (PySem.W.fnOf "_law_falls_shown" "_law_falls_shown" (defArgs s__law_falls_shown) (defBody s__law_falls_shown) (defScope s__law_falls_shown) .none kV36 dc36 pm36 an36 cd36 ct36), sl36⟩)
    (c36 : PySem.W.codeIn K cd36 "_law_falls_shown" = true)
    (k36 : PySem.W.keepIn K (.ref f36) = true)
    (a37 : PySem.W.nsIn K mainGlobals "_law_scaled" = some (some (.ref f37)))
    (l37 : K.lookup f37 = some ⟨oc37, od37, .func (PySem.W.fnOf "_law_scaled" "_law_scaled" (defArgs s__law_scaled) (defBody s__law_scaled) (defScope s__law_scaled) .none kV37 dc37 pm37 an37 cd37 ct37), sl37⟩)
    (c37 : PySem.W.codeIn K cd37 "_law_scaled" = true)
    (k37 : PySem.W.keepIn K (.ref f37) = true)
    (a38 : PySem.W.nsIn K mainGlobals "_law_pair_told" = some (some (.ref f38)))
    (l38 : K.lookup f38 = some ⟨oc38, od38, .func (PySem.W.fnOf "_law_pair_told" "_law_pair_told" (defArgs s__law_pair_told) (defBody s__law_pair_told) (defScope s__law_pair_told) .none kV38 dc38 pm38 an38 cd38 ct38), sl38⟩)
    (c38 : PySem.W.codeIn K cd38 "_law_pair_told" = true)
    (k38 : PySem.W.keepIn K (.ref f38) = true)
    (a39 : PySem.W.nsIn K mainGlobals "_law_formed" = some (some (.ref f39)))
    (l39 : K.lookup f39 = some ⟨oc39, od39, .func (PySem.W.fnOf "_law_formed" "_law_formed" (defArgs s__law_formed) (defBody s__law_formed) (defScope s__law_formed) .none kV39 dc39 pm39 an39 cd39 ct39), sl39⟩)
    (c39 : PySem.W.codeIn K cd39 "_law_formed" = true)
    (k39 : PySem.W.keepIn K (.ref f39) = true)
    (a40 : PySem.W.nsIn K mainGlobals "_law_fallen" = some (some (.ref f40)))
    (l40 : K.lookup f40 = some ⟨oc40, od40, .func (PySem.W.fnOf "_law_fallen" "_law_fallen" (defArgs s__law_fallen) (defBody s__law_fallen) (defScope s__law_fallen) .none kV40 dc40 pm40 an40 cd40 ct40), sl40⟩)
    (c40 : PySem.W.codeIn K cd40 "_law_fallen" = true)
    (k40 : PySem.W.keepIn K (.ref f40) = true)
    (a41 : PySem.W.nsIn K mainGlobals "_law_right" = some (some (.ref f41)))
    (l41 : K.lookup f41 = some ⟨oc41, od41, .func (PySem.W.fnOf "_law_right" "_law_right" (defArgs s__law_right) (defBody s__law_right) (defScope s__law_right) .none kV41 dc41 pm41 an41 cd41 ct41), sl41⟩)
    (c41 : PySem.W.codeIn K cd41 "_law_right" = true)
    (k41 : PySem.W.keepIn K (.ref f41) = true)
    (a42 : PySem.W.nsIn K mainGlobals "law" = some (some (.ref f42)))
    (l42 : K.lookup f42 = some ⟨oc42, od42, .func (PySem.W.fnOf "law" "law" (defArgs s_law) (defBody s_law) (defScope s_law) .none kV42 dc42 pm42 an42 cd42 ct42), sl42⟩)
    (c42 : PySem.W.codeIn K cd42 "law" = true)
    (k42 : PySem.W.keepIn K (.ref f42) = true)
    (pg_Pattern : PySem.W.plainGet K C_Pattern Str.empty = true)
    (hd_Pattern : PySem.W.hasDictIn K C_Pattern = true)
    (po_Pattern : PySem.W.plainOver K C_Pattern = true)
    (sa_Pattern : PySem.W.findIn K (.ref C_Pattern) "__setattr__" = some (some (.builtin "object.__setattr__")))
    (mk_Pattern : PySem.W.makesIn K C_Pattern = true)
    (kc_Pattern : PySem.W.keepIn K (.ref C_Pattern) = true)
    (na_Pattern_firsts : PySem.W.findIn K (.ref C_Pattern) "firsts" = some none)
    (na_Pattern_period : PySem.W.findIn K (.ref C_Pattern) "period" = some none)
    (na_Pattern_gain : PySem.W.findIn K (.ref C_Pattern) "gain" = some none)
    (na_Pattern_told : PySem.W.findIn K (.ref C_Pattern) "told" = some none)
    (t1_Pattern : PySem.W.findIn K (.ref C_Pattern) "__class__" = some (some (.builtin "object.__class__")))
    (t2_Pattern : PySem.W.specialIn K (.builtin "object.__class__") "__get__" = some (some (.builtin "getset_descriptor.__get__")))
    (t3_Pattern : PySem.W.takesIn K (.builtin "object.__class__") = some true)
    (t4_Pattern : PySem.W.mroIn K C_Pattern (.type "object") = some true)
    (pg_Walker : PySem.W.plainGet K C_Walker Str.empty = true)
    (hd_Walker : PySem.W.hasDictIn K C_Walker = true)
    (po_Walker : PySem.W.plainOver K C_Walker = true)
    (sa_Walker : PySem.W.findIn K (.ref C_Walker) "__setattr__" = some (some (.builtin "object.__setattr__")))
    (mk_Walker : PySem.W.makesIn K C_Walker = true)
    (kc_Walker : PySem.W.keepIn K (.ref C_Walker) = true)
    (na_Walker_count : PySem.W.findIn K (.ref C_Walker) "count" = some none)
    (na_Walker_begin : PySem.W.findIn K (.ref C_Walker) "begin" = some none)
    (na_Walker_table : PySem.W.findIn K (.ref C_Walker) "table" = some none)
    (na_Walker_told : PySem.W.findIn K (.ref C_Walker) "told" = some none)
    (t1_Walker : PySem.W.findIn K (.ref C_Walker) "__class__" = some (some (.builtin "object.__class__")))
    (t2_Walker : PySem.W.specialIn K (.builtin "object.__class__") "__get__" = some (some (.builtin "getset_descriptor.__get__")))
    (t3_Walker : PySem.W.takesIn K (.builtin "object.__class__") = some true)
    (t4_Walker : PySem.W.mroIn K C_Walker (.type "object") = some true)
    (z_MOST_VALUES : PySem.W.nsIn K mainGlobals "MOST_VALUES" = some (some (.int 24 t_MOST_VALUES)))
    (z_MOST_GIFT : PySem.W.nsIn K mainGlobals "MOST_GIFT" = some (some (.int 1000000 t_MOST_GIFT)))
    (z_MOST_SUMMED : PySem.W.nsIn K mainGlobals "MOST_SUMMED" = some (some (.int 1000000 t_MOST_SUMMED)))
    (z_MOST_AMOUNT : PySem.W.nsIn K mainGlobals "MOST_AMOUNT" = some (some (.int 1000000000000 t_MOST_AMOUNT)))
    (n_abs : PySem.W.nsIn K mainGlobals "abs" = some none)
    (n_all : PySem.W.nsIn K mainGlobals "all" = some none)
    (n_bool : PySem.W.nsIn K mainGlobals "bool" = some none)
    (n_divmod : PySem.W.nsIn K mainGlobals "divmod" = some none)
    (n_enumerate : PySem.W.nsIn K mainGlobals "enumerate" = some none)
    (n_int : PySem.W.nsIn K mainGlobals "int" = some none)
    (n_isinstance : PySem.W.nsIn K mainGlobals "isinstance" = some none)
    (n_len : PySem.W.nsIn K mainGlobals "len" = some none)
    (n_list : PySem.W.nsIn K mainGlobals "list" = some none)
    (n_max : PySem.W.nsIn K mainGlobals "max" = some none)
    (n_min : PySem.W.nsIn K mainGlobals "min" = some none)
    (n_range : PySem.W.nsIn K mainGlobals "range" = some none)
    (n_str : PySem.W.nsIn K mainGlobals "str" = some none)
    (n_tuple : PySem.W.nsIn K mainGlobals "tuple" = some none)
    : ∃ fd : FuncData, (∀ (s : Shared) (v : Value), BindsTo s fd ⟨[v], []⟩ [("script", v)]) ∧ ∀ base : Heap, K.In base → base.Ns mainGlobals mg → FnG l.prog w K mg base CX0 11 fa fd ["script"] (spLaw K) := by
  cases hfa.symm.trans (PySem.W.mg_of X G a42)
  have F0 := fun_mk (st := s_is_between) l0 c0 k0
  have F1 := fun_mk (st := s_is_entry) l1 c1 k1
  have F2 := fun_mk (st := s_wrong_entry) l2 c2 k2
  have F3 := fun_mk (st := s_wrong_number) l3 c3 k3
  have F4 := fun_mk (st := s_check_values) l4 c4 k4
  have F5 := fun_mk (st := s_value_at) l5 c5 k5
  have F6 := fun_mk (st := s_Pattern_init) l6 c6 k6
  have F7 := fun_mk (st := s_Pattern_at) l7 c7 k7
  have F8 := fun_mk (st := s_check_pattern) l8 c8 k8
  have F9 := fun_mk (st := s_fit_of) l9 c9 k9
  have F10 := fun_mk (st := s_plainest) l10 c10 k10
  have F11 := fun_mk (st := s_plain_told) l11 c11 k11
  have F12 := fun_mk (st := s_fall_of) l12 c12 k12
  have F13 := fun_mk (st := s_Walker_init) l13 c13 k13
  have F14 := fun_mk (st := s_walked) l14 c14 k14
  have F15 := fun_mk (st := s_walker_of) l15 c15 k15
  have F16 := fun_mk (st := s_certify_led) l16 c16 k16
  have F17 := fun_mk (st := s_is_triple) l17 c17 k17
  have F18 := fun_mk (st := s_pattern_from) l18 c18 k18
  have F19 := fun_mk (st := s_walker_from) l19 c19 k19
  have F20 := fun_mk (st := s_shows_led) l20 c20 k20
  have F21 := fun_mk (st := s_shows_falls) l21 c21 k21
  have F22 := fun_mk (st := s_holds_of_pattern) l22 c22 k22
  have F23 := fun_mk (st := s_holds) l23 c23 k23
  have F24 := fun_mk (st := s__law_jug) l24 c24 k24
  have F25 := fun_mk (st := s__law_pour) l25 c25 k25
  have F26 := fun_mk (st := s__law_one) l26 c26 k26
  have F27 := fun_mk (st := s__law_least_gain) l27 c27 k27
  have F28 := fun_mk (st := s__law_form) l28 c28 k28
  have F29 := fun_mk (st := s__law_at) l29 c29 k29
  have F30 := fun_mk (st := s__law_walk_sums) l30 c30 k30
  have F31 := fun_mk (st := s__law_is_whole) l31 c31 k31
  have F32 := fun_mk (st := s__law_is_entry) l32 c32 k32
  have F33 := fun_mk (st := s__law_are_entries) l33 c33 k33
  have F34 := fun_mk (st := s__law_is_walk) l34 c34 k34
  have F35 := fun_mk (st := s__law_led_shown) l35 c35 k35
  have F36 := fun_mk (st := s__law_falls_shown) l36 c36 k36
  have F37 := fun_mk (st := s__law_scaled) l37 c37 k37
  have F38 := fun_mk (st := s__law_pair_told) l38 c38 k38
  have F39 := fun_mk (st := s__law_formed) l39 c39 k39
  have F40 := fun_mk (st := s__law_fallen) l40 c40 k40
  have F41 := fun_mk (st := s__law_right) l41 c41 k41
  have F42 := fun_mk (st := s_law) l42 c42 k42
  have T : Tx K mg ⟨f0, _, f1, _, f2, _, f3, _, f4, _, f5, _, f6, _, f7, _, f8, _, f9, _, f10, _, f11, _, f12, _, f13, _, f14, _, f15, _, f16, _, f17, _, f18, _, f19, _, f20, _, f21, _, f22, _, f23, _, f24, _, f25, _, f26, _, f27, _, f28, _, f29, _, f30, _, f31, _, f32, _, f33, _, f34, _, f35, _, f36, _, f37, _, f38, _, f39, _, f40, _, f41, _, fa, _, C_Pattern, C_Walker⟩ := { F_is_between := F0, g_is_between := PySem.W.mg_of X G a0, F_is_entry := F1, g_is_entry := PySem.W.mg_of X G a1, F_wrong_entry := F2, g_wrong_entry := PySem.W.mg_of X G a2, F_wrong_number := F3, g_wrong_number := PySem.W.mg_of X G a3, F_check_values := F4, g_check_values := PySem.W.mg_of X G a4, F_value_at := F5, g_value_at := PySem.W.mg_of X G a5, F_Pattern_init := F6, mk_Pattern := ⟨mk_Pattern, a6, i6, kc_Pattern⟩, F_Pattern_at := F7, m_Pattern_at := ⟨a7, i7, k7⟩, F_check_pattern := F8, g_check_pattern := PySem.W.mg_of X G a8, F_fit_of := F9, g_fit_of := PySem.W.mg_of X G a9, F_plainest := F10, g_plainest := PySem.W.mg_of X G a10, F_plain_told := F11, g_plain_told := PySem.W.mg_of X G a11, F_fall_of := F12, g_fall_of := PySem.W.mg_of X G a12, F_Walker_init := F13, mk_Walker := ⟨mk_Walker, a13, i13, kc_Walker⟩, F_walked := F14, g_walked := PySem.W.mg_of X G a14, F_walker_of := F15, g_walker_of := PySem.W.mg_of X G a15, F_certify_led := F16, g_certify_led := PySem.W.mg_of X G a16, F_is_triple := F17, g_is_triple := PySem.W.mg_of X G a17, F_pattern_from := F18, g_pattern_from := PySem.W.mg_of X G a18, F_walker_from := F19, g_walker_from := PySem.W.mg_of X G a19, F_shows_led := F20, g_shows_led := PySem.W.mg_of X G a20, F_shows_falls := F21, g_shows_falls := PySem.W.mg_of X G a21, F_holds_of_pattern := F22, g_holds_of_pattern := PySem.W.mg_of X G a22, F_holds := F23, g_holds := PySem.W.mg_of X G a23, F__law_jug := F24, g__law_jug := PySem.W.mg_of X G a24, F__law_pour := F25, g__law_pour := PySem.W.mg_of X G a25, F__law_one := F26, g__law_one := PySem.W.mg_of X G a26, F__law_least_gain := F27, g__law_least_gain := PySem.W.mg_of X G a27, F__law_form := F28, g__law_form := PySem.W.mg_of X G a28, F__law_at := F29, g__law_at := PySem.W.mg_of X G a29, F__law_walk_sums := F30, g__law_walk_sums := PySem.W.mg_of X G a30, F__law_is_whole := F31, g__law_is_whole := PySem.W.mg_of X G a31, F__law_is_entry := F32, g__law_is_entry := PySem.W.mg_of X G a32, F__law_are_entries := F33, g__law_are_entries := PySem.W.mg_of X G a33, F__law_is_walk := F34, g__law_is_walk := PySem.W.mg_of X G a34, F__law_led_shown := F35, g__law_led_shown := PySem.W.mg_of X G a35, F__law_falls_shown := F36, g__law_falls_shown := PySem.W.mg_of X G a36, F__law_scaled := F37, g__law_scaled := PySem.W.mg_of X G a37, F__law_pair_told := F38, g__law_pair_told := PySem.W.mg_of X G a38, F__law_formed := F39, g__law_formed := PySem.W.mg_of X G a39, F__law_fallen := F40, g__law_fallen := PySem.W.mg_of X G a40, F__law_right := F41, g__law_right := PySem.W.mg_of X G a41, F_law := F42, g_law := PySem.W.mg_of X G a42, g_Pattern := PySem.W.mg_of X G aC_Pattern, cl_Pattern := ⟨pg_Pattern, hd_Pattern, po_Pattern, sa_Pattern⟩, na_Pattern_firsts := na_Pattern_firsts, na_Pattern_period := na_Pattern_period, na_Pattern_gain := na_Pattern_gain, na_Pattern_told := na_Pattern_told, ty_Pattern := ⟨t1_Pattern, t2_Pattern, t3_Pattern, t4_Pattern, if_pos (beq_self_eq_true _)⟩, g_Walker := PySem.W.mg_of X G aC_Walker, cl_Walker := ⟨pg_Walker, hd_Walker, po_Walker, sa_Walker⟩, na_Walker_count := na_Walker_count, na_Walker_begin := na_Walker_begin, na_Walker_table := na_Walker_table, na_Walker_told := na_Walker_told, ty_Walker := ⟨t1_Walker, t2_Walker, t3_Walker, t4_Walker, if_pos (beq_self_eq_true _)⟩, c_MOST_VALUES := ⟨_, PySem.W.mg_of X G z_MOST_VALUES⟩, c_MOST_GIFT := ⟨_, PySem.W.mg_of X G z_MOST_GIFT⟩, c_MOST_SUMMED := ⟨_, PySem.W.mg_of X G z_MOST_SUMMED⟩, c_MOST_AMOUNT := ⟨_, PySem.W.mg_of X G z_MOST_AMOUNT⟩, n_abs := PySem.W.mg_none_of X G n_abs, n_all := PySem.W.mg_none_of X G n_all, n_bool := PySem.W.mg_none_of X G n_bool, n_divmod := PySem.W.mg_none_of X G n_divmod, n_enumerate := PySem.W.mg_none_of X G n_enumerate, n_int := PySem.W.mg_none_of X G n_int, n_isinstance := PySem.W.mg_none_of X G n_isinstance, n_len := PySem.W.mg_none_of X G n_len, n_list := PySem.W.mg_none_of X G n_list, n_max := PySem.W.mg_none_of X G n_max, n_min := PySem.W.mg_none_of X G n_min, n_range := PySem.W.mg_none_of X G n_range, n_str := PySem.W.mg_none_of X G n_str, n_tuple := PySem.W.mg_none_of X G n_tuple }
  exact ⟨_, fun s v => .of_eq rfl, fun base _ _ => ok_law (base := base) T⟩
end My
open PySem PySem.W PyProof.Rows
set_option maxRecDepth 100000 in
set_option maxHeartbeats 0 in
theorem PySem.Challenge.cw_givenonce_k55_whole_certified_led_holds : PySem.Challenge.rw_givenonce_k55_whole_certified_led.Holds := by
  w_on; o_law; k_head; (case hw => w_witness2)
  k_fill
  refine DD.walkG (l := PySem.Challenge.rw_givenonce_k55_whole_certified_led) (n := 63) (k := 11) (x := "script") (CX := fun _ => L2.CX0) (sp := fun w => My.spLaw _) rfl (by decide) rfl ⟨rfl, by decide, by decide⟩ (fun w h Y => PySem.W.kIn_of Y) ?F (fun _ _ a ns hl _ hS => My.law_asks hl hS) (fun _ _ _ _ _ h => h)
  case F =>
    intro w mg fa h KX G hmg
    refine' My.all_mk KX G hmg ?aC_Pattern ?aC_Walker ?a0 ?l0 ?c0 ?k0 ?a1 ?l1 ?c1 ?k1 ?a2 ?l2 ?c2 ?k2 ?a3 ?l3 ?c3 ?k3 ?a4 ?l4 ?c4 ?k4 ?a5 ?l5 ?c5 ?k5 ?a6 ?i6 ?l6 ?c6 ?k6 ?a7 ?i7 ?l7 ?c7 ?k7 ?a8 ?l8 ?c8 ?k8 ?a9 ?l9 ?c9 ?k9 ?a10 ?l10 ?c10 ?k10 ?a11 ?l11 ?c11 ?k11 ?a12 ?l12 ?c12 ?k12 ?a13 ?i13 ?l13 ?c13 ?k13 ?a14 ?l14 ?c14 ?k14 ?a15 ?l15 ?c15 ?k15 ?a16 ?l16 ?c16 ?k16 ?a17 ?l17 ?c17 ?k17 ?a18 ?l18 ?c18 ?k18 ?a19 ?l19 ?c19 ?k19 ?a20 ?l20 ?c20 ?k20 ?a21 ?l21 ?c21 ?k21 ?a22 ?l22 ?c22 ?k22 ?a23 ?l23 ?c23 ?k23 ?a24 ?l24 ?c24 ?k24 ?a25 ?l25 ?c25 ?k25 ?a26 ?l26 ?c26 ?k26 ?a27 ?l27 ?c27 ?k27 ?a28 ?l28 ?c28 ?k28 ?a29 ?l29 ?c29 ?k29 ?a30 ?l30 ?c30 ?k30 ?a31 ?l31 ?c31 ?k31 ?a32 ?l32 ?c32 ?k32 ?a33 ?l33 ?c33 ?k33 ?a34 ?l34 ?c34 ?k34 ?a35 ?l35 ?c35 ?k35 ?a36 ?l36 ?c36 ?k36 ?a37 ?l37 ?c37 ?k37 ?a38 ?l38 ?c38 ?k38 ?a39 ?l39 ?c39 ?k39 ?a40 ?l40 ?c40 ?k40 ?a41 ?l41 ?c41 ?k41 ?a42 ?l42 ?c42 ?k42 ?pg_Pattern ?hd_Pattern ?po_Pattern ?sa_Pattern ?mk_Pattern ?kc_Pattern ?na_Pattern_firsts ?na_Pattern_period ?na_Pattern_gain ?na_Pattern_told ?t1_Pattern ?t2_Pattern ?t3_Pattern ?t4_Pattern ?pg_Walker ?hd_Walker ?po_Walker ?sa_Walker ?mk_Walker ?kc_Walker ?na_Walker_count ?na_Walker_begin ?na_Walker_table ?na_Walker_told ?t1_Walker ?t2_Walker ?t3_Walker ?t4_Walker ?z_MOST_VALUES ?z_MOST_GIFT ?z_MOST_SUMMED ?z_MOST_AMOUNT ?n_abs ?n_all ?n_bool ?n_divmod ?n_enumerate ?n_int ?n_isinstance ?n_len ?n_list ?n_max ?n_min ?n_range ?n_str ?n_tuple
    (case aC_Pattern => k_is)
    (case aC_Walker => k_is)
    (case a0 => k_is)
    (case l0 => k_is)
    (case c0 => k_is)
    (case k0 => k_is)
    (case a1 => k_is)
    (case l1 => k_is)
    (case c1 => k_is)
    (case k1 => k_is)
    (case a2 => k_is)
    (case l2 => k_is)
    (case c2 => k_is)
    (case k2 => k_is)
    (case a3 => k_is)
    (case l3 => k_is)
    (case c3 => k_is)
    (case k3 => k_is)
    (case a4 => k_is)
    (case l4 => k_is)
    (case c4 => k_is)
    (case k4 => k_is)
    (case a5 => k_is)
    (case l5 => k_is)
    (case c5 => k_is)
    (case k5 => k_is)
    (case a6 => k_is)
    (case i6 => k_is)
    (case l6 => k_is)
    (case c6 => k_is)
    (case k6 => k_is)
    (case a7 => k_is)
    (case i7 => k_is)
    (case l7 => k_is)
    (case c7 => k_is)
    (case k7 => k_is)
    (case a8 => k_is)
    (case l8 => k_is)
    (case c8 => k_is)
    (case k8 => k_is)
    (case a9 => k_is)
    (case l9 => k_is)
    (case c9 => k_is)
    (case k9 => k_is)
    (case a10 => k_is)
    (case l10 => k_is)
    (case c10 => k_is)
    (case k10 => k_is)
    (case a11 => k_is)
    (case l11 => k_is)
    (case c11 => k_is)
    (case k11 => k_is)
    (case a12 => k_is)
    (case l12 => k_is)
    (case c12 => k_is)
    (case k12 => k_is)
    (case a13 => k_is)
    (case i13 => k_is)
    (case l13 => k_is)
    (case c13 => k_is)
    (case k13 => k_is)
    (case a14 => k_is)
    (case l14 => k_is)
    (case c14 => k_is)
    (case k14 => k_is)
    (case a15 => k_is)
    (case l15 => k_is)
    (case c15 => k_is)
    (case k15 => k_is)
    (case a16 => k_is)
    (case l16 => k_is)
    (case c16 => k_is)
    (case k16 => k_is)
    (case a17 => k_is)
    (case l17 => k_is)
    (case c17 => k_is)
    (case k17 => k_is)
    (case a18 => k_is)
    (case l18 => k_is)
    (case c18 => k_is)
    (case k18 => k_is)
    (case a19 => k_is)
    (case l19 => k_is)
    (case c19 => k_is)
    (case k19 => k_is)
    (case a20 => k_is)
    (case l20 => k_is)
    (case c20 => k_is)
    (case k20 => k_is)
    (case a21 => k_is)
    (case l21 => k_is)
    (case c21 => k_is)
    (case k21 => k_is)
    (case a22 => k_is)
    (case l22 => k_is)
    (case c22 => k_is)
    (case k22 => k_is)
    (case a23 => k_is)
    (case l23 => k_is)
    (case c23 => k_is)
    (case k23 => k_is)
    (case a24 => k_is)
    (case l24 => k_is)
    (case c24 => k_is)
    (case k24 => k_is)
    (case a25 => k_is)
    (case l25 => k_is)
    (case c25 => k_is)
    (case k25 => k_is)
    (case a26 => k_is)
    (case l26 => k_is)
    (case c26 => k_is)
    (case k26 => k_is)
    (case a27 => k_is)
    (case l27 => k_is)
    (case c27 => k_is)
    (case k27 => k_is)
    (case a28 => k_is)
    (case l28 => k_is)
    (case c28 => k_is)
    (case k28 => k_is)
    (case a29 => k_is)
    (case l29 => k_is)
    (case c29 => k_is)
    (case k29 => k_is)
    (case a30 => k_is)
    (case l30 => k_is)
    (case c30 => k_is)
    (case k30 => k_is)
    (case a31 => k_is)
    (case l31 => k_is)
    (case c31 => k_is)
    (case k31 => k_is)
    (case a32 => k_is)
    (case l32 => k_is)
    (case c32 => k_is)
    (case k32 => k_is)
    (case a33 => k_is)
    (case l33 => k_is)
    (case c33 => k_is)
    (case k33 => k_is)
    (case a34 => k_is)
    (case l34 => k_is)
    (case c34 => k_is)
    (case k34 => k_is)
    (case a35 => k_is)
    (case l35 => k_is)
    (case c35 => k_is)
    (case k35 => k_is)
    (case a36 => k_is)
    (case l36 => k_is)
    (case c36 => k_is)
    (case k36 => k_is)
    (case a37 => k_is)
    (case l37 => k_is)
    (case c37 => k_is)
    (case k37 => k_is)
    (case a38 => k_is)
    (case l38 => k_is)
    (case c38 => k_is)
    (case k38 => k_is)
    (case a39 => k_is)
    (case l39 => k_is)
    (case c39 => k_is)
    (case k39 => k_is)
    (case a40 => k_is)
    (case l40 => k_is)
    (case c40 => k_is)
    (case k40 => k_is)
    (case a41 => k_is)
    (case l41 => k_is)
    (case c41 => k_is)
    (case k41 => k_is)
    (case a42 => k_is)
    (case l42 => k_is)
    (case c42 => k_is)
    (case k42 => k_is)
    (case pg_Pattern => k_is)
    (case hd_Pattern => k_is)
    (case po_Pattern => k_is)
    (case sa_Pattern => k_is)
    (case mk_Pattern => k_is)
    (case kc_Pattern => k_is)
    (case na_Pattern_firsts => k_is)
    (case na_Pattern_period => k_is)
    (case na_Pattern_gain => k_is)
    (case na_Pattern_told => k_is)
    (case t1_Pattern => k_is)
    (case t2_Pattern => k_is)
    (case t3_Pattern => k_is)
    (case t4_Pattern => k_is)
    (case pg_Walker => k_is)
    (case hd_Walker => k_is)
    (case po_Walker => k_is)
    (case sa_Walker => k_is)
    (case mk_Walker => k_is)
    (case kc_Walker => k_is)
    (case na_Walker_count => k_is)
    (case na_Walker_begin => k_is)
    (case na_Walker_table => k_is)
    (case na_Walker_told => k_is)
    (case t1_Walker => k_is)
    (case t2_Walker => k_is)
    (case t3_Walker => k_is)
    (case t4_Walker => k_is)
    (case z_MOST_VALUES => k_is)
    (case z_MOST_GIFT => k_is)
    (case z_MOST_SUMMED => k_is)
    (case z_MOST_AMOUNT => k_is)
    (case n_abs => k_is)
    (case n_all => k_is)
    (case n_bool => k_is)
    (case n_divmod => k_is)
    (case n_enumerate => k_is)
    (case n_int => k_is)
    (case n_isinstance => k_is)
    (case n_len => k_is)
    (case n_list => k_is)
    (case n_max => k_is)
    (case n_min => k_is)
    (case n_range => k_is)
    (case n_str => k_is)
    (case n_tuple => k_is)
