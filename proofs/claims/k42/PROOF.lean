import PyProof.Rows.All
import Wide.All
import OpenK.AllK
import Wide.FinOn
import PySem.Challenge.RW_givenonce_k42_whole_clashes_judged
import PyProof.ReprRoads
import HandS.ForMost
import HandS.IsInst
import HandS.Walk
import HandS.Evl
import HandS.SortInts
import HandS.TupAny
import HandS.TupMul
import HandS.FStr
import HandS.Style
import HandS.Conv
import HandS.Exc
import KE.DatumOrd
import HandS.Dict
import KE.DatumMoreOrd
import HandS.SetFor
import HandS.Strs
import HandS.Deep
set_option Elab.async false
set_option linter.all false
set_option maxRecDepth 100000
set_option maxHeartbeats 4000000
namespace DD
open PySem L2
abbrev Ex := Evl.Ex
/-- deep data -/
inductive DV where
  | non | bl (b : Bool) | int (i : Int) | str (s : Str)
  | tup (xs : List DV) | lst (xs : List DV)
  | ins (C : Addr) (fs : List (Str × DV))
  | rd (xs : List DV)
  | raw (v : V)
  /-- an empty dict that stays -/
  | dic
mutual
inductive Rp (K : PySem.W.Frag) (F : Hp) : V → DV → Prop
  | non : Rp K F .non .non
  | bl (b : Bool) : Rp K F (.bl b) (.bl b)
  | int (i : Int) : Rp K F (.int i) (.int i)
  | str (s : Str) : Rp K F (.str s) (.str s)
  | raw (v : V) : Rp K F v (.raw v)
  | tup {a : Addr} {xs : List V} {ds : List DV} (h : SqT K F a xs) (r : RpA K F xs ds) : Rp K F (.ref a) (.tup ds)
  | lst {a : Addr} {xs : List V} {ds : List DV} (h : F a = some (.lst xs)) (r : RpA K F xs ds) : Rp K F (.ref a) (.lst ds)
  | rd {a : Addr} {xs : List V} {ds : List DV} (h : SqL K F a xs) (r : RpA K F xs ds) : Rp K F (.ref a) (.rd ds)
  | ins {a C dx : Addr} {fs : List (Str × V)} {ds : List (Str × DV)} (h : F a = some (.ins C dx fs)) (r : RpF K F fs ds) : Rp K F (.ref a) (.ins C ds)
  | dic {a : Addr} (h : F a = some (.dK [])) : Rp K F (.ref a) .dic
inductive RpA (K : PySem.W.Frag) (F : Hp) : List V → List DV → Prop
  | nil : RpA K F [] []
  | cons {v : V} {vs : List V} {d : DV} {ds : List DV} (h : Rp K F v d) (t : RpA K F vs ds) : RpA K F (v :: vs) (d :: ds)
inductive RpF (K : PySem.W.Frag) (F : Hp) : List (Str × V) → List (Str × DV) → Prop
  | nil : RpF K F [] []
  | cons {x : Str} {v : V} {vs : List (Str × V)} {d : DV} {ds : List (Str × DV)} (h : Rp K F v d) (t : RpF K F vs ds) : RpF K F ((x, v) :: vs) ((x, d) :: ds)
end
section
variable {K : PySem.W.Frag} {F F' : Hp}
mutual
theorem Rp.mono (e : Ex F F') : ∀ {v : V} {d : DV}, Rp K F v d → Rp K F' v d
  | _, _, .non => .non
  | _, _, .bl b => .bl b
  | _, _, .int i => .int i
  | _, _, .str s => .str s
  | _, _, .raw v => .raw v
  | _, _, .tup h r => .tup (Evl.ex_t e h) (RpA.mono e r)
  | _, _, .lst h r => .lst (e _ _ h) (RpA.mono e r)
  | _, _, .rd h r => .rd (Evl.ex_l e h) (RpA.mono e r)
  | _, _, .ins h r => .ins (e _ _ h) (RpF.mono e r)
  | _, _, .dic h => .dic (e _ _ h)
theorem RpA.mono (e : Ex F F') : ∀ {v : List V} {d : List DV}, RpA K F v d → RpA K F' v d
  | _, _, .nil => .nil
  | _, _, .cons h t => .cons (Rp.mono e h) (RpA.mono e t)
theorem RpF.mono (e : Ex F F') : ∀ {v : List (Str × V)} {d : List (Str × DV)}, RpF K F v d → RpF K F' v d
  | _, _, .nil => .nil
  | _, _, .cons h t => .cons (Rp.mono e h) (RpF.mono e t)
end
theorem RpA.length : ∀ {v : List V} {d : List DV}, RpA K F v d → v.length = d.length
  | _, _, .nil => rfl
  | _, _, .cons _ t => by simp [RpA.length t]
theorem RpA.get : ∀ {v : List V} {d : List DV} {i : Nat} {x : DV}, RpA K F v d → d[i]? = some x → ∃ u, v[i]? = some u ∧ Rp K F u x
  | _, _, _, _, .nil, e => by simp at e
  | _, _, 0, _, .cons h _, e => by simp at e; subst e; exact ⟨_, rfl, h⟩
  | _, _, i + 1, x, .cons _ t, e => by
    obtain ⟨u, h1, h2⟩ := RpA.get (i := i) (x := x) t (by simpa using e)
    exact ⟨u, by simpa using h1, h2⟩
theorem RpA.get' : ∀ {v : List V} {d : List DV} {i : Nat} {u : V}, RpA K F v d → v[i]? = some u → ∃ x, d[i]? = some x ∧ Rp K F u x
  | _, _, _, _, .nil, e => by simp at e
  | _, _, 0, _, .cons h _, e => by simp at e; subst e; exact ⟨_, rfl, h⟩
  | _, _, i + 1, x, .cons _ t, e => by
    obtain ⟨u, h1, h2⟩ := RpA.get' (i := i) (u := x) t (by simpa using e)
    exact ⟨u, by simpa using h1, h2⟩
theorem RpA.append : ∀ {v w : List V} {d e : List DV}, RpA K F v d → RpA K F w e → RpA K F (v ++ w) (d ++ e)
  | _, _, _, _, .nil, s => s
  | _, _, _, _, .cons r t, s => .cons r (RpA.append t s)
theorem RpA.take : ∀ {v : List V} {d : List DV} (n : Nat), RpA K F v d → RpA K F (v.take n) (d.take n)
  | _, _, 0, _ => .nil
  | _, _, _ + 1, .nil => .nil
  | _, _, n + 1, .cons r t => .cons r (RpA.take n t)
theorem RpA.drop : ∀ {v : List V} {d : List DV} (n : Nat), RpA K F v d → RpA K F (v.drop n) (d.drop n)
  | _, _, 0, r => r
  | _, _, _ + 1, .nil => .nil
  | _, _, n + 1, .cons _ t => RpA.drop n t
theorem RpA.set {x : V} {y : DV} (r : Rp K F x y) : ∀ {v : List V} {d : List DV} (i : Nat), RpA K F v d → RpA K F (v.set i x) (d.set i y)
  | _, _, _, .nil => .nil
  | _, _, 0, .cons _ t => .cons r t
  | _, _, i + 1, .cons q t => .cons q (RpA.set r i t)
theorem RpA.eraseIdx : ∀ {v : List V} {d : List DV} (i : Nat), RpA K F v d → RpA K F (v.eraseIdx i) (d.eraseIdx i)
  | _, _, _, .nil => .nil
  | _, _, 0, .cons _ t => t
  | _, _, i + 1, .cons q t => .cons q (RpA.eraseIdx i t)
theorem RpA.snoc {x : V} {y : DV} {v : List V} {d : List DV} (h : RpA K F v d) (r : Rp K F x y) : RpA K F (v ++ [x]) (d ++ [y]) := h.append (.cons r .nil)
theorem RpF.lookup {f : Str} : ∀ {v : List (Str × V)} {d : List (Str × DV)} {x : DV}, RpF K F v d → d.lookup f = some x → ∃ u, v.lookup f = some u ∧ Rp K F u x
  | _, _, _, .nil, e => by simp at e
  | (x, v) :: vs, _ :: ds, y, .cons h t, e => by
    by_cases hx : f == x
    · simp [List.lookup, hx] at e ⊢
      subst e
      exact h
    · simp [List.lookup, hx] at e ⊢
      exact RpF.lookup t e
theorem RpF.lookup_none {f : Str} : ∀ {v : List (Str × V)} {d : List (Str × DV)}, RpF K F v d → d.lookup f = none → v.lookup f = none
  | _, _, .nil, _ => rfl
  | (x, v) :: vs, _ :: ds, .cons h t, e => by
    unfold List.lookup at e ⊢
    cases hx : f == x with
    | true => rw [hx] at e; cases e
    | false =>
      rw [hx] at e
      exact RpF.lookup_none t e
theorem RpF.length : ∀ {v : List (Str × V)} {d : List (Str × DV)}, RpF K F v d → v.length = d.length
  | _, _, .nil => rfl
  | _, _, .cons _ t => by simp [RpF.length t]
def putD (f : Str) (v : DV) : List (Str × DV) → List (Str × DV)
  | [] => [(f, v)]
  | (g, w) :: r => if g = f then (g, v) :: r else (g, w) :: putD f v r
theorem RpA.ints (ns : List Int) : RpA K F (ns.map V.int) (ns.map DV.int) := by
  induction ns with
  | nil => exact .nil
  | cons n r ih => exact .cons (.int n) ih
theorem Rp.int_of {v : V} {i : Int} (h : Rp K F v (.int i)) : v = .int i := by cases h; rfl
theorem Rp.bl_of {v : V} {i : Bool} (h : Rp K F v (.bl i)) : v = .bl i := by cases h; rfl
theorem Rp.str_of {v : V} {i : Str} (h : Rp K F v (.str i)) : v = .str i := by cases h; rfl
theorem Rp.non_of {v : V} (h : Rp K F v .non) : v = .non := by cases h; rfl
theorem Rp.raw_of {v w : V} (h : Rp K F v (.raw w)) : v = w := by cases h; rfl
theorem Rp.tup_of {v : V} {ds : List DV} (h : Rp K F v (.tup ds)) : ∃ a xs, v = .ref a ∧ SqT K F a xs ∧ RpA K F xs ds := by cases h with | tup h r => exact ⟨_, _, rfl, h, r⟩
theorem Rp.lst_of {v : V} {ds : List DV} (h : Rp K F v (.lst ds)) : ∃ a xs, v = .ref a ∧ F a = some (.lst xs) ∧ RpA K F xs ds := by cases h with | lst h r => exact ⟨_, _, rfl, h, r⟩
theorem Rp.rd_of {v : V} {ds : List DV} (h : Rp K F v (.rd ds)) : ∃ a xs, v = .ref a ∧ SqL K F a xs ∧ RpA K F xs ds := by cases h with | rd h r => exact ⟨_, _, rfl, h, r⟩
theorem Rp.ins_of {v : V} {C : Addr} {ds : List (Str × DV)} (h : Rp K F v (.ins C ds)) : ∃ a dx fs, v = .ref a ∧ F a = some (.ins C dx fs) ∧ RpF K F fs ds := by cases h with | ins h r => exact ⟨_, _, _, rfl, h, r⟩
theorem RpA.ints_of : ∀ {vs : List V} {ns : List Int}, RpA K F vs (ns.map DV.int) → vs = ns.map V.int
  | _, [], .nil => rfl
  | _, n :: ns, .cons h t => by rw [h.int_of, RpA.ints_of t]; rfl
theorem RpA.bls_of : ∀ {vs : List V} {ns : List Bool}, RpA K F vs (ns.map DV.bl) → vs = ns.map V.bl
  | _, [], .nil => rfl
  | _, n :: ns, .cons h t => by rw [h.bl_of, RpA.bls_of t]; rfl
theorem RpA.strs_of : ∀ {vs : List V} {ns : List Str}, RpA K F vs (ns.map DV.str) → vs = ns.map V.str
  | _, [], .nil => rfl
  | _, n :: ns, .cons h t => by rw [h.str_of, RpA.strs_of t]; rfl
end
/-- what is said of an owned object -/
inductive MO where
  | lst (ds : List DV)
  | lstP (p : List DV → Prop)
  | ins (C : Addr) (fs : List (Str × DV))
  | dK (kvs : List (Key × DV))
  | dT (kvs : List (List Key × DV))
inductive RpK {κ : Type} (K : PySem.W.Frag) (F : Hp) : List (κ × V) → List (κ × DV) → Prop
  | nil : RpK K F [] []
  | cons {k : κ} {v : V} {vs : List (κ × V)} {d : DV} {ds : List (κ × DV)} (h : Rp K F v d) (t : RpK K F vs ds) : RpK K F ((k, v) :: vs) ((k, d) :: ds)
theorem RpK.mono {κ : Type} {K : PySem.W.Frag} {F F' : Hp} (e : Ex F F') : ∀ {v : List (κ × V)} {d : List (κ × DV)}, RpK K F v d → RpK K F' v d
  | _, _, .nil => .nil
  | _, _, .cons h t => .cons (Rp.mono e h) (RpK.mono e t)
def MO.at (K : PySem.W.Frag) (F H : Hp) (a : Addr) : MO → Prop
  | .lst ds => ∃ vs, H a = some (.lst vs) ∧ RpA K F vs ds
  | .lstP p => ∃ vs ds, H a = some (.lst vs) ∧ RpA K F vs ds ∧ p ds
  | .ins C ds => ∃ dx fs, H a = some (.ins C dx fs) ∧ RpF K F fs ds
  | .dK kvs => ∃ ws, H a = some (.dK ws) ∧ RpK K F ws kvs
  | .dT kvs => ∃ ws, H a = some (.dT ws) ∧ RpK K F ws kvs
theorem MO.at.mono {K : PySem.W.Frag} {F F' H H' : Hp} {a : Addr} {o : MO} (e : Ex F F') (eh : H' a = H a) (h : o.at K F H a) : o.at K F' H' a := by
  cases o with
  | lst ds => obtain ⟨vs, h1, h2⟩ := h; exact ⟨vs, by rw [eh]; exact h1, h2.mono e⟩
  | lstP p => obtain ⟨vs, ds, h1, h2, h3⟩ := h; exact ⟨vs, ds, by rw [eh]; exact h1, h2.mono e, h3⟩
  | ins C ds => obtain ⟨dx, fs, h1, h2⟩ := h; exact ⟨dx, fs, by rw [eh]; exact h1, h2.mono e⟩
  | dK kvs => obtain ⟨ws, h1, h2⟩ := h; exact ⟨ws, by rw [eh]; exact h1, h2.mono e⟩
  | dT kvs => obtain ⟨ws, h1, h2⟩ := h; exact ⟨ws, by rw [eh]; exact h1, h2.mono e⟩
theorem MO.at.ex {K : PySem.W.Frag} {F H : Hp} {a : Addr} {o : MO} (h : o.at K F H a) : ∃ u, H a = some u := by
  cases o with
  | lst ds => obtain ⟨vs, h1, h2⟩ := h; exact ⟨_, h1⟩
  | lstP p => obtain ⟨vs, ds, h1, h2, h3⟩ := h; exact ⟨_, h1⟩
  | ins C ds => obtain ⟨dx, fs, h1, h2⟩ := h; exact ⟨_, h1⟩
  | dK kvs => obtain ⟨ws, h1, h2⟩ := h; exact ⟨_, h1⟩
  | dT kvs => obtain ⟨ws, h1, h2⟩ := h; exact ⟨_, h1⟩
abbrev Ms := List (Addr × MO)
/-- F: what stays as it is; M: what is owned and may change -/
structure Wd (K : PySem.W.Frag) (F : Hp) (M : Ms) (H : Hp) : Prop where
  fr : Ex F H
  ce : ∀ a o, (a, o) ∈ M → F a = none ∧ o.at K F H a
  nd : (M.map (·.1)).Nodup
section
variable {K : PySem.W.Frag} {F F' H H' : Hp} {M : Ms} {p a : Addr} {o : HO} {mo mo' : MO}
theorem Wd.fresh (w : Wd K F M H) (hp : H p = none) : F p = none := Evl.fresh_back w.fr hp
theorem Wd.mne (w : Wd K F M H) (hp : H p = none) {o : MO} (h : (a, o) ∈ M) : a ≠ p := by
  obtain ⟨u, hu⟩ := (w.ce a o h).2.ex
  exact ne_of_none hu hp
theorem ex_new (hp : F p = none) : Ex F (upd F p o) := Evl.Ex.new hp
/-- a new object that stays -/
theorem Wd.new (w : Wd K F M H) (hp : H p = none) (o : HO) : Wd K (upd F p o) M (upd H p o) := by
  refine ⟨fun b u hb => ?_, fun b u hb => ?_, w.nd⟩
  · by_cases e : b = p
    · subst e; rw [upd_same] at hb ⊢; exact hb
    · rw [upd_ne e] at hb ⊢; exact w.fr b u hb
  · have hne := w.mne hp hb
    have := w.ce b u hb
    exact ⟨by rw [upd_ne hne]; exact this.1, this.2.mono (ex_new (w.fresh hp)) (upd_ne hne)⟩
/-- a new object that is owned -/
theorem Wd.cell (w : Wd K F M H) (hp : H p = none) {o : HO} (h : mo.at K F (upd H p o) p) : Wd K F ((p, mo) :: M) (upd H p o) := by
  refine ⟨fun b u hb => ?_, fun b u hb => ?_, ?_⟩
  · have e : b ≠ p := ne_of_none hb (w.fresh hp)
    rw [upd_ne e]; exact w.fr b u hb
  · rcases List.mem_cons.mp hb with e | hb
    · cases e; exact ⟨w.fresh hp, h⟩
    · have hne := w.mne hp hb
      have := w.ce b u hb
      exact ⟨this.1, this.2.mono (Evl.Ex.refl F) (upd_ne hne)⟩
  · refine List.nodup_cons.mpr ⟨fun hm => ?_, w.nd⟩
    obtain ⟨q, hq, e⟩ := List.mem_map.mp hm
    exact w.mne hp (a := q.1) (o := q.2) hq e
theorem mem_set_ne {α : Type} {l : List α} {i : Nat} {x y : α} (h : y ∈ l.set i x) : y = x ∨ ∃ j, j ≠ i ∧ l[j]? = some y := by
  obtain ⟨j, hj⟩ := List.mem_iff_getElem?.mp h
  by_cases e : j = i
  · subst e
    rw [List.getElem?_set] at hj
    split at hj
    · split at hj
      · exact .inl (Option.some.inj hj).symm
      · cases hj
    · rename_i hne; exact absurd rfl hne
  · rw [List.getElem?_set_ne (Ne.symm e)] at hj
    exact .inr ⟨j, e, hj⟩
theorem nodup_ix {α : Type} : ∀ {l : List α} {i j : Nat} {x : α}, l.Nodup → l[i]? = some x → l[j]? = some x → i = j
  | [], _, _, _, _, h, _ => by simp at h
  | a :: l, 0, 0, _, _, _, _ => rfl
  | a :: l, 0, j + 1, x, nd, h1, h2 => by
    simp at h1 h2
    subst h1
    exact absurd (List.mem_of_getElem? h2) (List.nodup_cons.mp nd).1
  | a :: l, i + 1, 0, x, nd, h1, h2 => by
    simp at h1 h2
    subst h2
    exact absurd (List.mem_of_getElem? h1) (List.nodup_cons.mp nd).1
  | a :: l, i + 1, j + 1, x, nd, h1, h2 => by
    simp at h1 h2
    rw [nodup_ix (List.nodup_cons.mp nd).2 h1 h2]
/-- an owned object changes -/
theorem Wd.put (w : Wd K F M H) {i : Nat} (hi : M[i]? = some (a, mo)) {o : HO} (h : mo'.at K F (upd H a o) a) : Wd K F (M.set i (a, mo')) (upd H a o) := by
  have ha := w.ce a mo (List.mem_of_getElem? hi)
  have hlt : i < M.length := (List.getElem?_eq_some_iff.mp hi).1
  refine ⟨fun b u hb => ?_, fun b u hb => ?_, ?_⟩
  · have e : b ≠ a := ne_of_none hb ha.1
    rw [upd_ne e]; exact w.fr b u hb
  · rcases mem_set_ne hb with e | ⟨j, hj, hb⟩
    · cases e; exact ⟨ha.1, h⟩
    · have hne : b ≠ a := by
        intro e
        have h1 : (M.map (·.1))[j]? = some b := by rw [List.getElem?_map, hb]; rfl
        have h2 : (M.map (·.1))[i]? = some b := by rw [List.getElem?_map, hi, e]; rfl
        have hjl : j < (M.map (·.1)).length := (List.getElem?_eq_some_iff.mp h1).1
        have hil : i < (M.map (·.1)).length := (List.getElem?_eq_some_iff.mp h2).1
        exact hj (nodup_ix w.nd h1 h2)
      have := w.ce b u (List.mem_of_getElem? hb)
      exact ⟨this.1, this.2.mono (Evl.Ex.refl F) (upd_ne hne)⟩
  · have e : (M.set i (a, mo')).map (·.1) = M.map (·.1) := by
      rw [List.map_set]
      refine List.ext_getElem? fun j => ?_
      rw [List.getElem?_set]
      split
      · rename_i e; subst e
        rw [if_pos (by rw [List.length_map]; exact hlt), List.getElem?_map, hi]; rfl
      · rfl
    rw [e]; exact w.nd
/-- an owned list of which something is said, opened; and closed -/
theorem Wd.op {p : List DV → Prop} (w : Wd K F M H) {i : Nat} (hi : M[i]? = some (a, .lstP p)) : ∃ ds, p ds ∧ Wd K F (M.set i (a, .lst ds)) H := by
  obtain ⟨hn, vs, ds, hv, hr, hp⟩ := w.ce a _ (List.mem_of_getElem? hi)
  refine ⟨ds, hp, ?_⟩
  have e : upd H a (.lst vs) = H := by funext b; unfold upd; split <;> simp_all
  have := w.put hi (mo' := .lst ds) (o := .lst vs) ⟨vs, upd_same, hr⟩
  rw [e] at this; exact this
theorem Wd.cl {p : List DV → Prop} {ds : List DV} (w : Wd K F M H) {i : Nat} (hi : M[i]? = some (a, .lst ds)) (hp : p ds) : Wd K F (M.set i (a, .lstP p)) H := by
  obtain ⟨hn, vs, hv, hr⟩ := w.ce a _ (List.mem_of_getElem? hi)
  have e : upd H a (.lst vs) = H := by funext b; unfold upd; split <;> simp_all
  have := w.put hi (mo' := .lstP p) (o := .lst vs) ⟨vs, ds, upd_same, hr, hp⟩
  rw [e] at this; exact this
theorem Wd.drop {c : Addr × MO} (w : Wd K F (c :: M) H) : Wd K F M H :=
  ⟨w.fr, fun a o h => w.ce a o (List.mem_cons_of_mem _ h), (List.nodup_cons.mp w.nd).2⟩
theorem Wd.dropN {N : Ms} (w : Wd K F (N ++ M) H) : Wd K F M H := by
  induction N with
  | nil => exact w
  | cons c N ih => exact ih w.drop
/-- an owned list stays from now on -/
theorem Wd.freeze {ds : List DV} (w : Wd K F ((a, .lst ds) :: M) H) : ∃ F', Ex F F' ∧ Wd K F' M H ∧ Rp K F' (.ref a) (.lst ds) := by
  obtain ⟨hn, vs, hv, hr⟩ := w.ce a _ List.mem_cons_self
  have e := ex_new (o := .lst vs) hn
  refine ⟨upd F a (.lst vs), e, ⟨fun b u hb => ?_, fun b u hb => ?_, (List.nodup_cons.mp w.nd).2⟩, .lst upd_same (hr.mono e)⟩
  · by_cases eb : b = a
    · subst eb; rw [upd_same] at hb; cases hb; exact hv
    · rw [upd_ne eb] at hb; exact w.fr b u hb
  · have hne : b ≠ a := fun z => (List.nodup_cons.mp w.nd).1 (List.mem_map.mpr ⟨(b, u), hb, z⟩)
    have := w.ce b u (List.mem_cons_of_mem _ hb)
    exact ⟨by rw [upd_ne hne]; exact this.1, this.2.mono e rfl⟩
theorem Wd.perm {M' : Ms} (w : Wd K F M H) (h : M'.Perm M) : Wd K F M' H :=
  ⟨w.fr, fun a o hm => w.ce a o (h.mem_iff.mp hm), (h.map _).nodup_iff.mpr w.nd⟩
end
/-- the slots -/
inductive EnvD (K : PySem.W.Frag) (F : Hp) : St → List (Option DV) → Prop
  | nil : EnvD K F [] []
  | sm {v : V} {d : DV} {σ : St} {ρ : List (Option DV)} (h : Rp K F v d) (t : EnvD K F σ ρ) : EnvD K F (some v :: σ) (some d :: ρ)
  | no {x : Option V} {σ : St} {ρ : List (Option DV)} (t : EnvD K F σ ρ) : EnvD K F (x :: σ) (none :: ρ)
section
variable {K : PySem.W.Frag} {F F' : Hp}
theorem EnvD.mono (e : Ex F F') : ∀ {σ : St} {ρ : List (Option DV)}, EnvD K F σ ρ → EnvD K F' σ ρ
  | _, _, .nil => .nil
  | _, _, .sm h t => .sm (h.mono e) (EnvD.mono e t)
  | _, _, .no t => .no (EnvD.mono e t)
theorem EnvD.get : ∀ {σ : St} {ρ : List (Option DV)} {i : Nat} {d : DV}, EnvD K F σ ρ → ρ[i]? = some (some d) → ∃ v, σ[i]? = some (some v) ∧ Rp K F v d
  | _, _, _, _, .nil, e => by simp at e
  | _, _, 0, _, .sm h _, e => by simp at e; subst e; exact ⟨_, rfl, h⟩
  | _, _, 0, _, .no _, e => by simp at e
  | _, _, i + 1, _, .sm _ t, e => by
    obtain ⟨u, h1, h2⟩ := EnvD.get (i := i) t (by simpa using e)
    exact ⟨u, by simpa using h1, h2⟩
  | _, _, i + 1, _, .no t, e => by
    obtain ⟨u, h1, h2⟩ := EnvD.get (i := i) t (by simpa using e)
    exact ⟨u, by simpa using h1, h2⟩
theorem EnvD.set {v : V} {d : DV} (r : Rp K F v d) : ∀ {σ : St} {ρ : List (Option DV)} (i : Nat), EnvD K F σ ρ → EnvD K F (σ.set i (some v)) (ρ.set i (some d))
  | _, _, _, .nil => .nil
  | _, _, 0, .sm _ t => .sm r t
  | _, _, 0, .no t => .sm r t
  | _, _, i + 1, .sm h t => .sm h (EnvD.set r i t)
  | _, _, i + 1, .no t => .no (EnvD.set r i t)
theorem EnvD.unset : ∀ {σ : St} {ρ : List (Option DV)} (i : Nat), EnvD K F σ ρ → EnvD K F (σ.set i Option.none) (ρ.set i Option.none)
  | _, _, _, .nil => .nil
  | _, _, 0, .sm _ t => .no t
  | _, _, 0, .no t => .no t
  | _, _, i + 1, .sm h t => .sm h (EnvD.unset i t)
  | _, _, i + 1, .no t => .no (EnvD.unset i t)
def wipeD (ρ : List (Option DV)) : List Nat → List (Option DV)
  | [] => ρ
  | v :: vs => (wipeD ρ vs).set v Option.none
theorem EnvD.wipe {σ : St} {ρ : List (Option DV)} (h : EnvD K F σ ρ) : ∀ vs : List Nat, EnvD K F (wipe σ vs) (wipeD ρ vs)
  | [] => h
  | v :: vs => EnvD.unset v (EnvD.wipe h vs)
theorem EnvD.start : ∀ {vs : List V} {ds : List DV} (h : RpA K F vs ds) (n : Nat), EnvD K F (vs.map Option.some ++ List.replicate n Option.none) (ds.map Option.some ++ List.replicate n Option.none)
  | _, _, .nil, 0 => .nil
  | _, _, .nil, n + 1 => .no (EnvD.start .nil n)
  | _, _, .cons h t, n => .sm h (EnvD.start t n)
end
structure Sn (K : PySem.W.Frag) (F : Hp) (M : Ms) (ρ : List (Option DV)) (σ : St) (H : Hp) : Prop where
  w : Wd K F M H
  e : EnvD K F σ ρ
end DD

set_option Elab.async false
set_option linter.all false
set_option maxRecDepth 100000
set_option maxHeartbeats 4000000
namespace DD
open PySem L2
abbrev Rho := List (Option DV)
section
variable (K : PySem.W.Frag)
/-- te comes to some d, leaving M', of which R holds -/
def EvR (te : TE) (ρ : Rho) (M : Ms) (R : DV → Ms → Prop) : Prop := ∀ (N : Ms) (F : Hp) (σ : St) (H : Hp), Sn K F (N ++ M) ρ σ H → ∀ Q : VK, (∀ v d M' F' H', Ex F F' → R d M' → Wd K F' (N ++ M') H' → Rp K F' v d → Q v H') → te σ H Q
def Ev (te : TE) (ρ : Rho) (M : Ms) (d : DV) : Prop := EvR K te ρ M fun d' M' => d' = d ∧ M' = M
def EvTR (tt : TT) (ρ : Rho) (M : Ms) (R : Bool → Ms → Prop) : Prop := ∀ (N : Ms) (F : Hp) (σ : St) (H : Hp), Sn K F (N ++ M) ρ σ H → ∀ Q : Bool → Hp → Prop, (∀ b M' F' H', Ex F F' → R b M' → Wd K F' (N ++ M') H' → Q b H') → tt σ H Q
def EvT (tt : TT) (ρ : Rho) (M : Ms) (b : Bool) : Prop := EvTR K tt ρ M fun b' M' => b' = b ∧ M' = M
def EvAR (ta : TA) (ρ : Rho) (M : Ms) (R : List DV → Ms → Prop) : Prop := ∀ (N : Ms) (F : Hp) (σ : St) (H : Hp), Sn K F (N ++ M) ρ σ H → ∀ Q : List V → Hp → Prop, (∀ vs ds M' F' H', Ex F F' → R ds M' → Wd K F' (N ++ M') H' → RpA K F' vs ds → Q vs H') → ta σ H Q
def EvA (ta : TA) (ρ : Rho) (M : Ms) (ds : List DV) : Prop := EvAR K ta ρ M fun d' M' => d' = ds ∧ M' = M
/-- a two-place operation on values -/
def RVR (r : R2) (x y : DV) (M : Ms) (R : DV → Ms → Prop) : Prop := ∀ (N : Ms) (F : Hp) (u v : V) (H : Hp), Wd K F (N ++ M) H → Rp K F u x → Rp K F v y → ∀ Q : VK, (∀ v d M' F' H', Ex F F' → R d M' → Wd K F' (N ++ M') H' → Rp K F' v d → Q v H') → r u v H Q
def RV (r : R2) (x y : DV) (M : Ms) (z : DV) : Prop := RVR K r x y M fun d' M' => d' = z ∧ M' = M
def RUR (r : V → Hp → VK → Prop) (x : DV) (M : Ms) (R : DV → Ms → Prop) : Prop := ∀ (N : Ms) (F : Hp) (u : V) (H : Hp), Wd K F (N ++ M) H → Rp K F u x → ∀ Q : VK, (∀ v d M' F' H', Ex F F' → R d M' → Wd K F' (N ++ M') H' → Rp K F' v d → Q v H') → r u H Q
def RU (r : V → Hp → VK → Prop) (x : DV) (M : Ms) (z : DV) : Prop := RUR K r x M fun d' M' => d' = z ∧ M' = M
/-- a call on values -/
def RCR (r : List V → Hp → VK → Prop) (xs : List DV) (M : Ms) (R : DV → Ms → Prop) : Prop := ∀ (N : Ms) (F : Hp) (us : List V) (H : Hp), Wd K F (N ++ M) H → RpA K F us xs → ∀ Q : VK, (∀ v d M' F' H', Ex F F' → R d M' → Wd K F' (N ++ M') H' → Rp K F' v d → Q v H') → r us H Q
def RC (r : List V → Hp → VK → Prop) (xs : List DV) (M : Ms) (z : DV) : Prop := RCR K r xs M fun d' M' => d' = z ∧ M' = M
/-- a method of a built-in type on values -/
def RMR (r : V → List V → Hp → VK → Prop) (x : DV) (xs : List DV) (M : Ms) (R : DV → Ms → Prop) : Prop := ∀ (N : Ms) (F : Hp) (u : V) (us : List V) (H : Hp), Wd K F (N ++ M) H → Rp K F u x → RpA K F us xs → ∀ Q : VK, (∀ v d M' F' H', Ex F F' → R d M' → Wd K F' (N ++ M') H' → Rp K F' v d → Q v H') → r u us H Q
end
section
variable {K : PySem.W.Frag} {ρ : Rho} {M M' : Ms} {ta tb tc te : TE} {t u : TT} {x y z d : DV} {r : R2} {R R' : DV → Ms → Prop}
theorem Ev.go (h : Ev K te ρ M d) (hr : R d M) : EvR K te ρ M R := fun N F σ H S Q q => h N F σ H S Q fun v d' M' F' H' e ⟨h1, h2⟩ w r => by
  subst h1 h2; exact q v _ _ F' H' e hr w r
theorem EvR.mono (h : EvR K te ρ M R) (k : ∀ d M', R d M' → R' d M') : EvR K te ρ M R' := fun N F σ H S Q q => h N F σ H S Q fun v d' M' F' H' e hr w r => q v d' M' F' H' e (k _ _ hr) w r
theorem EvT.go {b : Bool} {RB : Bool → Ms → Prop} (h : EvT K t ρ M b) (hr : RB b M) : EvTR K t ρ M RB := fun N F σ H S Q q => h N F σ H S Q fun d' M' F' H' e ⟨h1, h2⟩ w => by
  subst h1 h2; exact q _ _ F' H' e hr w
theorem EvA.go {ta : TA} {ds : List DV} {RA : List DV → Ms → Prop} (h : EvA K ta ρ M ds) (hr : RA ds M) : EvAR K ta ρ M RA := fun N F σ H S Q q => h N F σ H S Q fun v d' M' F' H' e ⟨h1, h2⟩ w r => by
  subst h1 h2; exact q v _ _ F' H' e hr w r
theorem RV.go (h : RV K r x y M z) (hr : R z M) : RVR K r x y M R := fun N F u v H w0 k1 k2 Q q => h N F u v H w0 k1 k2 Q fun v d' M' F' H' e ⟨h1, h2⟩ w r => by
  subst h1 h2; exact q v _ _ F' H' e hr w r
theorem RC.go {r : List V → Hp → VK → Prop} {xs : List DV} (h : RC K r xs M z) (hr : R z M) : RCR K r xs M R := fun N F u H w0 k1 Q q => h N F u H w0 k1 Q fun v d' M' F' H' e ⟨h1, h2⟩ w r => by
  subst h1 h2; exact q v _ _ F' H' e hr w r
theorem Ev.is (h : Ev K te ρ M d) {d' : DV} (e : d = d') : Ev K te ρ M d' := e ▸ h
theorem EvT.is {b b' : Bool} (h : EvT K t ρ M b) (e : b = b') : EvT K t ρ M b' := e ▸ h
/-! ### leaves -/
theorem ev_var {i : Nat} (h : ρ[i]? = some (some d)) : Ev K (tVar i) ρ M d := fun N F σ H S Q q => by
  obtain ⟨v, h1, h2⟩ := S.e.get h
  exact ⟨v, h1, q v d M F H (Evl.Ex.refl F) ⟨rfl, rfl⟩ S.w h2⟩
theorem ev_cI {i : Int} : Ev K (tC (.int i)) ρ M (.int i) := fun N F σ H S Q q => q _ _ M F H (Evl.Ex.refl F) ⟨rfl, rfl⟩ S.w (.int i)
theorem ev_cB {i : Bool} : Ev K (tC (.bl i)) ρ M (.bl i) := fun N F σ H S Q q => q _ _ M F H (Evl.Ex.refl F) ⟨rfl, rfl⟩ S.w (.bl i)
theorem ev_cN : Ev K (tC .non) ρ M .non := fun N F σ H S Q q => q _ _ M F H (Evl.Ex.refl F) ⟨rfl, rfl⟩ S.w .non
theorem ev_cS {i : Str} : Ev K (tC (.str i)) ρ M (.str i) := fun N F σ H S Q q => q _ _ M F H (Evl.Ex.refl F) ⟨rfl, rfl⟩ S.w (.str i)
theorem ev_cT {n : String} : Ev K (tC (.ty n)) ρ M (.raw (.ty n)) := fun N F σ H S Q q => q _ _ M F H (Evl.Ex.refl F) ⟨rfl, rfl⟩ S.w (.raw _)
theorem ev_cR {a : Addr} : Ev K (tC (.ref a)) ρ M (.raw (.ref a)) := fun N F σ H S Q q => q _ _ M F H (Evl.Ex.refl F) ⟨rfl, rfl⟩ S.w (.raw _)
/-! ### arguments -/
theorem ea_nil : EvA K tNil ρ M [] := fun N F σ H S Q q => q [] [] M F H (Evl.Ex.refl F) ⟨rfl, rfl⟩ S.w .nil
theorem ear_nil {RA : List DV → Ms → Prop} (h : RA [] M) : EvAR K tNil ρ M RA := ea_nil.go h
theorem ear_cons {tr : TA} {RA : List DV → Ms → Prop} (h : EvR K te ρ M fun d M1 => EvAR K tr ρ M1 fun ds M2 => RA (d :: ds) M2) : EvAR K (tCons te tr) ρ M RA := fun N F σ H S Q q =>
  h N F σ H S _ fun v d M1 F1 H1 e1 h1 w1 r1 => h1 N F1 σ H1 ⟨w1, S.e.mono e1⟩ _ fun vs ds M2 F2 H2 e2 h2 w2 r2 => q _ _ M2 F2 H2 (e1.trans e2) h2 w2 (.cons (r1.mono e2) r2)
theorem ea_cons {tr : TA} {ds : List DV} (h : Ev K te ρ M d) (hr : EvA K tr ρ M ds) : EvA K (tCons te tr) ρ M (d :: ds) :=
  ear_cons (h.go (hr.go ⟨rfl, rfl⟩))
/-! ### displays -/
theorem evr_tup {ta : TA} (h : EvAR K ta ρ M fun ds M1 => ds.length ≤ 100000 ∧ R (.tup ds) M1) : EvR K (tTup ta) ρ M R := fun N F σ H S Q q =>
  h N F σ H S _ fun vs ds M1 F1 H1 e1 h1 w1 r1 => ⟨by rw [r1.length]; exact Evl.sz_of h1.1, fun p hp =>
    have hn := w1.fresh hp
    q _ _ M1 _ _ (e1.trans (ex_new hn)) h1.2 (w1.new hp _) (.tup (SqT.of upd_same) (r1.mono (ex_new hn)))⟩
theorem ev_tup {ta : TA} {ds : List DV} (h : EvA K ta ρ M ds) (hl : ds.length ≤ 100000 := by first | (simp; done) | decide | omega) : Ev K (tTup ta) ρ M (.tup ds) := evr_tup (h.go ⟨hl, rfl, rfl⟩)
theorem evr_lst {ta : TA} (h : EvAR K ta ρ M fun ds M1 => ds.length ≤ 100000 ∧ R (.lst ds) M1) : EvR K (tLst ta) ρ M R := fun N F σ H S Q q =>
  h N F σ H S _ fun vs ds M1 F1 H1 e1 h1 w1 r1 => ⟨by rw [r1.length]; exact Evl.sz_of h1.1, fun p hp =>
    have hn := w1.fresh hp
    q _ _ M1 _ _ (e1.trans (ex_new hn)) h1.2 (w1.new hp _) (.lst upd_same (r1.mono (ex_new hn)))⟩
theorem ev_lst {ta : TA} {ds : List DV} (h : EvA K ta ρ M ds) (hl : ds.length ≤ 100000 := by first | (simp; done) | decide | omega) : Ev K (tLst ta) ρ M (.lst ds) := evr_lst (h.go ⟨hl, rfl, rfl⟩)
/-- a new list that is owned -/
theorem evr_lstC {ta : TA} (h : EvAR K ta ρ M fun ds M1 => ds.length ≤ 100000 ∧ ∀ p, R (.raw (.ref p)) ((p, .lst ds) :: M1)) : EvR K (tLst ta) ρ M R := fun N F σ H S Q q =>
  h N F σ H S _ fun vs ds M1 F1 H1 e1 h1 w1 r1 => ⟨by rw [r1.length]; exact Evl.sz_of h1.1, fun p hp =>
    q _ _ ((p, .lst ds) :: M1) F1 _ e1 (h1.2 p) ((w1.cell (mo := .lst ds) hp ⟨vs, upd_same, r1⟩).perm List.perm_middle) (.raw _)⟩
/-! ### operators -/
theorem evr_op (h : EvR K ta ρ M fun x M1 => EvR K tb ρ M1 fun y M2 => RVR K r x y M2 R) : EvR K (tOp r ta tb) ρ M R := fun N F σ H S Q q =>
  h N F σ H S _ fun u x M1 F1 H1 e1 h1 w1 r1 => h1 N F1 σ H1 ⟨w1, S.e.mono e1⟩ _ fun v y M2 F2 H2 e2 h2 w2 r2 =>
    h2 N F2 u v H2 w2 (r1.mono e2) r2 Q fun a b M3 F3 H3 e3 h3 w3 r3 => q a b M3 F3 H3 ((e1.trans e2).trans e3) h3 w3 r3
theorem ev_op (ha : Ev K ta ρ M x) (hb : Ev K tb ρ M y) (hr : RV K r x y M z) : Ev K (tOp r ta tb) ρ M z := evr_op (ha.go (hb.go (hr.go ⟨rfl, rfl⟩)))
theorem evr_un {r : V → Hp → VK → Prop} (h : EvR K ta ρ M fun x M1 => RUR K r x M1 R) : EvR K (tUn r ta) ρ M R := fun N F σ H S Q q =>
  h N F σ H S _ fun u x M1 F1 H1 e1 h1 w1 r1 => h1 N F1 u H1 w1 r1 Q fun a b M3 F3 H3 e3 h3 w3 r3 => q a b M3 F3 H3 (e1.trans e3) h3 w3 r3
theorem ev_un {r : V → Hp → VK → Prop} (ha : Ev K ta ρ M x) (hr : RU K r x M z) : Ev K (tUn r ta) ρ M z := evr_un (ha.go hr)
theorem evr_cb {ta : TA} {r : List V → Hp → VK → Prop} (h : EvAR K ta ρ M fun xs M1 => RCR K r xs M1 R) : EvR K (tCB r ta) ρ M R := fun N F σ H S Q q =>
  h N F σ H S _ fun u x M1 F1 H1 e1 h1 w1 r1 => h1 N F1 u H1 w1 r1 Q fun a b M3 F3 H3 e3 h3 w3 r3 => q a b M3 F3 H3 (e1.trans e3) h3 w3 r3
theorem ev_cb {ta : TA} {xs : List DV} {r : List V → Hp → VK → Prop} (h : EvA K ta ρ M xs) (hr : RC K r xs M z) : Ev K (tCB r ta) ρ M z := evr_cb (h.go hr)
/-- either of two readings -/
def tOr2 (a b : TE) : TE := fun σ H Q => a σ H Q ∨ b σ H Q
theorem evr_inl (h : EvR K ta ρ M R) : EvR K (tOr2 ta tb) ρ M R := fun N F σ H S Q q => .inl (h N F σ H S Q q)
theorem evr_inr (h : EvR K tb ρ M R) : EvR K (tOr2 ta tb) ρ M R := fun N F σ H S Q q => .inr (h N F σ H S Q q)
theorem ev_inl (h : Ev K ta ρ M d) : Ev K (tOr2 ta tb) ρ M d := evr_inl h
theorem ev_inr (h : Ev K tb ρ M d) : Ev K (tOr2 ta tb) ρ M d := evr_inr h
theorem rvr_inl {r r' : R2} (h : RVR K r x y M R) : RVR K (fun a b H Q => r a b H Q ∨ r' a b H Q) x y M R := fun N F u v H w h1 h2 Q q => .inl (h N F u v H w h1 h2 Q q)
theorem rvr_inr {r r' : R2} (h : RVR K r' x y M R) : RVR K (fun a b H Q => r a b H Q ∨ r' a b H Q) x y M R := fun N F u v H w h1 h2 Q q => .inr (h N F u v H w h1 h2 Q q)
/-! ### tests -/
theorem etr_test {RB : Bool → Ms → Prop} (h : EvR K te ρ M fun d M1 => ∃ b, d = .bl b ∧ RB b M1) : EvTR K (tTest te) ρ M RB := fun N F σ H S Q q =>
  h N F σ H S _ fun v d M1 F1 H1 e1 ⟨b, hd, hb⟩ w1 r1 => by subst hd; exact ⟨b, r1.bl_of, q b M1 F1 H1 e1 hb w1⟩
theorem et_test {b : Bool} (h : Ev K te ρ M (.bl b)) : EvT K (tTest te) ρ M b := etr_test (h.go ⟨b, rfl, rfl, rfl⟩)
theorem etr_B {RB : Bool → Ms → Prop} (h : EvR K te ρ M fun d M1 => ∃ b, d = .bl b ∧ RB b M1) : EvTR K (tB te) ρ M RB := fun N F σ H S Q q =>
  h N F σ H S _ fun v d M1 F1 H1 e1 ⟨b, hd, hb⟩ w1 r1 => by subst hd; exact ⟨b, r1.bl_of, q b M1 F1 H1 e1 hb w1⟩
theorem et_B {b : Bool} (h : Ev K te ρ M (.bl b)) : EvT K (tB te) ρ M b := etr_B (h.go ⟨b, rfl, rfl, rfl⟩)
theorem etr_and {RB : Bool → Ms → Prop} (h : EvTR K t ρ M fun c M1 => if c = true then EvTR K u ρ M1 RB else RB false M1) : EvTR K (tAnd t u) ρ M RB := fun N F σ H S Q q =>
  h N F σ H S _ fun c M1 F1 H1 e1 h1 w1 => by
    cases c with
    | true => exact (show EvTR K u ρ M1 RB from h1) N F1 σ H1 ⟨w1, S.e.mono e1⟩ Q fun b M2 F2 H2 e2 h2 w2 => q b M2 F2 H2 (e1.trans e2) h2 w2
    | false => exact q false M1 F1 H1 e1 h1 w1
theorem et_and {a b : Bool} (h1 : EvT K t ρ M a) (h2 : a = true → EvT K u ρ M b) : EvT K (tAnd t u) ρ M (a && b) := etr_and (h1.go (by
  cases a with
  | true => exact h2 rfl
  | false => exact ⟨rfl, rfl⟩))
theorem etr_or {RB : Bool → Ms → Prop} (h : EvTR K t ρ M fun c M1 => if c = true then RB true M1 else EvTR K u ρ M1 RB) : EvTR K (tOr t u) ρ M RB := fun N F σ H S Q q =>
  h N F σ H S _ fun c M1 F1 H1 e1 h1 w1 => by
    cases c with
    | true => exact q true M1 F1 H1 e1 h1 w1
    | false => exact (show EvTR K u ρ M1 RB from h1) N F1 σ H1 ⟨w1, S.e.mono e1⟩ Q fun b M2 F2 H2 e2 h2 w2 => q b M2 F2 H2 (e1.trans e2) h2 w2
theorem et_or {a b : Bool} (h1 : EvT K t ρ M a) (h2 : a = false → EvT K u ρ M b) : EvT K (tOr t u) ρ M (a || b) := etr_or (h1.go (by
  cases a with
  | true => exact ⟨rfl, rfl⟩
  | false => exact h2 rfl))
theorem etr_not {RB : Bool → Ms → Prop} (h : EvTR K t ρ M fun c M1 => RB (!c) M1) : EvTR K (tNot t) ρ M RB := fun N F σ H S Q q =>
  h N F σ H S _ fun c M1 F1 H1 e1 h1 w1 => q _ M1 F1 H1 e1 h1 w1
theorem et_not {a : Bool} (h1 : EvT K t ρ M a) : EvT K (tNot t) ρ M (!a) := etr_not (h1.go ⟨rfl, rfl⟩)
theorem evr_if (h : EvTR K t ρ M fun c M1 => if c = true then EvR K ta ρ M1 R else EvR K tb ρ M1 R) : EvR K (tIf t ta tb) ρ M R := fun N F σ H S Q q =>
  h N F σ H S _ fun c M1 F1 H1 e1 h1 w1 => by
    cases c with
    | true => exact (show EvR K ta ρ M1 R from h1) N F1 σ H1 ⟨w1, S.e.mono e1⟩ Q fun v b M2 F2 H2 e2 h2 w2 r2 => q v b M2 F2 H2 (e1.trans e2) h2 w2 r2
    | false => exact (show EvR K tb ρ M1 R from h1) N F1 σ H1 ⟨w1, S.e.mono e1⟩ Q fun v b M2 F2 H2 e2 h2 w2 r2 => q v b M2 F2 H2 (e1.trans e2) h2 w2 r2
theorem ev_if {b : Bool} (h : EvT K t ρ M b) (h1 : b = true → Ev K ta ρ M x) (h2 : b = false → Ev K tb ρ M y) : Ev K (tIf t ta tb) ρ M (if b = true then x else y) := evr_if (h.go (by
  cases b with
  | true => exact h1 rfl
  | false => exact h2 rfl))
theorem evr_andV (h : EvR K ta ρ M fun x M1 => ∃ c, x = .bl c ∧ if c = true then EvR K tb ρ M1 R else R (.bl false) M1) : EvR K (tAndV ta tb) ρ M R := fun N F σ H S Q q =>
  h N F σ H S _ fun v d M1 F1 H1 e1 ⟨c, hd, h1⟩ w1 r1 => by
    subst hd
    refine ⟨c, r1.bl_of, ?_⟩
    cases c with
    | true => exact (show EvR K tb ρ M1 R from h1) N F1 σ H1 ⟨w1, S.e.mono e1⟩ Q fun v b M2 F2 H2 e2 h2 w2 r2 => q v b M2 F2 H2 (e1.trans e2) h2 w2 r2
    | false => exact q _ _ M1 F1 H1 e1 h1 w1 (.bl false)
theorem ev_andV {a b : Bool} (h1 : Ev K ta ρ M (.bl a)) (h2 : a = true → Ev K tb ρ M (.bl b)) : Ev K (tAndV ta tb) ρ M (.bl (a && b)) := evr_andV (h1.go ⟨a, rfl, by
  cases a with
  | true => exact h2 rfl
  | false => exact ⟨rfl, rfl⟩⟩)
theorem evr_orV (h : EvR K ta ρ M fun x M1 => ∃ c, x = .bl c ∧ if c = true then R (.bl true) M1 else EvR K tb ρ M1 R) : EvR K (tOrV ta tb) ρ M R := fun N F σ H S Q q =>
  h N F σ H S _ fun v d M1 F1 H1 e1 ⟨c, hd, h1⟩ w1 r1 => by
    subst hd
    refine ⟨c, r1.bl_of, ?_⟩
    cases c with
    | true => exact q _ _ M1 F1 H1 e1 h1 w1 (.bl true)
    | false => exact (show EvR K tb ρ M1 R from h1) N F1 σ H1 ⟨w1, S.e.mono e1⟩ Q fun v b M2 F2 H2 e2 h2 w2 r2 => q v b M2 F2 H2 (e1.trans e2) h2 w2 r2
theorem ev_orV {a b : Bool} (h1 : Ev K ta ρ M (.bl a)) (h2 : a = false → Ev K tb ρ M (.bl b)) : Ev K (tOrV ta tb) ρ M (.bl (a || b)) := evr_orV (h1.go ⟨a, rfl, by
  cases a with
  | true => exact ⟨rfl, rfl⟩
  | false => exact h2 rfl⟩)
theorem evr_notV (h : EvR K ta ρ M fun x M1 => ∃ c, x = .bl c ∧ R (.bl (!c)) M1) : EvR K (tNotV ta) ρ M R := fun N F σ H S Q q =>
  h N F σ H S _ fun v d M1 F1 H1 e1 ⟨c, hd, h1⟩ w1 r1 => by
    subst hd
    exact ⟨c, r1.bl_of, q _ _ M1 F1 H1 e1 h1 w1 (.bl _)⟩
theorem ev_notV {a : Bool} (h1 : Ev K ta ρ M (.bl a)) : Ev K (tNotV ta) ρ M (.bl (!a)) := evr_notV (h1.go ⟨a, rfl, rfl, rfl⟩)
/-- x op y op' z -/
theorem evr_chain {r r' : R2} (h : EvR K ta ρ M fun x M1 => EvR K tb ρ M1 fun y M2 => RVR K r x y M2 fun z M3 => ∃ k, z = .bl k ∧ if k = true then EvR K tc ρ M3 fun w M4 => RVR K r' y w M4 R else R (.bl false) M3) :
    EvR K (tChain r r' ta tb tc) ρ M R := fun N F σ H S Q q =>
  h N F σ H S _ fun u x M1 F1 H1 e1 h1 w1 r1 => h1 N F1 σ H1 ⟨w1, S.e.mono e1⟩ _ fun v y M2 F2 H2 e2 h2 w2 r2 =>
    h2 N F2 u v H2 w2 (r1.mono e2) r2 _ fun z d M3 F3 H3 e3 ⟨k, hd, h3⟩ w3 r3 => by
      subst hd
      refine ⟨k, r3.bl_of, ?_⟩
      have e13 := (e1.trans e2).trans e3
      cases k with
      | false => exact q _ _ M3 F3 H3 e13 h3 w3 (.bl false)
      | true => exact (show EvR K tc ρ M3 fun w M4 => RVR K r' y w M4 R from h3) N F3 σ H3 ⟨w3, S.e.mono e13⟩ _ fun z' d4 M4 F4 H4 e4 h4 w4 r4 => h4 N F4 v z' H4 w4 ((r2.mono e3).mono e4) r4 Q fun a b M5 F5 H5 e5 h5 w5 r5 => q a b M5 F5 H5 ((e13.trans e4).trans e5) h5 w5 r5
theorem ev_chain {r r' : R2} {k : Bool} {w : DV} {k' : Bool} (ha : Ev K ta ρ M x) (hb : Ev K tb ρ M y) (hr : RV K r x y M (.bl k)) (hc : k = true → Ev K tc ρ M w) (hr' : k = true → RV K r' y w M (.bl k')) : Ev K (tChain r r' ta tb tc) ρ M (.bl (k && k')) :=
  evr_chain (ha.go (hb.go (hr.go ⟨k, rfl, by
    cases k with
    | true => exact (hc rfl).go (hr' rfl)
    | false => exact ⟨rfl, rfl⟩⟩)))
/-! ### the attributes -/
theorem evr_fld {f : Str} (h : EvR K ta ρ M fun x M1 => ∃ C fs d, x = .ins C fs ∧ Cls K C ∧ NoAttr K C f ∧ fs.lookup f = some d ∧ R d M1) : EvR K (tFld K ta f) ρ M R := fun N F σ H S Q q =>
  h N F σ H S _ fun v x M1 F1 H1 e1 ⟨C, fs, d, hx, c, n, l, hr⟩ w1 r1 => by
    subst hx
    obtain ⟨a, dx, gs, rfl, ha, hf⟩ := r1.ins_of
    obtain ⟨u, hu, ru⟩ := hf.lookup l
    exact ⟨a, C, dx, gs, u, rfl, w1.fr _ _ ha, c, n, hu, q u d M1 F1 H1 e1 hr w1 ru⟩
theorem ev_fld {f : Str} {C : Addr} {fs : List (Str × DV)} (h : Ev K ta ρ M (.ins C fs)) (c : Cls K C) (n : NoAttr K C f) (l : fs.lookup f = some d) : Ev K (tFld K ta f) ρ M d := evr_fld (h.go ⟨C, fs, d, rfl, c, n, l, rfl, rfl⟩)
/-- of an owned instance -/
theorem evr_fldC {f : Str} (h : EvR K ta ρ M fun x M1 => ∃ a C fs d, x = .raw (.ref a) ∧ (a, MO.ins C fs) ∈ M1 ∧ Cls K C ∧ NoAttr K C f ∧ fs.lookup f = some d ∧ R d M1) : EvR K (tFld K ta f) ρ M R := fun N F σ H S Q q =>
  h N F σ H S _ fun v x M1 F1 H1 e1 ⟨a, C, fs, d, hx, hm, c, n, l, hr⟩ w1 r1 => by
    subst hx
    cases r1.raw_of
    obtain ⟨_, dx, gs, ha, hf⟩ := w1.ce a _ (List.mem_append_right N hm)
    obtain ⟨u, hu, ru⟩ := hf.lookup l
    exact ⟨a, C, dx, gs, u, rfl, ha, c, n, hu, q u d M1 F1 H1 e1 hr w1 ru⟩
theorem ev_fldC {f : Str} {a C : Addr} {fs : List (Str × DV)} (h : Ev K ta ρ M (.raw (.ref a))) (hm : (a, MO.ins C fs) ∈ M) (c : Cls K C) (n : NoAttr K C f) (l : fs.lookup f = some d) : Ev K (tFld K ta f) ρ M d := evr_fldC (h.go ⟨a, C, fs, d, rfl, hm, c, n, l, rfl, rfl⟩)
end
/-! ### promises -/
/-- what a def asks of its arguments and of what is owned, and what it promises of the value and of what is owned behind it -/
abbrev SpecD := List DV → Ms → (DV → Ms → Prop) → Prop
def spD (K : PySem.W.Frag) (S : SpecD) : Sp := fun vs H Q _ => ∃ (F : Hp) (N M : Ms) (ds : List DV) (R : DV → Ms → Prop), Wd K F (N ++ M) H ∧ RpA K F vs ds ∧ S ds M R ∧ ∀ v d M' F' H', Ex F F' → R d M' → Wd K F' (N ++ M') H' → Rp K F' v d → Q v H'
section
variable {K : PySem.W.Frag} {ρ : Rho} {M M' : Ms} {ta tb tc te : TE} {S : SpecD} {E : XK} {d : DV} {R : DV → Ms → Prop} {t : TA}
theorem evr_call (h : EvAR K t ρ M fun ds M1 => S ds M1 R) : EvR K (tCall (spD K S) [] E t) ρ M R := fun N F σ H Z Q q =>
  h N F σ H Z _ fun vs ds M1 F1 H1 e1 h1 w1 r1 => by
    show spD K S (vs ++ []) H1 Q E
    rw [List.append_nil]
    exact ⟨F1, N, M1, ds, R, w1, r1, h1, fun v d M2 F2 H2 e2 hr w2 r2 => q v d M2 F2 H2 (e1.trans e2) hr w2 r2⟩
theorem ev_call {ds : List DV} (h : EvA K t ρ M ds) (hs : S ds M fun d' M' => d' = d ∧ M' = M) : Ev K (tCall (spD K S) [] E t) ρ M d := evr_call (h.go hs)
theorem evr_meth {C : Addr} {m : Str} (h : EvR K ta ρ M fun x M1 => ∃ fs, x = .ins C fs ∧ fs.lookup m = none ∧ EvAR K t ρ M1 fun ds M2 => S (.ins C fs :: ds) M2 R) : EvR K (tMeth C m (spD K S) [] E ta t) ρ M R := fun N F σ H Z Q q =>
  h N F σ H Z _ fun v x M1 F1 H1 e1 ⟨fs, hx, hl, h1⟩ w1 r1 => by
    subst hx
    obtain ⟨a, dx, gs, rfl, ha, hf⟩ := id r1.ins_of
    refine ⟨a, dx, gs, rfl, w1.fr _ _ ha, hf.lookup_none hl, ?_⟩
    refine h1 N F1 σ H1 ⟨w1, Z.e.mono e1⟩ _ fun vs ds M2 F2 H2 e2 h2 w2 r2 => ?_
    rw [List.append_nil]
    exact ⟨F2, N, M2, _, R, w2, .cons (r1.mono e2) r2, h2, fun v d M3 F3 H3 e3 hr w3 r3 => q v d M3 F3 H3 ((e1.trans e2).trans e3) hr w3 r3⟩
theorem ev_meth {C : Addr} {m : Str} {fs : List (Str × DV)} {ds : List DV} (ha : Ev K ta ρ M (.ins C fs)) (hl : fs.lookup m = none) (h : EvA K t ρ M ds) (hs : S (.ins C fs :: ds) M fun d' M' => d' = d ∧ M' = M) : Ev K (tMeth C m (spD K S) [] E ta t) ρ M d :=
  evr_meth (ha.go ⟨fs, rfl, hl, h.go hs⟩)
/-- a method of an owned instance -/
theorem evr_methC {C : Addr} {m : Str} (h : EvR K ta ρ M fun x M1 => ∃ a fs, x = .raw (.ref a) ∧ (a, MO.ins C fs) ∈ M1 ∧ fs.lookup m = none ∧ EvAR K t ρ M1 fun ds M2 => S (.raw (.ref a) :: ds) M2 R) : EvR K (tMeth C m (spD K S) [] E ta t) ρ M R := fun N F σ H Z Q q =>
  h N F σ H Z _ fun v x M1 F1 H1 e1 ⟨a, fs, hx, hm, hl, h1⟩ w1 r1 => by
    subst hx
    cases r1.raw_of
    obtain ⟨_, dx, gs, ha, hf⟩ := w1.ce a _ (List.mem_append_right N hm)
    refine ⟨a, dx, gs, rfl, ha, hf.lookup_none hl, ?_⟩
    refine h1 N F1 σ H1 ⟨w1, Z.e.mono e1⟩ _ fun vs ds M2 F2 H2 e2 h2 w2 r2 => ?_
    rw [List.append_nil]
    exact ⟨F2, N, M2, _, R, w2, .cons (.raw _) r2, h2, fun v d M3 F3 H3 e3 hr w3 r3 => q v d M3 F3 H3 ((e1.trans e2).trans e3) hr w3 r3⟩
/-- C(..): __init__ gets the new instance as an owned one; it is handed on as such -/
theorem evr_make {C : Addr} (h : EvAR K t ρ M fun ds M1 => ∀ x, S (.raw (.ref x) :: ds) ((x, .ins C []) :: M1) fun d M2 => d = .non ∧ R (.raw (.ref x)) M2) : EvR K (tMake C (spD K S) [] E t) ρ M R := fun N F σ H Z Q q =>
  h N F σ H Z _ fun vs ds M1 F1 H1 e1 h1 w1 r1 => fun x dx hx hdx hne => by
    rw [List.append_nil]
    have hxd : x ≠ dx := hne.symm
    have w2 : Wd K F1 (N ++ M1) (upd H1 dx (.own x)) := by
      refine ⟨fun b u hb => ?_, fun b u hb => ?_, w1.nd⟩
      · rw [upd_ne (ne_of_none hb (w1.fresh hdx))]; exact w1.fr b u hb
      · exact ⟨(w1.ce b u hb).1, (w1.ce b u hb).2.mono (Evl.Ex.refl F1) (upd_ne (w1.mne hdx hb))⟩
    have w3 := (w2.cell (p := x) (mo := .ins C []) (o := .ins C dx []) (by rw [upd_ne hxd]; exact hx) ⟨dx, [], upd_same, .nil⟩).perm List.perm_middle
    exact ⟨F1, N, _, _, _, w3, .cons (.raw _) r1, h1 x, fun v d M3 F3 H3 e3 hr w4 r4 => ⟨by rw [hr.1] at r4; exact r4.non_of, q _ _ M3 F3 H3 (e1.trans e3) hr.2 w4 (.raw _)⟩⟩
/-- an owned instance, at the head, stays from now on -/
theorem Wd.freezeI {F H : Hp} {a C : Addr} {fs : List (Str × DV)} (w : Wd K F ((a, .ins C fs) :: M) H) : ∃ F', Ex F F' ∧ Wd K F' M H ∧ Rp K F' (.ref a) (.ins C fs) := by
  obtain ⟨hn, dx, gs, hv, hr⟩ := w.ce a _ List.mem_cons_self
  have e := ex_new (o := .ins C dx gs) hn
  refine ⟨upd F a (.ins C dx gs), e, ⟨fun b u hb => ?_, fun b u hb => ?_, (List.nodup_cons.mp w.nd).2⟩, .ins upd_same (hr.mono e)⟩
  · by_cases eb : b = a
    · subst eb; rw [upd_same] at hb; cases hb; exact hv
    · rw [upd_ne eb] at hb; exact w.fr b u hb
  · have hne : b ≠ a := fun z => (List.nodup_cons.mp w.nd).1 (List.mem_map.mpr ⟨(b, u), hb, z⟩)
    have := w.ce b u (List.mem_cons_of_mem _ hb)
    exact ⟨by rw [upd_ne hne]; exact this.1, this.2.mono e rfl⟩
/-- a value that is an owned object is made one that stays: of lists, of instances; owned ones are let go -/
theorem evr_freezeL (h : EvR K te ρ M fun d M1 => ∃ a ds M2, d = .raw (.ref a) ∧ M1 = (a, .lst ds) :: M2 ∧ R (.lst ds) M2) : EvR K te ρ M R := fun N F σ H Z Q q =>
  h N F σ H Z Q fun v d M1 F1 H1 e1 ⟨a, ds, M2, hd, hm, hr⟩ w1 r1 => by
    subst hd hm
    cases r1.raw_of
    obtain ⟨F2, e2, w2, r2⟩ := (w1.perm (List.perm_middle.symm)).freeze
    exact q _ _ M2 F2 H1 (e1.trans e2) hr w2 r2
theorem evr_freezeI (h : EvR K te ρ M fun d M1 => ∃ a C fs M2, d = .raw (.ref a) ∧ M1 = (a, .ins C fs) :: M2 ∧ R (.ins C fs) M2) : EvR K te ρ M R := fun N F σ H Z Q q =>
  h N F σ H Z Q fun v d M1 F1 H1 e1 ⟨a, C, fs, M2, hd, hm, hr⟩ w1 r1 => by
    subst hd hm
    cases r1.raw_of
    obtain ⟨F2, e2, w2, r2⟩ := (w1.perm (List.perm_middle.symm)).freezeI
    exact q _ _ M2 F2 H1 (e1.trans e2) hr w2 r2
theorem evr_drop (h : EvR K te ρ M fun d M1 => ∃ c M2, M1 = c :: M2 ∧ R d M2) : EvR K te ρ M R := fun N F σ H Z Q q =>
  h N F σ H Z Q fun v d M1 F1 H1 e1 ⟨c, M2, hm, hr⟩ w1 r1 => by
    subst hm
    exact q _ _ M2 F1 H1 e1 hr (w1.perm (List.perm_middle.symm)).drop r1
end
/-! ### statements -/
structure Post where
  nx : Rho → Ms → Prop
  rt : DV → Ms → Prop
  bk : Rho → Ms → Prop := fun _ _ => False
  ct : Rho → Ms → Prop := fun _ _ => False
structure EOk (K : PySem.W.Frag) (F : Hp) (N : Ms) (P : Post) (D : Ends) : Prop where
  nx : ∀ F' σ' H' ρ' M', Ex F F' → P.nx ρ' M' → Sn K F' (N ++ M') ρ' σ' H' → D.nx σ' H'
  rt : ∀ v F' H' d M', Ex F F' → P.rt d M' → Wd K F' (N ++ M') H' → Rp K F' v d → D.rt v H'
  bk : ∀ F' σ' H' ρ' M', Ex F F' → P.bk ρ' M' → Sn K F' (N ++ M') ρ' σ' H' → D.bk σ' H'
  ct : ∀ F' σ' H' ρ' M', Ex F F' → P.ct ρ' M' → Sn K F' (N ++ M') ρ' σ' H' → D.ct σ' H'
theorem EOk.mono {K : PySem.W.Frag} {F F1 : Hp} {N : Ms} {P : Post} {D : Ends} (e : EOk K F N P D) (x : Ex F F1) : EOk K F1 N P D :=
  ⟨fun F' σ' H' ρ' M' e1 => e.nx F' σ' H' ρ' M' (x.trans e1), fun v F' H' d M' e1 => e.rt v F' H' d M' (x.trans e1), fun F' σ' H' ρ' M' e1 => e.bk F' σ' H' ρ' M' (x.trans e1), fun F' σ' H' ρ' M' e1 => e.ct F' σ' H' ρ' M' (x.trans e1)⟩
def XS (K : PySem.W.Frag) (t : TS) (ρ : Rho) (M : Ms) (P : Post) : Prop := ∀ (N : Ms) (F : Hp) (σ : St) (H : Hp) (D : Ends), Sn K F (N ++ M) ρ σ H → EOk K F N P D → t D σ H
section
variable {K : PySem.W.Frag} {ρ : Rho} {M M' : Ms} {te : TE} {tt : TT} {t u : TS} {P : Post}
theorem xs_seq (h : XS K t ρ M { P with nx := fun ρ' M' => XS K u ρ' M' P }) : XS K (tSeq t u) ρ M P := fun N F σ H D S e =>
  h N F σ H _ S ⟨fun F' σ' H' ρ' M' e1 h1 S1 => h1 N F' σ' H' D S1 (e.mono e1), e.rt, e.bk, e.ct⟩
theorem xs_next (h : P.nx ρ M) : XS K tNext ρ M P := fun N F σ H D S e => e.nx F σ H ρ M (Evl.Ex.refl F) h S
theorem xs_ret (h : EvR K te ρ M P.rt) : XS K (tRet te) ρ M P := fun N F σ H D S e => h N F σ H S _ fun v d M' F' H' e1 hr w r => e.rt v F' H' d M' e1 hr w r
theorem xs_retN (h : P.rt .non M) : XS K tRetN ρ M P := fun N F σ H D S e => e.rt .non F H .non M (Evl.Ex.refl F) h S.w .non
theorem xs_brk (h : P.bk ρ M) : XS K tBreak ρ M P := fun N F σ H D S e => e.bk F σ H ρ M (Evl.Ex.refl F) h S
theorem xs_cont (h : P.ct ρ M) : XS K tCont ρ M P := fun N F σ H D S e => e.ct F σ H ρ M (Evl.Ex.refl F) h S
theorem xs_drop (h : EvR K te ρ M fun _ M' => P.nx ρ M') : XS K (tDrop te) ρ M P := fun N F σ H D S e => h N F σ H S _ fun v d M' F' H' e1 hr w r => e.nx F' σ H' ρ M' e1 hr ⟨w, S.e.mono e1⟩
theorem xs_if (h : EvTR K tt ρ M fun b M' => if b = true then XS K t ρ M' P else XS K u ρ M' P) : XS K (tIfS tt t u) ρ M P := fun N F σ H D S e => h N F σ H S _ fun b M' F' H' e1 hr w => by
  cases b with
  | true => exact (show XS K t ρ M' P from hr) N F' σ H' D ⟨w, S.e.mono e1⟩ (e.mono e1)
  | false => exact (show XS K u ρ M' P from hr) N F' σ H' D ⟨w, S.e.mono e1⟩ (e.mono e1)
theorem xs_if2 {b : Bool} (h : EvT K tt ρ M b) (h1 : b = true → XS K t ρ M P) (h2 : b = false → XS K u ρ M P) : XS K (tIfS tt t u) ρ M P := xs_if (h.go (by
  cases b with
  | true => exact h1 rfl
  | false => exact h2 rfl))
/-- owned ones let go, or in another order -/
theorem xs_perm (hp : M'.Perm M) (h : XS K t ρ M' P) : XS K t ρ M P := fun N F σ H D S e => h N F σ H D ⟨S.w.perm (hp.append_left N), S.e⟩ e
theorem xs_let {c : Addr × MO} (h : XS K t ρ M P) : XS K t ρ (c :: M) P := fun N F σ H D S e => h N F σ H D ⟨(S.w.perm List.perm_middle.symm).drop, S.e⟩ e
theorem xs_op {i : Nat} {a : Addr} {p : List DV → Prop} (hi : M[i]? = some (a, .lstP p)) (h : ∀ ds, p ds → XS K t ρ (M.set i (a, .lst ds)) P) : XS K t ρ M P := fun N F σ H D S e => by
  obtain ⟨ds, hp, w⟩ := S.w.op (i := N.length + i) (by rw [List.getElem?_append_right (Nat.le_add_right _ _), Nat.add_sub_cancel_left]; exact hi)
  rw [List.set_append_right _ _ (Nat.le_add_right _ _), Nat.add_sub_cancel_left] at w
  exact h ds hp N F σ H D ⟨w, S.e⟩ e
theorem evr_cl {i : Nat} {a : Addr} {p : List DV → Prop} {R : DV → Ms → Prop} (h : EvR K te ρ M fun d M1 => ∃ ds, M1[i]? = some (a, .lst ds) ∧ p ds ∧ R d (M1.set i (a, .lstP p))) : EvR K te ρ M R := fun N F σ H S Q q =>
  h N F σ H S Q fun v d M1 F1 H1 e1 ⟨ds, hi, hp, hr⟩ w1 r1 => by
    have w := w1.cl (i := N.length + i) (by rw [List.getElem?_append_right (Nat.le_add_right _ _), Nat.add_sub_cancel_left]; exact hi) hp
    rw [List.set_append_right _ _ (Nat.le_add_right _ _), Nat.add_sub_cancel_left] at w
    exact q v d _ F1 H1 e1 hr w r1
theorem evr_clN {p : List DV → Prop} {R : DV → Ms → Prop} (h : EvR K te ρ M fun d M1 => ∃ (a : Addr) (ds : List DV) (M2 : Ms), M1 = (a, .lst ds) :: M2 ∧ p ds ∧ R d ((a, .lstP p) :: M2)) : EvR K te ρ M R := fun N F σ H S Q q =>
  h N F σ H S Q fun v d M1 F1 H1 e1 ⟨a, ds, M2, hm, hp, hr⟩ w1 r1 => by
    subst hm
    have w := w1.cl (i := N.length) (a := a) (ds := ds) (by rw [List.getElem?_append_right (Nat.le_refl _), Nat.sub_self]; rfl) hp
    rw [List.set_append_right _ _ (Nat.le_refl _), Nat.sub_self] at w
    exact q v d _ F1 H1 e1 hr w r1
theorem xs_never (h : False) : XS K t ρ M P := h.elim
/-! ### targets -/
def BdG (K : PySem.W.Frag) (g : TG) (ρ : Rho) (M : Ms) (d : DV) (R : Rho → Ms → Prop) : Prop := ∀ (N : Ms) (F : Hp) (σ : St) (H : Hp) (v : V) (Q : St → Hp → Prop), Sn K F (N ++ M) ρ σ H → Rp K F v d → (∀ σ' F' H' ρ' M', Ex F F' → R ρ' M' → Sn K F' (N ++ M') ρ' σ' H' → Q σ' H') → g v σ H Q
def BdGs (K : PySem.W.Frag) (g : TGs) (ρ : Rho) (M : Ms) (ds : List DV) (R : Rho → Ms → Prop) : Prop := ∀ (N : Ms) (F : Hp) (σ : St) (H : Hp) (vs : List V) (Q : St → Hp → Prop), Sn K F (N ++ M) ρ σ H → RpA K F vs ds → (∀ σ' F' H' ρ' M', Ex F F' → R ρ' M' → Sn K F' (N ++ M') ρ' σ' H' → Q σ' H') → g vs σ H Q
variable {d : DV} {ds : List DV} {R : Rho → Ms → Prop} {g : TG} {gs : TGs}
theorem bd_name {i : Nat} (h : R (ρ.set i (some d)) M) : BdG K (gName i) ρ M d R := fun N F σ H v Q S r q => q _ F H _ M (Evl.Ex.refl F) h ⟨S.w, S.e.set r i⟩
theorem bds_nil (h : R ρ M) : BdGs K gNil ρ M [] R := fun N F σ H v Q S r q => by
  cases r
  exact ⟨rfl, q σ F H ρ M (Evl.Ex.refl F) h S⟩
theorem bds_cons (h : BdG K g ρ M d fun ρ' M' => BdGs K gs ρ' M' ds R) : BdGs K (gCons g gs) ρ M (d :: ds) R := fun N F σ H vs Q S r q => by
  cases r with
  | cons r t =>
    refine ⟨_, _, rfl, h N F σ H _ _ S r fun σ' F' H' ρ' M' e1 h1 S1 => ?_⟩
    exact h1 N F' σ' H' _ Q S1 (t.mono e1) fun σ2 F2 H2 ρ2 M2 e2 h2 S2 => q σ2 F2 H2 ρ2 M2 (e1.trans e2) h2 S2
theorem bd_tup {n : Nat} (h : BdGs K gs ρ M ds R) (hn : ds.length = n) : BdG K (gTup K n gs) ρ M (.tup ds) R := fun N F σ H v Q S r q => by
  obtain ⟨a, xs, rfl, hs, hr⟩ := r.tup_of
  exact ⟨a, xs, rfl, Evl.ex_t S.w.fr hs, by rw [hr.length]; exact hn, h N F σ H xs Q S hr q⟩
theorem xs_asg (h : EvR K te ρ M fun d M' => BdG K g ρ M' d P.nx) : XS K (tAsg te g) ρ M P := fun N F σ H D S e =>
  h N F σ H S _ fun v d M' F' H' e1 h1 w1 r1 => h1 N F' σ H' v _ ⟨w1, S.e.mono e1⟩ r1 fun σ2 F2 H2 ρ2 M2 e2 h2 S2 => e.nx F2 σ2 H2 ρ2 M2 (e1.trans e2) h2 S2
theorem xs_set {i : Nat} (h : Ev K te ρ M d) (k : P.nx (ρ.set i (some d)) M) : XS K (tAsg te (gName i)) ρ M P := xs_asg (h.go (bd_name k))
/-- the slots vs are as they were, when they are wiped -/
def BdW (g : TG) (vs : List Nat) : Prop := ∀ (v : V) (σ : St) (H : Hp) (Q : St → Hp → Prop), (g v σ H fun σ' H' => wipe σ' vs = wipe σ vs → Q σ' H') → g v σ H Q
def BdWs (g : TGs) (vs : List Nat) : Prop := ∀ (v : List V) (σ : St) (H : Hp) (Q : St → Hp → Prop), (g v σ H fun σ' H' => wipe σ' vs = wipe σ vs → Q σ' H') → g v σ H Q
theorem wipe_get {i : Nat} : ∀ {vs : List Nat} {σ : St}, (wipe σ vs)[i]? = if i ∈ vs ∧ i < σ.length then some none else σ[i]?
  | [], σ => by rw [if_neg (by rintro ⟨h, _⟩; cases h)]; rfl
  | v :: vs, σ => by
    show ((wipe σ vs).set v none)[i]? = _
    rw [List.getElem?_set, wipe_length]
    by_cases hv : v = i
    · subst hv
      rw [if_pos rfl]
      by_cases hl : v < σ.length
      · rw [if_pos hl, if_pos ⟨List.mem_cons_self, hl⟩]
      · rw [if_neg hl, if_neg fun z => hl z.2]
        exact (List.getElem?_eq_none (by omega)).symm
    · rw [if_neg hv, wipe_get]
      by_cases hm : i ∈ vs ∧ i < σ.length
      · rw [if_pos hm, if_pos ⟨List.mem_cons_of_mem _ hm.1, hm.2⟩]
      · rw [if_neg hm, if_neg fun z => hm ⟨(List.mem_cons.mp z.1).resolve_left fun e => hv e.symm, z.2⟩]
theorem wipe_set {σ : St} {vs : List Nat} {i : Nat} {x : Option V} (h : i ∈ vs) : wipe (σ.set i x) vs = wipe σ vs := by
  refine List.ext_getElem? fun j => ?_
  rw [wipe_get, wipe_get, List.length_set, List.getElem?_set]
  by_cases hj : i = j
  · subst hj
    by_cases hl : i < σ.length
    · rw [if_pos ⟨h, hl⟩, if_pos ⟨h, hl⟩]
    · rw [if_neg fun z => hl z.2]
      rw [if_pos rfl, if_neg hl, if_neg fun z => hl z.2]
      exact (List.getElem?_eq_none (by omega)).symm
  · rw [if_neg hj]
theorem wipe_wipe {σ : St} {vs : List Nat} : wipe (wipe σ vs) vs = wipe σ vs := by
  refine List.ext_getElem? fun j => ?_
  rw [wipe_get, wipe_length, wipe_get]
  by_cases hj : j ∈ vs ∧ j < σ.length
  · rw [if_pos hj, if_pos hj]
  · rw [if_neg hj, if_neg hj]
theorem bdw_name {i : Nat} {vs : List Nat} (h : i ∈ vs) : BdW (gName i) vs := fun v σ H Q k => k (wipe_set h)
theorem bdws_nil {vs : List Nat} : BdWs gNil vs := fun v σ H Q k => ⟨k.1, k.2 rfl⟩
theorem gname_mono {i : Nat} : ∀ (v : V) (σ : St) (H : Hp) (Q Q' : St → Hp → Prop), (∀ σ H, Q σ H → Q' σ H) → gName i v σ H Q → gName i v σ H Q' := fun v σ H Q Q' k h => k _ _ h
theorem bdws_name {i : Nat} {vs : List Nat} (h : i ∈ vs) (hs : BdWs gs vs) : BdWs (gCons (gName i) gs) vs := fun v σ H Q k => by
  obtain ⟨x, r, e, k⟩ := k
  refine ⟨x, r, e, hs _ _ _ _ ?_⟩
  have k' : gs r (σ.set i (some x)) H fun σ' H' => wipe σ' vs = wipe σ vs → Q σ' H' := k
  rw [← wipe_set (x := some x) h] at k'
  exact k'
theorem bdw_tup {n : Nat} {vs : List Nat} (h : BdWs gs vs) : BdW (gTup K n gs) vs := fun v σ H Q k => by
  obtain ⟨a, xs, e, hs, hl, k⟩ := k
  exact ⟨a, xs, e, hs, hl, h _ _ _ _ k⟩
end
/-! ### what is walked -/
/-- J gives y 0, .. y (n - 1), while the objects G are owned as they are -/
structure WalkD (K : PySem.W.Frag) (F : Hp) (G : Ms) (J : It) (n : Nat) (y : Nat → DV) : Prop where
  goes : ∀ i F1 M1 H, i < n → Ex F F1 → Wd K F1 M1 H → (∀ c ∈ G, c ∈ M1) → J.go i H
  stops : ∀ F1 M1 H, Ex F F1 → Wd K F1 M1 H → (∀ c ∈ G, c ∈ M1) → J.stop n H
  yields : ∀ i F1 M1 H x H', i < n → Ex F F1 → Wd K F1 M1 H → (∀ c ∈ G, c ∈ M1) → J.yld i H x H' → ∃ F2, Ex F1 F2 ∧ Wd K F2 M1 H' ∧ Rp K F2 x (y i)
/-- wi is walked so; G: what must stay; R: what is owned then -/
def EvI (K : PySem.W.Frag) (wi : TI) (ρ : Rho) (M : Ms) (G : Ms) (n : Nat) (y : Nat → DV) (R : Ms → Prop) : Prop := ∀ (N : Ms) (F : Hp) (σ : St) (H : Hp), Sn K F (N ++ M) ρ σ H → ∀ Q : It → Hp → Prop, (∀ J M' F' H', Ex F F' → R M' → Wd K F' (N ++ M') H' → WalkD K F' G J n y → Q J H') → wi σ H Q
section
variable {K : PySem.W.Frag} {ρ : Rho} {M M' : Ms} {te : TE} {t u tb : TS} {P : Post} {G : Ms} {n : Nat} {y : Nat → DV} {g : TG} {wi : TI}
theorem xs_for {RM : Ms → Prop} (hI : EvI K wi ρ M G n y RM) (inv : Nat → Rho → Ms → Prop) (h0 : ∀ M', RM M' → inv 0 ρ M') (hG : ∀ i ρ' M', i ≤ n → inv i ρ' M' → ∀ c ∈ G, c ∈ M')
    (hs : ∀ i ρ' M', i < n → inv i ρ' M' → BdG K g ρ' M' (y i) fun ρ2 M2 => XS K tb ρ2 M2 { P with nx := inv (i + 1), ct := inv (i + 1), bk := P.nx })
    (hd : ∀ ρ' M', inv n ρ' M' → P.nx ρ' M') : XS K (tFor wi g tb) ρ M P := fun N F σ H D S e =>
  hI N F σ H S _ fun J M1 F1 H1 e1 hr w1 W => by
    refine ⟨fun i m σ' H' => m = n - i ∧ i ≤ n ∧ ∃ F' ρ' M', Ex F1 F' ∧ inv i ρ' M' ∧ Sn K F' (N ++ M') ρ' σ' H', ⟨n, by simp, Nat.zero_le _, F1, ρ, M1, Evl.Ex.refl _, h0 M1 hr, w1, S.e.mono e1⟩, ?_⟩
    rintro i m σ' H' ⟨rfl, hi, F', ρ', M', e2, hv, S2⟩
    have hg : ∀ c ∈ G, c ∈ N ++ M' := fun c hc => List.mem_append_right N (hG i ρ' M' hi hv c hc)
    by_cases hlt : i < n
    · refine .inr ⟨W.goes i F' _ H' hlt e2 S2.w hg, fun σ3 H3 => ∃ F3 ρ3 M3, Ex F' F3 ∧ inv (i + 1) ρ3 M3 ∧ Sn K F3 (N ++ M3) ρ3 σ3 H3, fun σ3 H3 ⟨F3, ρ3, M3, e3, hv3, S3⟩ => ⟨n - (i + 1), by omega, rfl, hlt, F3, ρ3, M3, e2.trans e3, hv3, S3⟩, fun x H3 hy => ?_⟩
      obtain ⟨F3, e3, w3, r3⟩ := W.yields i F' _ H' x H3 hlt e2 S2.w hg hy
      refine hs i ρ' M' hlt hv N F3 σ' H3 x _ ⟨w3, S2.e.mono e3⟩ r3 fun σ4 F4 H4 ρ4 M4 e4 h4 S4 => ?_
      have e04 : Ex F F4 := ((e1.trans e2).trans e3).trans e4
      exact h4 N F4 σ4 H4 _ S4 ⟨fun F5 σ5 H5 ρ5 M5 e5 h5 S5 => ⟨F5, ρ5, M5, (e3.trans e4).trans e5, h5, S5⟩, (e.mono e04).rt, (e.mono e04).nx, fun F5 σ5 H5 ρ5 M5 e5 h5 S5 => ⟨F5, ρ5, M5, (e3.trans e4).trans e5, h5, S5⟩⟩
    · have en : i = n := by omega
      subst en
      exact .inl ⟨W.stops F' _ H' e2 S2.w hg, (e.mono (e1.trans e2)).nx F' σ' H' ρ' M' (Evl.Ex.refl _) (hd ρ' M' hv) S2⟩
theorem xs_while {tt : TT} (inv : Nat → Rho → Ms → Prop) {m : Nat} (h0 : inv m ρ M)
    (hs : ∀ m ρ' M', inv m ρ' M' → EvTR K tt ρ' M' fun b M1 => if b = true then XS K tb ρ' M1 { P with nx := fun ρ2 M2 => ∃ m', m' < m ∧ inv m' ρ2 M2, ct := fun ρ2 M2 => ∃ m', m' < m ∧ inv m' ρ2 M2, bk := P.nx } else P.nx ρ' M1) : XS K (tWhile tt tb) ρ M P := fun N F σ H D S e => by
  refine ⟨fun m σ' H' => ∃ F' ρ' M', Ex F F' ∧ inv m ρ' M' ∧ Sn K F' (N ++ M') ρ' σ' H', ⟨m, F, ρ, M, Evl.Ex.refl _, h0, S⟩, ?_⟩
  rintro m σ' H' ⟨F', ρ', M', e1, hv, S1⟩
  refine hs m ρ' M' hv N F' σ' H' S1 _ fun b M1 F1 H1 e2 h1 w1 => ?_
  have S2 : Sn K F1 (N ++ M1) ρ' σ' H1 := ⟨w1, S1.e.mono e2⟩
  cases b with
  | false => exact (e.mono (e1.trans e2)).nx F1 σ' H1 ρ' M1 (Evl.Ex.refl _) h1 S2
  | true =>
    refine ⟨fun σ3 H3 => ∃ F3 ρ3 M3 m', Ex F' F3 ∧ m' < m ∧ inv m' ρ3 M3 ∧ Sn K F3 (N ++ M3) ρ3 σ3 H3, fun σ3 H3 ⟨F3, ρ3, M3, m', e3, hm, hv3, S3⟩ => ⟨m', hm, F3, ρ3, M3, e1.trans e3, hv3, S3⟩, ?_⟩
    refine (show XS K tb ρ' M1 _ from h1) N F1 σ' H1 _ S2 ⟨fun F5 σ5 H5 ρ5 M5 e5 ⟨m', hm, h5⟩ S5 => ⟨F5, ρ5, M5, m', e2.trans e5, hm, h5, S5⟩, (e.mono (e1.trans e2)).rt, (e.mono (e1.trans e2)).nx, fun F5 σ5 H5 ρ5 M5 e5 ⟨m', hm, h5⟩ S5 => ⟨F5, ρ5, M5, m', e2.trans e5, hm, h5, S5⟩⟩
/-- a comprehension; its list is owned at first -/
theorem evr_lcC {tt : TT} {vs : List Nat} {RM : Ms → Prop} {R : DV → Ms → Prop} (hI : EvI K wi ρ M G n y RM) (hn : n ≤ 100000) (inv : Nat → List DV → Ms → Prop) (h0 : ∀ M', RM M' → inv 0 [] M') (hG : ∀ i acc M', i ≤ n → inv i acc M' → ∀ c ∈ G, c ∈ M') (hb : BdW g vs)
    (hs : ∀ i acc M', i < n → inv i acc M' → BdG K g (wipeD ρ vs) M' (y i) fun ρ2 M2 => EvTR K tt ρ2 M2 fun b M3 => if b = true then EvR K te ρ2 M3 fun d M4 => inv (i + 1) (acc ++ [d]) M4 else inv (i + 1) acc M3)
    (hd : ∀ D acc M', acc.length ≤ n → inv n acc M' → R (.raw (.ref D)) ((D, .lst acc) :: M')) : EvR K (tLc wi g tt te vs) ρ M R := fun N F σ H S Q q =>
  hI N F σ H S _ fun J M1 F1 H1 e1 hr w1 W => fun D hD => by
    refine ⟨fun i m H' => m = n - i ∧ i ≤ n ∧ ∃ F' M' acc, acc.length ≤ i ∧ Ex F1 F' ∧ inv i acc M' ∧ Wd K F' ((D, .lst acc) :: (N ++ M')) H', ⟨n, by simp, Nat.zero_le _, F1, M1, [], by simp, Evl.Ex.refl _, h0 M1 hr, w1.cell (mo := .lst []) hD ⟨[], upd_same, .nil⟩⟩, ?_⟩
    rintro i m H' ⟨rfl, hi, F', M', acc, hacc, e2, hv, w2⟩
    have hg : ∀ c ∈ G, c ∈ (D, MO.lst acc) :: (N ++ M') := fun c hc => List.mem_cons_of_mem _ (List.mem_append_right N (hG i acc M' hi hv c hc))
    by_cases hlt : i < n
    · refine .inr ⟨W.goes i F' _ H' hlt e2 w2 hg, fun H3 => ∃ F3 M3 acc3, acc3.length ≤ i + 1 ∧ Ex F' F3 ∧ inv (i + 1) acc3 M3 ∧ Wd K F3 ((D, .lst acc3) :: (N ++ M3)) H3, fun H3 ⟨F3, M3, acc3, l3, e3, hv3, w3⟩ => ⟨n - (i + 1), by omega, rfl, hlt, F3, M3, acc3, l3, e2.trans e3, hv3, w3⟩, fun x H3 hy => ?_⟩
      obtain ⟨F3, e3, w3, r3⟩ := W.yields i F' _ H' x H3 hlt e2 w2 hg hy
      refine hb _ _ _ _ ?_
      refine hs i acc M' hlt hv ((D, .lst acc) :: N) F3 (wipe σ vs) H3 x _ ⟨w3, ((S.e.mono ((e1.trans e2).trans e3)).wipe vs)⟩ r3 fun σ4 F4 H4 ρ4 M4 e4 h4 S4 hw => ⟨hw.trans wipe_wipe, ?_⟩
      refine h4 ((D, .lst acc) :: N) F4 σ4 H4 S4 _ fun b M5 F5 H5 e5 h5 w5 => ?_
      cases b with
      | false => exact ⟨F5, M5, acc, by omega, (e3.trans e4).trans e5, h5, w5⟩
      | true =>
        refine (show EvR K te ρ4 M5 _ from h5) ((D, .lst acc) :: N) F5 σ4 H5 ⟨w5, S4.e.mono e5⟩ _ fun v d M6 F6 H6 e6 h6 w6 r6 => ?_
        obtain ⟨_, xs, hx, hrx⟩ := w6.ce D _ List.mem_cons_self
        refine ⟨xs, hx, by rw [hrx.length]; exact Evl.sz_lt (by omega), F6, M6, acc ++ [d], by rw [List.length_append]; simp; omega, ((e3.trans e4).trans e5).trans e6, h6, ?_⟩
        exact w6.put (i := 0) rfl (mo' := .lst (acc ++ [d])) ⟨_, upd_same, hrx.snoc r6⟩
    · have en : i = n := by omega
      subst en
      exact .inl ⟨W.stops F' _ H' e2 w2 hg, q _ _ ((D, .lst acc) :: M') F' H' (e1.trans e2) (hd D acc M' hacc hv) (w2.perm List.perm_middle) (.raw _)⟩
/-- .. that stays -/
theorem evr_lc {tt : TT} {vs : List Nat} {RM : Ms → Prop} {R : DV → Ms → Prop} (hI : EvI K wi ρ M G n y RM) (hn : n ≤ 100000) (inv : Nat → List DV → Ms → Prop) (h0 : ∀ M', RM M' → inv 0 [] M') (hG : ∀ i acc M', i ≤ n → inv i acc M' → ∀ c ∈ G, c ∈ M') (hb : BdW g vs)
    (hs : ∀ i acc M', i < n → inv i acc M' → BdG K g (wipeD ρ vs) M' (y i) fun ρ2 M2 => EvTR K tt ρ2 M2 fun b M3 => if b = true then EvR K te ρ2 M3 fun d M4 => inv (i + 1) (acc ++ [d]) M4 else inv (i + 1) acc M3)
    (hd : ∀ acc M', acc.length ≤ n → inv n acc M' → R (.lst acc) M') : EvR K (tLc wi g tt te vs) ρ M R :=
  evr_freezeL (evr_lcC hI hn inv h0 hG hb hs fun D acc M' hl hv => ⟨D, acc, M', rfl, rfl, hd acc M' hl hv⟩)
/-- the elements f i where the tests are p i -/
def picked (p : Nat → Bool) (f : Nat → DV) : Nat → List DV
  | 0 => []
  | n + 1 => if p n = true then picked p f n ++ [f n] else picked p f n
theorem picked_yes {p : Nat → Bool} {f : Nat → DV} {n : Nat} (h : p n = true) : picked p f (n + 1) = picked p f n ++ [f n] := if_pos h
theorem picked_no {p : Nat → Bool} {f : Nat → DV} {n : Nat} (h : p n = false) : picked p f (n + 1) = picked p f n := if_neg (by rw [h]; decide)
theorem ev_lc {tt : TT} {vs : List Nat} (p : Nat → Bool) (f : Nat → DV) (hI : EvI K wi ρ M [] n y fun M' => M' = M) (hn : n ≤ 100000) (hb : BdW g vs)
    (hs : ∀ i, i < n → BdG K g (wipeD ρ vs) M (y i) fun ρ2 M2 => M2 = M ∧ EvT K tt ρ2 M (p i) ∧ (p i = true → Ev K te ρ2 M (f i))) : Ev K (tLc wi g tt te vs) ρ M (.lst (picked p f n)) := by
  refine evr_lc hI hn (fun i acc M' => M' = M ∧ acc = picked p f i) (fun M' e => ⟨e, rfl⟩) (fun _ _ _ _ _ c hc => nomatch hc) hb (fun i acc M' hi ⟨hM, ha⟩ => ?_) fun acc M' _ ⟨hM, ha⟩ => ⟨by rw [ha], hM⟩
  subst hM ha
  intro N F σ H v Q S r q
  refine hs i hi N F σ H v Q S r fun σ' F' H' ρ' M2 e1 ⟨hM, ht, he⟩ S1 => q σ' F' H' ρ' M2 e1 ?_ S1
  subst hM
  refine ht.go ?_
  cases hp : p i with
  | true => exact (he hp).go ⟨rfl, (picked_yes hp).symm⟩
  | false => exact ⟨rfl, (picked_no hp).symm⟩
theorem picked_all {f : Nat → DV} : ∀ {n : Nat}, picked (fun _ => true) f n = (List.range n).map f
  | 0 => rfl
  | n + 1 => by unfold picked; rw [if_pos rfl, picked_all, List.range_succ, List.map_append]; rfl
theorem et_yes : EvT K tYes ρ M true := fun N F σ H S Q q => q true M F H (Evl.Ex.refl F) ⟨rfl, rfl⟩ S.w
theorem etr_yes {RB : Bool → Ms → Prop} (h : RB true M) : EvTR K tYes ρ M RB := et_yes.go h
/-! ### the walks -/
theorem ei_rng1 {ta : TA} {RM : Ms → Prop} {j : Int} (h : EvAR K ta ρ M fun ds M' => ds = [.int j] ∧ RM M') (hj : -(2 ^ 62) ≤ j ∧ j < 2 ^ 62) : EvI K (iRng1 ta) ρ M [] j.toNat (fun i => .int i) RM := fun N F σ H S Q q =>
  h N F σ H S _ fun vs ds M1 F1 H1 e1 ⟨hd, hr⟩ w1 r1 => by
    subst hd
    cases r1 with
    | cons h t =>
      cases t
      cases h.int_of
      refine ⟨j, rfl, hj.1, hj.2, q _ M1 F1 H1 e1 hr w1 ⟨fun i _ _ _ hi _ _ _ => hi, fun _ _ _ _ _ _ => Nat.le_refl _, fun i F2 M2 H2 x H3 hi _ w2 _ hy => ?_⟩⟩
      obtain ⟨rfl, rfl⟩ := hy
      exact ⟨F2, Evl.Ex.refl _, w2, by rw [Int.zero_add]; exact .int _⟩
theorem ei_rng2 {ta : TA} {RM : Ms → Prop} {lo j : Int} (h : EvAR K ta ρ M fun ds M' => ds = [.int lo, .int j] ∧ RM M') (hj : -(2 ^ 62) ≤ lo ∧ lo < 2 ^ 62 ∧ -(2 ^ 62) ≤ j ∧ j < 2 ^ 62) : EvI K (iRng2 ta) ρ M [] (j - lo).toNat (fun i => .int (lo + i)) RM := fun N F σ H S Q q =>
  h N F σ H S _ fun vs ds M1 F1 H1 e1 ⟨hd, hr⟩ w1 r1 => by
    subst hd
    cases r1 with
    | cons h t =>
      cases t with
      | cons h2 t =>
        cases t
        cases h.int_of
        cases h2.int_of
        refine ⟨lo, j, rfl, hj, q _ M1 F1 H1 e1 hr w1 ⟨fun i _ _ _ hi _ _ _ => hi, fun _ _ _ _ _ _ => Nat.le_refl _, fun i F2 M2 H2 x H3 hi _ w2 _ hy => ?_⟩⟩
        obtain ⟨rfl, rfl⟩ := hy
        exact ⟨F2, Evl.Ex.refl _, w2, .int _⟩
/-- the i-th of data -/
def nth (ds : List DV) (i : Nat) : DV := ds.getD i .non
theorem nth_of {ds : List DV} {i : Nat} {d : DV} (h : ds[i]? = some d) : nth ds i = d := by unfold nth; rw [List.getD_eq_getElem?_getD, h]; rfl
theorem nth_get {ds : List DV} {i : Nat} (h : i < ds.length) : ds[i]? = some (nth ds i) := by
  rw [List.getElem?_eq_getElem h, nth_of (List.getElem?_eq_getElem h)]
theorem ei_tup {RM : Ms → Prop} {ds : List DV} (h : EvR K te ρ M fun d M' => d = .tup ds ∧ RM M') : EvI K (iTup K te) ρ M [] ds.length (nth ds) RM := fun N F σ H S Q q =>
  h N F σ H S _ fun v d M1 F1 H1 e1 ⟨hd, hr⟩ w1 r1 => by
    subst hd
    obtain ⟨a, xs, rfl, hx, hr1⟩ := r1.tup_of
    refine ⟨a, rfl, ⟨xs, Evl.ex_t w1.fr hx⟩, q _ M1 F1 H1 e1 hr w1 ⟨fun i F2 M2 H2 hi e2 w2 _ => ?_, fun F2 M2 H2 e2 w2 _ => ?_, fun i F2 M2 H2 x H3 hi e2 w2 _ hy => ?_⟩⟩
    · exact walk_tup.goes i H2 (by rw [hr1.length]; exact hi) (Evl.ex_t (e2.trans w2.fr) hx)
    · have := walk_tup.stops H2 (Evl.ex_t (e2.trans w2.fr) hx)
      rw [hr1.length] at this; exact this
    · obtain ⟨rfl, hg⟩ := walk_tup.yields i H2 x H3 (by rw [hr1.length]; exact hi) (Evl.ex_t (e2.trans w2.fr) hx) hy
      obtain ⟨d, hd, rd⟩ := hr1.get' hg
      exact ⟨F2, Evl.Ex.refl _, w2, by rw [nth_of hd]; exact rd.mono e2⟩
theorem ei_lst {RM : Ms → Prop} {ds : List DV} (h : EvR K te ρ M fun d M' => d = .lst ds ∧ RM M') : EvI K (iList K te) ρ M [] ds.length (nth ds) RM := fun N F σ H S Q q =>
  h N F σ H S _ fun v d M1 F1 H1 e1 ⟨hd, hr⟩ w1 r1 => by
    subst hd
    obtain ⟨a, xs, rfl, hx, hr1⟩ := r1.lst_of
    refine ⟨a, rfl, ⟨xs, SqL.of (w1.fr _ _ hx)⟩, q _ M1 F1 H1 e1 hr w1 ⟨fun i F2 M2 H2 hi e2 w2 _ => ?_, fun F2 M2 H2 e2 w2 _ => ?_, fun i F2 M2 H2 x H3 hi e2 w2 _ hy => ?_⟩⟩
    · exact walk_list.goes i H2 (by rw [hr1.length]; exact hi) (SqL.of ((e2.trans w2.fr) _ _ hx))
    · have := (walk_list (K := K)).stops H2 (SqL.of ((e2.trans w2.fr) _ _ hx))
      rw [hr1.length] at this; exact this
    · obtain ⟨rfl, hg⟩ := walk_list.yields i H2 x H3 (by rw [hr1.length]; exact hi) (SqL.of ((e2.trans w2.fr) _ _ hx)) hy
      obtain ⟨d, hd, rd⟩ := hr1.get' hg
      exact ⟨F2, Evl.Ex.refl _, w2, by rw [nth_of hd]; exact rd.mono e2⟩
theorem ei_rd {RM : Ms → Prop} {ds : List DV} (h : EvR K te ρ M fun d M' => d = .rd ds ∧ RM M') : EvI K (iList K te) ρ M [] ds.length (nth ds) RM := fun N F σ H S Q q =>
  h N F σ H S _ fun v d M1 F1 H1 e1 ⟨hd, hr⟩ w1 r1 => by
    subst hd
    obtain ⟨a, xs, rfl, hx, hr1⟩ := r1.rd_of
    refine ⟨a, rfl, ⟨xs, Evl.ex_l w1.fr hx⟩, q _ M1 F1 H1 e1 hr w1 ⟨fun i F2 M2 H2 hi e2 w2 _ => ?_, fun F2 M2 H2 e2 w2 _ => ?_, fun i F2 M2 H2 x H3 hi e2 w2 _ hy => ?_⟩⟩
    · exact walk_list.goes i H2 (by rw [hr1.length]; exact hi) (Evl.ex_l (e2.trans w2.fr) hx)
    · have := (walk_list (K := K)).stops H2 (Evl.ex_l (e2.trans w2.fr) hx)
      rw [hr1.length] at this; exact this
    · obtain ⟨rfl, hg⟩ := walk_list.yields i H2 x H3 (by rw [hr1.length]; exact hi) (Evl.ex_l (e2.trans w2.fr) hx) hy
      obtain ⟨d, hd, rd⟩ := hr1.get' hg
      exact ⟨F2, Evl.Ex.refl _, w2, by rw [nth_of hd]; exact rd.mono e2⟩
/-- of an owned list, that stays as it is meanwhile -/
theorem ei_lstC {RM : Ms → Prop} {ds : List DV} {a : Addr} (h : EvR K te ρ M fun d M' => d = .raw (.ref a) ∧ (a, MO.lst ds) ∈ M' ∧ RM M') : EvI K (iList K te) ρ M [(a, .lst ds)] ds.length (nth ds) RM := fun N F σ H S Q q =>
  h N F σ H S _ fun v d M1 F1 H1 e1 ⟨hd, hm, hr⟩ w1 r1 => by
    subst hd
    cases r1.raw_of
    obtain ⟨_, xs0, hx0, hr0⟩ := w1.ce a _ (List.mem_append_right N hm)
    refine ⟨a, rfl, ⟨xs0, SqL.of hx0⟩, q _ M1 F1 H1 e1 hr w1 ⟨fun i F2 M2 H2 hi e2 w2 hg => ?_, fun F2 M2 H2 e2 w2 hg => ?_, fun i F2 M2 H2 x H3 hi e2 w2 hg hy => ?_⟩⟩
    · obtain ⟨_, xs, hx, hr1⟩ := w2.ce a _ (hg _ List.mem_cons_self)
      exact walk_list.goes i H2 (by rw [hr1.length]; exact hi) (SqL.of hx)
    · obtain ⟨_, xs, hx, hr1⟩ := w2.ce a _ (hg _ List.mem_cons_self)
      have := (walk_list (K := K)).stops H2 (SqL.of hx)
      rw [hr1.length] at this; exact this
    · obtain ⟨_, xs, hx, hr1⟩ := w2.ce a _ (hg _ List.mem_cons_self)
      obtain ⟨rfl, hg⟩ := walk_list.yields i H2 x H3 (by rw [hr1.length]; exact hi) (SqL.of hx) hy
      obtain ⟨d, hd, rd⟩ := hr1.get' hg
      exact ⟨F2, Evl.Ex.refl _, w2, by rw [nth_of hd]; exact rd⟩
end
end DD

set_option Elab.async false
set_option linter.all false
set_option maxRecDepth 100000
set_option maxHeartbeats 4000000
/-! enumerate of a tuple -/
namespace DE
open PySem PySem.Spec PyProof.Rows L2
section
variable {P : Program} {w : World} {A : Around} {E : Value → Shared → Prop} {z : Shared} {c j a : Addr} {n : Nat} {its : Array Value}
/-- the inner draw: one more of the tuple -/
theorem draw1 {y : Value} {Q : Value → Shared → Prop} (hj : z.heap.IsTupleIter j a n) (ha : z.heap.IsTuple a its) (hy : its[n]? = some y) (k : ∀ g, g.IsTupleIter j a (n + 1) → Heap.SameBut j z.heap g → Q y { z with heap := g }) :
    wpAny (model P w) A (Builtin.SmallTypes.nextOf (.ref j)) Q E z := by
  obtain ⟨ob, hob, hcl, hdt⟩ := id hj
  obtain ⟨ot, hot, _, nt, hdtt⟩ := ha
  unfold Builtin.SmallTypes.nextOf
  refine wpAny_bind (wpAny_callSpecial?_slot (name := Str.ofString "__next__") hj.typeIs F.slot_tuple_iterator_next (wpAny_call_entry F.slot_tuple_iterator_next hj.typeIs F.entry_tuple_iterator_next ?_ (F.args_tuple_iterator_next_1 _)))
  show wpAny _ _ (field (.ref j) 0 >>= _) _ _ z
  refine wpAny_bind (wpAny_field hob hdt (x := .ref a) rfl ?_); show wpAny _ _ (if (Value.ref a == Value.none) = true then _ else _) _ _ z
  rw [if_neg (show ¬ ((Value.ref a == Value.none) = true) from Bool.false_ne_true)]; show wpAny _ _ (field (.ref j) 1 >>= _) _ _ z
  refine wpAny_bind (wpAny_field hob hdt (x := .int n 0) rfl ?_); show wpAny _ _ (seqItems? (.ref a) >>= _) _ _ z
  refine wpAny_bind (wpAny_seqItems hot hdtt ?_)
  simp only [Int.toNat_natCast, hy]
  refine wpAny_bind (wpAny_setField hob hdt (by simp) (wpAny_pure ⟨y, rfl, wpAny_pure (k _ ⟨_, Heap.get?_update_self _ hob (Obj.isFreed_of_fields (Obj.data_mapFields hdt _)), (Obj.cls_mapFields ..).trans hcl, ?_⟩ (Heap.SameBut.update ..))⟩))
  rw [Obj.data_mapFields hdt]; simp [rawInt]
theorem draw0 {Q : Value → Shared → Prop} (hh : A.handled = none) (hj : z.heap.IsTupleIter j a n) (ha : z.heap.IsTuple a its) (hy : its[n]? = none)
    (k : ∀ g x, Heap.ExtBut j z.heap g → (∃ o, g.get? x = some o ∧ o.cls = .type "StopIteration") → E (.ref x) { z with heap := g }) : wpAny (model P w) A (Builtin.SmallTypes.nextOf (.ref j)) Q E z := by
  obtain ⟨ob, hob, hcl, hdt⟩ := id hj
  obtain ⟨ot, hot, _, nt, hdtt⟩ := ha
  unfold Builtin.SmallTypes.nextOf
  refine wpAny_bind (wpAny_callSpecial?_slot (name := Str.ofString "__next__") hj.typeIs F.slot_tuple_iterator_next (wpAny_call_entry F.slot_tuple_iterator_next hj.typeIs F.entry_tuple_iterator_next ?_ (F.args_tuple_iterator_next_1 _)))
  show wpAny _ _ (field (.ref j) 0 >>= _) _ _ z
  refine wpAny_bind (wpAny_field hob hdt (x := .ref a) rfl ?_); show wpAny _ _ (if (Value.ref a == Value.none) = true then _ else _) _ _ z
  rw [if_neg (show ¬ ((Value.ref a == Value.none) = true) from Bool.false_ne_true)]; show wpAny _ _ (field (.ref j) 1 >>= _) _ _ z
  refine wpAny_bind (wpAny_field hob hdt (x := .int n 0) rfl ?_); show wpAny _ _ (seqItems? (.ref a) >>= _) _ _ z
  refine wpAny_bind (wpAny_seqItems hot hdtt ?_)
  simp only [Int.toNat_natCast, hy]
  refine wpAny_bind (wpAny_rule (wpAny_bind (wpAny_setField hob hdt (by simp) ?_)))
  refine (show wpAny _ _ (newExc (.type "StopIteration") [] >>= _) _ _ _ from wpAny_bind ?_)
  simp only [newExc, newTuple]
  refine wpAny_bind (wpAny_newObj_type ?_ (by size_fits))
  refine wpAny_bind (m := firstArgMember _ _) (wpAny_of_eq (a := Value.none) (by first | rfl | (simp only [firstArgMember]; rfl)) (wpAny_newObj_type ?_ (by size_fits)))
  simp only [raiseNew]
  refine wpAny_bind (wpAny_handled ?_)
  first | rw [show A.in1.handled = none from hh] | rw [hh]
  exact wpAny_bind (wpAny_pure (wpAny_throw (k _ _ (((Heap.SameBut.update ..).extBut.push _).push _) ⟨_, Heap.get?_push_size _ rfl, rfl⟩)))
theorem enext {y old : Value} {Q : Value → Shared → Prop} (hc : IsEnum z.heap c j n old) (hj : z.heap.IsTupleIter j a n) (ha : z.heap.IsTuple a its) (hy : its[n]? = some y) (hcj : c ≠ j)
    (k : ∀ g, IsEnumOut g c j ((n : Int) + 1) y z.heap.objs.size → g.IsTupleIter j a (n + 1) → g.get? z.heap.objs.size = some { cls := .type "tuple", data := .seq #[.int n z.toks, y] } → g.objs.size = z.heap.objs.size + 1 →
      (∀ b o, b ≠ c → b ≠ j → z.heap.get? b = some o → g.get? b = some o) → Q (.ref z.heap.objs.size) { z with heap := g, toks := z.toks + 1 }) :
    wpAny (model P w) A (Builtin.«enumerate.__next__» ⟨[.ref c], []⟩) (fun fin s' => ∃ v, fin = .done (.ret v) ∧ Q v s') E z := by
  obtain ⟨q0, gg, dd, tt, oo⟩ := z
  show wpAny _ _ (field (.ref c) 2 >>= _) _ _ _
  refine wpAny_bind (wpAny_field hc rfl (x := .ref j) rfl (wpAny_bind (draw1 hj ha hy fun q1 hj1 hs1 => ?_)))
  replace hs1 : Heap.SameBut j q0 q1 := hs1
  have hc1 : IsEnum q1 c j n old := (hs1.2 c hcj).trans hc
  show wpAny _ _ (field (.ref c) 3 >>= _) _ _ ⟨q1, gg, dd, tt, oo⟩
  refine wpAny_bind (wpAny_field hc1 rfl (x := rawInt n) rfl ?_); show wpAny _ _ (field (.ref c) 4 >>= _) _ _ ⟨q1, gg, dd, tt, oo⟩
  refine wpAny_bind (wpAny_field hc1 rfl (x := .none) rfl ?_); show wpAny _ _ (mkInt n >>= _) _ _ ⟨q1, gg, dd, tt, oo⟩
  refine wpAny_bind (wpAny_mkInt ?_); show wpAny _ _ (setField (.ref c) 3 (rawInt ((n : Int) + 1)) >>= _) _ _ ⟨q1, gg, dd, tt + 1, oo⟩
  refine wpAny_bind (wpAny_setField_rec hc1 (by simp) fun q2 hc2 hs2 => ?_)
  replace hs2 : Heap.SameBut c q1 q2 := hs2
  replace hc2 : IsEnum q2 c j ((n : Int) + 1) old := hc2
  show wpAny _ _ (setField (.ref c) 4 .none >>= _) _ _ ⟨q2, gg, dd, tt + 1, oo⟩
  refine wpAny_bind (wpAny_setField_rec hc2 (by simp) fun q3 hc3 hs3 => ?_)
  replace hs3 : Heap.SameBut c q2 q3 := hs3
  replace hc3 : IsEnum q3 c j ((n : Int) + 1) old := hc3
  show wpAny _ _ (newTuple [.int n tt, y] >>= _) _ _ ⟨q3, gg, dd, tt + 1, oo⟩
  refine wpAny_bind (wpAny_newTuple ?_)
  have hc4 : IsEnum (q3.push { cls := .type "tuple", data := .seq #[.int n tt, y] }) c j ((n : Int) + 1) old := Heap.get?_push_of_some _ hc3
  generalize hq4 : q3.push { cls := .type "tuple", data := .seq #[.int n tt, y] } = q4 at hc4
  have s3 : q3.objs.size = q0.objs.size := by rw [hs3.1, hs2.1, hs1.1]
  have cl : c < q0.objs.size := Heap.lt_size hc
  have t4 : q4.get? q0.objs.size = some { cls := .type "tuple", data := .seq #[.int n tt, y] } := by rw [← hq4, ← s3]; exact Heap.get?_push_size _ rfl
  have s4 : q4.objs.size = q0.objs.size + 1 := by rw [← hq4, Heap.size_push, s3]
  have k4 : ∀ b o, b ≠ c → b ≠ j → q0.get? b = some o → q4.get? b = some o := fun b o hb hb' ho => by
    rw [← hq4]; exact Heap.get?_push_of_some _ (hs3.extBut b o hb (hs2.extBut b o hb (hs1.extBut b o hb' ho)))
  have j4 : q4.IsTupleIter j a (n + 1) := by
    rw [← hq4]; obtain ⟨o, ho, rr⟩ := (hj1.extBut hs2.extBut (Ne.symm hcj)).extBut hs3.extBut (Ne.symm hcj); exact ⟨o, Heap.get?_push_of_some _ ho, rr⟩
  show wpAny _ _ (Builtin.SmallTypes.ownedTupleIsFree (.ref c) >>= _) _ _ ⟨q4, gg, dd, tt + 1, oo⟩
  rw [s3]
  clear hq4 hc3 hs3 hc2 hs2 hc1 hs1 hj1 s3 q3 q2 q1
  refine wpAny_bind ?_
  unfold Builtin.SmallTypes.ownedTupleIsFree
  refine wpAny_bind (wpAny_field hc4 rfl (x := .none) rfl (wpAny_pure ?_))
  simp only [if_true]
  refine wpAny_bind (wpAny_rule (wpAny_bind (wpAny_field hc4 rfl (x := old) rfl (wpAny_bind (wpAny_setField_rec hc4 (by simp) fun q5 hc5 hs5 => ?_)))))
  replace hs5 : Heap.SameBut c q4 q5 := hs5
  replace hc5 : IsEnum q5 c j ((n : Int) + 1) y := hc5
  show wpAny _ _ (Builtin.SmallTypes.ownedTupleHandOut (.ref c) (.ref q0.objs.size) >>= _) _ _ ⟨q5, gg, dd, tt + 1, oo⟩
  refine wpAny_bind ?_
  unfold Builtin.SmallTypes.ownedTupleHandOut
  refine wpAny_bind (wpAny_setField_rec hc5 (by simp) fun q6 hc6 hs6 => ?_)
  replace hs6 : Heap.SameBut c q5 q6 := hs6
  replace hc6 : IsEnumOut q6 c j ((n : Int) + 1) y q0.objs.size := hc6
  refine wpAny_setField_rec hc6 (by simp) fun q7 hc7 hs7 => ?_
  replace hs7 : Heap.SameBut c q6 q7 := hs7
  replace hc7 : IsEnumOut q7 c j ((n : Int) + 1) y q0.objs.size := hc7
  have gt : q0.objs.size ≠ c := Nat.ne_of_gt cl
  exact wpAny_bind (wpAny_letGo (wpAny_pure ⟨_, rfl, k q7 hc7 (((j4.extBut hs5.extBut (Ne.symm hcj)).extBut hs6.extBut (Ne.symm hcj)).extBut hs7.extBut (Ne.symm hcj))
    (hs7.extBut _ _ gt (hs6.extBut _ _ gt (hs5.extBut _ _ gt t4))) (by rw [hs7.1, hs6.1, hs5.1, s4]) fun b o hb hb' ho => hs7.extBut b o hb (hs6.extBut b o hb (hs5.extBut b o hb (k4 b o hb hb' ho)))⟩))
theorem pnext {y old : Value} {Q : Option Value → Shared → Prop} (hc : IsEnum z.heap c j n old) (hj : z.heap.IsTupleIter j a n) (ha : z.heap.IsTuple a its) (hy : its[n]? = some y) (hcj : c ≠ j)
    (k : ∀ g, IsEnumOut g c j ((n : Int) + 1) y z.heap.objs.size → g.IsTupleIter j a (n + 1) → g.get? z.heap.objs.size = some { cls := .type "tuple", data := .seq #[.int n z.toks, y] } → g.objs.size = z.heap.objs.size + 1 →
      (∀ b o, b ≠ c → b ≠ j → z.heap.get? b = some o → g.get? b = some o) → Q (some (.ref z.heap.objs.size)) { z with heap := g, toks := z.toks + 1 }) : wpAny (model P w) A (pyNext (.ref c)) Q E z := by
  have ty : z.TypeIs (.ref c) "enumerate" := ⟨_, hc, rfl⟩
  unfold pyNext
  exact wpAny_bind (wpAny_attempt (wpAny_callSpecial?_slot (name := Str.ofString "__next__") ty F.slot_enumerate_next (wpAny_call_entry F.slot_enumerate_next ty F.entry_enumerate_next (enext hc hj ha hy hcj fun g u1 u2 u3 u4 u5 => wpAny_pure (k g u1 u2 u3 u4 u5)) (F.args_enumerate_next_1 _))))
theorem pend {old : Value} {Q : Option Value → Shared → Prop} (hh : A.handled = none) (hc : IsEnum z.heap c j n old) (hj : z.heap.IsTupleIter j a n) (ha : z.heap.IsTuple a its) (hy : its[n]? = none)
    (k : ∀ g, Heap.ExtBut j z.heap g → Q none { z with heap := g }) : wpAny (model P w) A (pyNext (.ref c)) Q E z := by
  have ty : z.TypeIs (.ref c) "enumerate" := ⟨_, hc, rfl⟩
  unfold pyNext
  refine wpAny_bind (wpAny_attempt (wpAny_callSpecial?_slot (name := Str.ofString "__next__") ty F.slot_enumerate_next (wpAny_call_entry F.slot_enumerate_next ty F.entry_enumerate_next ?_ (F.args_enumerate_next_1 _))))
  show wpAny _ _ (field (.ref c) 2 >>= _) _ _ _
  refine wpAny_bind (wpAny_field hc rfl (x := .ref j) rfl (wpAny_bind (draw0 hh hj ha hy fun g x he hx => ?_)))
  obtain ⟨o, ho, hcl⟩ := hx
  exact wpAny_bind (wpAny_isInstance (T := "StopIteration") (b := true) ⟨o, ho, hcl⟩ isSubtype_stop (wpAny_pure (k _ he)))
theorem mk_new (a : Addr) (items : Array Value) (n : Nat) (dct : Option Addr) (sl : Array (Option Value)) :
    Meets (Builtin.«enumerate.__new__» ⟨[.type "enumerate", .ref a], []⟩) (fun _ R s => s.heap.get? a = some { cls := .type "tuple", dict := dct, data := .seq items n, slots := sl } ∧
      R (.ok (.ret (.ref (s.heap.push { cls := .type "tuple_iterator", data := .fields #[.ref a, .int 0 0] }).objs.size)))
        { s with heap := (s.heap.push { cls := .type "tuple_iterator", data := .fields #[.ref a, .int 0 0] }).push { cls := .type "enumerate", data := .fields #[.none, .bool false, .ref s.heap.objs.size, rawInt 0, .none, .none] } }) :=
  .of_wp fun prog w A R s h => by
    obtain ⟨q0, gg, dd, tt, oo⟩ := s; obtain ⟨hl, h⟩ := h
    have hsub := PySem.sub_enumerate
    have hT : Heap.IsTuple (Shared.heap ⟨q0, gg, dd, tt, oo⟩) a items := ⟨_, hl, rfl, n, rfl⟩
    wp_walk using AutoSeq1.wpAny_loadPart' hl
    refine wpAny_stack_any fun st => wpAny_pure ?_
    split
    · rename_i u _ _ _ _ _
      cases (u == Value.type "enumerate") <;> (wp_walk using AutoSeq1.wpAny_loadPart' hl, wpAny_pyIter_tuple hT; exact ⟨_, rfl, h⟩)
    · wp_walk using AutoSeq1.wpAny_loadPart' hl, wpAny_pyIter_tuple hT; exact ⟨_, rfl, h⟩
theorem ecall {Q : Value → Shared → Prop} (ha : z.heap.IsTuple a its) (k : ∀ g, IsEnum g (z.heap.objs.size + 1) z.heap.objs.size 0 .none → g.IsTupleIter z.heap.objs.size a 0 → g.objs.size = z.heap.objs.size + 2 →
      (∀ b o, z.heap.get? b = some o → g.get? b = some o) → Q (.ref (z.heap.objs.size + 1)) { z with heap := g }) : wpAny (model P w) A (call (.type "enumerate") [.ref a]) Q E z := by
  obtain ⟨⟨cl, dct, dt, sl⟩, hl, hcl, nn, hdt⟩ := ha
  replace hcl : cl = .type "tuple" := hcl
  replace hdt : dt = .seq its nn := hdt
  subst hcl hdt
  refine callType_new F.called_enumerate (by decide) (F.typeCall_enumerate_1 _) (F.newCall_enumerate_1 _) (fun ob => F.args_object_init_2 ob _) F.entry_enumerate_new (mk_new a its nn dct sl) ⟨hl, ?_⟩
  have sz1 : (z.heap.push { cls := .type "tuple_iterator", data := .fields #[.ref a, .int 0 0] }).objs.size = z.heap.objs.size + 1 := Heap.size_push ..
  show _ ∧ _
  rw [sz1]
  have he : IsEnum ((z.heap.push { cls := .type "tuple_iterator", data := .fields #[.ref a, .int 0 0] }).push { cls := .type "enumerate", data := .fields #[.none, .bool false, .ref z.heap.objs.size, rawInt 0, .none, .none] }) (z.heap.objs.size + 1) z.heap.objs.size 0 .none := by
    have q := Heap.get?_push_size (z.heap.push { cls := .type "tuple_iterator", data := .fields #[.ref a, .int 0 0] }) (o := { cls := .type "enumerate", data := .fields #[.none, .bool false, .ref z.heap.objs.size, rawInt 0, .none, .none] }) rfl
    rw [sz1] at q; exact q
  exact ⟨⟨_, he, rfl⟩, k _ he ⟨_, Heap.get?_push_of_some _ (Heap.get?_push_size _ rfl), rfl, rfl⟩ (by rw [Heap.size_push, sz1]) fun b o x => Heap.get?_push_of_some _ (Heap.get?_push_of_some _ x)⟩
end
/-- the tuple at a, each item in a new pair -/
def ItE (K : PySem.W.Frag) (a : Addr) : It :=
  ⟨fun i H => ∃ (xs : List V) (x : V), SqT K H a xs ∧ xs[i]? = some x, fun i H v H' => ∃ T x, v = .ref T ∧ H T = none ∧ H' = upd H T (.tup [.int (i : Nat), x]) ∧ ∀ xs, SqT K H a xs → xs[i]? = some x, fun i H => ∃ xs : List V, SqT K H a xs ∧ xs.length ≤ i⟩
theorem turnE {P : Program} {w : World} {K : PySem.W.Frag} {elts : List Expr} {kk : Nat} {tpos : Pos} (a e it : Addr) :
    Turn P w K (.Tuple elts kk tpos) (ItE K a) [e, it] e (fun i h => (∃ old, IsEnum h e it ((i : Nat) : Int) old) ∧ h.IsTupleIter it a i ∧ e ≠ it) where
  mem := List.mem_cons_self
  obj := fun i h st b hb => by
    obtain ⟨⟨prev, he⟩, ⟨ob, ho, hcl, hdt⟩, _⟩ := st
    rcases (show b = e ∨ b = it by simpa using hb) with q | q
    · rw [q]; exact ⟨_, he, fun v r => nomatch r⟩
    · rw [q]; exact ⟨ob, ho, fun v r => by rw [hdt] at r; cases r⟩
  keep := fun i h h' st k => let ⟨⟨prev, he⟩, hi, hcj⟩ := st; ⟨⟨prev, k e (by simp) _ he⟩, hi.at fun o q => k it (by simp) o q, hcj⟩
  item := by
    intro Y hP hw hK hc i pins z σ H E I hf st hg
    subst hP hw hK
    obtain ⟨⟨prev, he⟩, hit, hcj⟩ := st
    obtain ⟨xs, x, hq, hx⟩ := hg
    obtain ⟨us, rv, pl, hz⟩ := I.tuple hq
    obtain ⟨u, hu, ru⟩ := rv.get hx
    have el : e < z.heap.objs.size := Heap.lt_size he
    have il : it < z.heap.objs.size := let ⟨_, q, _⟩ := hit; Heap.lt_size q
    refine pnext he hit pl (y := u) (by simpa using hu) hcj fun g ho hit' hT hsz hk => ⟨_, rfl, wpAny_letOwnedTupleGo_enum (s := { z with heap := g, toks := z.toks + 1 }) ho fun g2 he' sb => ?_⟩
    have hT2 : g2.get? z.heap.objs.size = some { cls := .type "tuple", data := .seq #[.int i z.toks, u] } := (sb.2 _ (Nat.ne_of_gt el)).trans hT
    have fresh : ObjOk Y.prog Y.w (upd H z.heap.objs.size (.tup [.int (i : Nat), x])) g2 z.heap.objs.size (.tup [.int (i : Nat), x]) := ⟨by show 2 ≤ sizeLine; decide, [.int i z.toks, u], .cons ⟨_, rfl⟩ (.cons ru .nil), ⟨_, hT2, rfl, _, rfl⟩⟩
    have J1 : Inv Y pins σ (upd H z.heap.objs.size (.tup [.int (i : Nat), x])) { z with heap := g2, toks := z.toks + 1 } :=
      I.turnedNew (ch := [e, it]) (fun b ob hb q => (sb.2 b (fun r => hb (by simp [r]))).trans (hk b ob (fun r => hb (by simp [r])) (fun r => hb (by simp [r])) q)) hf (Nat.le_refl _) fresh
    refine ⟨.ref z.heap.objs.size, _, J1, rfl, ⟨_, x, rfl, I.hok.fresh (Nat.le_refl _), rfl, fun ys hy => by rw [I.tuple_inj hy hq]; exact hx⟩, ⟨⟨u, ?_⟩, hit'.at fun o q => (sb.2 it (Ne.symm hcj)).trans q, hcj⟩, fun b hb => ?_⟩
    · rw [show ((i + 1 : Nat) : Int) = (i : Int) + 1 by omega]; exact he'
    · have hlt : b < z.heap.objs.size := by
        rcases (show b = e ∨ b = it by simpa using hb) with q | q
        · rw [q]; exact el
        · rw [q]; exact il
      rw [upd_ne (Nat.ne_of_lt hlt)]
      exact (hf b hb).1
  done := by
    intro Y hP hw hK hc i pins z σ H E I hf st hg
    subst hP hw hK
    obtain ⟨⟨prev, he⟩, hit, hcj⟩ := st
    obtain ⟨xs, hq, hx⟩ := hg
    obtain ⟨us, rv, pl, hz⟩ := I.tuple hq
    obtain ⟨f0, f1, f2, f3, f4, f5⟩ := hf it (by simp)
    have ln := rv.length
    exact pend (I.ok.hd hc) he hit pl (by simp; omega) fun g eb => ⟨rfl, I.turned (t' := z.toks) (fun b o hb q => eb b o hb q) f0 f1 f3 f4 f5⟩
  self := fun A i z Q E st h => let ⟨⟨_, he⟩, _⟩ := st; wpAny_pyIter_enum he h
def iEnumT (K : PySem.W.Frag) (ta : TA) : TI := fun σ H R => ta σ H fun vs H1 => ∃ a xs, vs = [.ref a] ∧ SqT K H1 a xs ∧ R (ItE K a) H1
theorem pi_enumT {X : Cx} {e : Expr} {ta : TA} {p pos tpos : Pos} {elts : List Expr} {kk : Nat} (hg : Gl X "enumerate") (hm : X.mg "enumerate" = none) (ha : PA X [e] ta) (hs : starEach [e] X.env = [(false, eval e X.env)] := by rfl) :
    PI X (.Tuple elts kk tpos) (.Call (.Name "enumerate" p) [e] [] pos) (iEnumT X.K ta) := by
  refine ⟨fun pins z σ H R I h => Call_ (ld_blt I hg hm boot_enumerate (PyProof.Rows.callWith_type1 (thn (ha.run pos pins z σ H _ I h) fun us s1 ⟨vs, H1, I1, r1, q1⟩ => ?_) hs rfl))⟩
  obtain ⟨a, xs, ex, hq, q⟩ := q1
  subst ex
  cases r1 with
  | cons r rr =>
    cases rr
    cases r
    obtain ⟨us, rv, pl, hz⟩ := I1.tuple hq
    refine ecall pl fun g he hit hsz hk => wpAny_pyIter_enum he ?_
    have I2 : Inv X pins σ H1 { s1 with heap := g } := I1.kept (t' := s1.toks) hk
    refine ⟨s1.heap.objs.size + 1, [s1.heap.objs.size + 1, s1.heap.objs.size], _, _, H1, rfl, I2, turnE a (s1.heap.objs.size + 1) s1.heap.objs.size, ⟨⟨.none, he⟩, hit, Nat.succ_ne_self _⟩, fun b hb => ?_, q⟩
    have hle : s1.heap.objs.size ≤ b := by
      rcases (show b = s1.heap.objs.size + 1 ∨ b = s1.heap.objs.size by simpa using hb) with z | z
      · rw [z]; exact Nat.le_add_right _ _
      · rw [z]; exact Nat.le_refl _
    exact I1.fpOk hle (I1.hok.fresh hle)
end DE

set_option Elab.async false
set_option linter.all false
set_option maxRecDepth 100000
set_option maxHeartbeats 4000000
/-! defs that run where no repr is going on -/
namespace DD
open PySem PySem.Spec PyProof.Rows L2
section
variable {P : Program} {w : World} {K : PySem.W.Frag} {mg : Str → Option Value} {base : Heap} {CX : CXT} {k : Nat} {f : Addr} {fd : FuncData} {ps : List Str} {sp : Sp}
structure FnG (P : Program) (w : World) (K : PySem.W.Frag) (mg : Str → Option Value) (base : Heap) (CX : CXT) (k : Nat) (f : Addr) (fd : FuncData) (ps : List Str) (sp : Sp) : Prop where
  len : ∀ xs H Q E, sp xs H Q E → xs.length = ps.length
  run : ∀ (A : Around) (up : List Env) (z : Shared) (H : Hp) (args : Args) (us : List Value) (xs : List V) (Q : VK) (E : XK), A.guards = some [] → Room k A → Env0 P w K mg base A up z H → BindsTo z fd args (ps.zip us) → Vals xs us → sp xs H Q E →
    codeAny (model P w) A (.call (.ref f) args) (CR CX up P w H z Q E) z
theorem FnG.mono {j : Nat} (F : FnG P w K mg base CX j f fd ps sp) (h : j ≤ k) : FnG P w K mg base CX k f fd ps sp := ⟨F.len, fun A up z H args us xs Q E hg hr => F.run A up z H args us xs Q E hg (hr.mono h)⟩
theorem fnOk_g (F : FnOk P w K mg base CX k f fd ps sp) : FnG P w K mg base CX k f fd ps sp := ⟨F.len, fun A up z H args us xs Q E _ => F.run A up z H args us xs Q E⟩
/-- a def by its body -/
theorem fnG_of {name qual : Str} {params : Arguments} {body : List Stmt} {scope : Scope} {dV kV doc pm cdv ct oc : Value} {an od : Option Addr} {osl : Array (Option Value)} {N : List Str}
    (lk : K.lookup f = some ⟨oc, od, .func (PySem.W.fnOf name qual params body scope dV kV doc pm an cdv ct), osl⟩) (hcode : PySem.W.codeIn K cdv qual = true) (S : FnScope N ps scope) (len : ∀ xs H Q E, sp xs H Q E → xs.length = ps.length)
    (hb : ∀ (A : Around) (up : List Env) (z : Shared) (H : Hp) (xs : List V) (Q : VK) (E : XK), A.guards = some [] → Room k (A.deeper (envOfC qual scope z.heap.objs.size f cdv)) → sp xs H Q E → ∃ t, PSs (cxOf CX P w K mg base N qual scope f cdv A up z H E) body t ∧ t { nx := fun _ H' => Q .non H', rt := Q } (start N xs) H) :
    FnG P w K mg base CX (k + 1) f (PySem.W.fnOf name qual params body scope dV kV doc pm an cdv ct) ps sp := by
  refine ⟨len, fun A up z H args us xs Q E hg hr e0 hbi r hs => ?_⟩
  have KZ : K.In z.heap := e0.mod.kin.keeps fun b o e => (e0.bs b o e).1
  have nl : z.heap.NoLimit := e0.mod.nolimit.keeps fun b o e => (e0.bs b o e).1
  have hk : ∀ y ∈ ps.zip us, scope.names.lookup y.1 = some .local ∨ (scope.names.lookup y.1 = some .cell ∧ ((cellsFrom (z.heap.objs.size + 1) scope.names []).lookup y.1).isSome = true) := fun ⟨n, v⟩ hy => (S.par n (List.of_mem_zip hy).1).elim .inl fun q => .inr ⟨q, PySem.W.cellsFrom_some _ _ _ (.inl q)⟩
  refine codeAny_call_function hr.depth (KZ _ _ lk) rfl S.co S.gen rfl (PySem.W.codeRec_of KZ hcode) (hbi _ _ _ _ (wpAny_newFunctionEnv_cells S.kind hk fun env he z1 x => ?_))
  subst he
  refine ⟨nl.keeps x.toInCall.keep, codeAny_func ?_⟩
  obtain ⟨t, ht, hq⟩ := hb A up z H xs Q E hg (hr.deeper _) hs
  have J0 : Inv (cxOf CX P w K mg base N qual scope f cdv A up z H E) [] (start N xs) H z1 := inv_start S hr.hd e0 (len _ _ _ _ hs) r x
  refine wpAny_mono (ht.run [] z1 (start N xs) H _ J0 hq) (fun fl z2 hz => ?_) fun e z2 hz => hz
  cases fl with
  | ret u => obtain ⟨v, σ', H', J, rv, q⟩ := hz; exact ⟨v, H', J.os, J.bare, J.base, J.hok, rv, q⟩
  | next => obtain ⟨σ', H', J, q⟩ := hz; exact ⟨V.non, H', J.os, J.bare, J.base, J.hok, rfl, q⟩
  | brk => obtain ⟨_, _, _, q⟩ := hz; exact q.elim
  | cont => obtain ⟨_, _, _, q⟩ := hz; exact q.elim
theorem fun_okG {x qual : Str} {st : Stmt} {N : List Str} (F : Fun K x qual st f fd) (S : FnScope N ps (defScope st)) (len : ∀ xs H Q E, sp xs H Q E → xs.length = ps.length)
    (hb : ∀ (cdv : Value) (A : Around) (up : List Env) (z : Shared) (H : Hp) (xs : List V) (Q : VK) (E : XK), A.guards = some [] → Room k (A.deeper (envOfC qual (defScope st) z.heap.objs.size f cdv)) → sp xs H Q E →
      ∃ t, PSs (cxOf CX0 P w K mg base N qual (defScope st) f cdv A up z H E).nox (defBody st) t ∧ t { nx := fun _ H' => Q .non H', rt := Q } (start N xs) H) : FnG P w K mg base CX0 (k + 1) f fd ps sp := by
  obtain ⟨oc, od, kV, doc, pm, an, cdv, ct, osl, rfl, lk, hcd⟩ := F.ex
  refine fnG_of lk hcd S len fun A up z H xs Q E hg hr hsp => ?_
  obtain ⟨t, h, q⟩ := hb cdv A up z H xs Q E hg hr hsp
  exact ⟨t, h.nox, q⟩
end
section
variable {X : Cx} {CX : CXT} {k : Nat} {f C : Addr} {fd : FuncData} {ps : List Str} {sp : Sp} {dvs : List V} {ds : List Value} {E : XK} {x m : Str} {p pos apos : Pos} {e o : Expr} {es : List Expr} {ta : TE} {t : TA}
theorem runG {pins : List (Addr × Obj)} {σ : L2.St} {H : Hp} {z : Shared} {Q : VK} {us : List Value} {xs : List V} (hG : X.A.guards = some []) (F : FnG X.prog X.w X.K X.mg X.base CX k f fd ps sp) (hr : Room k X.A) (hb : Binds X.K fd ps ds) (hd : Vals dvs ds) (hx : Passes CX X E)
    (I : Inv X pins σ H z) (r : Vals xs us) (h : sp (xs ++ dvs) H Q E) : wpAny (model X.prog X.w) X.A (call (.ref f) us) (EP X pins σ Q) X.xe z := by
  have r2 : Vals (xs ++ dvs) (us ++ ds) := r.append hd
  refine wpAny_call (codeAny_mono (F.run X.A X.stack z H ⟨us, []⟩ (us ++ ds) (xs ++ dvs) Q E hG hr I.env0 (hb z us I.kIn (by rw [← r2.length]; exact F.len _ _ _ _ h)) r2 h) fun r z' hq => ?_)
  cases r with
  | error e => exact hx pins σ H z e z' I hq
  | ok fl => cases fl with
    | ret u => exact I.after hq
    | next => exact hq.elim
    | brk => exact hq.elim
    | cont => exact hq.elim
theorem pe_callG (hG : X.A.guards = some []) (F : FnG X.prog X.w X.K X.mg X.base CX k f fd ps sp) (hr : Room k X.A) (hg : Gl X x) (hm : X.mg x = some (.ref f)) (hk : PySem.W.keepIn X.K (.ref f) = true) (hb : Binds X.K fd ps ds) (hd : Vals dvs ds) (hx : Passes CX X E) (ha : PA X (e :: es) t)
    (hdb : (x == ("__debug__" : Str)) = false := by decide) (he : starEach (e :: es) X.env = (false, eval e X.env) :: starEach es X.env := by rfl) (hpl : (backTo pos (starEach es X.env)).any (·.1) = false := by rfl) : PE X (.Call (.Name x p) (e :: es) [] pos) (tCall sp dvs E t) :=
  ⟨fun pins z σ H Q I h => wpAny_Call_Name_kw (ld_glob I hg hm (PySem.W.callWith_K (h₀ := X.base) I.ok.mod.kin hk (thn (ha.run pos pins z σ H _ I h) fun us z1 ⟨xs, H1, I1, r, q⟩ => ⟨I1.kIn, runG hG F hr hb hd hx I1 r q⟩) he hpl) hdb)⟩
/-- repr of data -/
def rRepr (K : PySem.W.Frag) : List V → Hp → VK → Prop := fun xs H Q => ∃ (x : V) (d : PyData), xs = [x] ∧ Dp K H x d ∧ d.showable = true ∧ d.hasDict = false ∧ d.depth ≤ 100 ∧ d.shown.length ≤ sizeLine ∧ Q (.str d.shown) H
theorem call_reprD {k : Nat} (hG : X.A.guards = some []) (hr : Room k X.A) : CallR X (.builtin "repr") (rRepr X.K) := by
  intro pins z σ H xs us Q I r h
  obtain ⟨x, d, rfl, hd, hs, hn, hdp, hl, q⟩ := h
  obtain ⟨u, rfl, ru⟩ := vals1 r
  obtain ⟨as, hrd⟩ := Dp.reads I d x u hd ru
  have hu : X.A.units + (d.depth + 1) < cLine := by have := hr.un; omega
  cases hrd with
  | none => exact PySem.P.repr_of_none ⟨.str _, H, I.tok _, ⟨_, rfl⟩, q⟩
  | bool b => exact PySem.P.repr_of_bool ⟨.str _, H, I.tok _, ⟨_, rfl⟩, q⟩
  | int i t => exact PySem.P.repr_of_int (of_decide_eq_true hs) ⟨.str _, H, I.tok _, ⟨_, rfl⟩, q⟩
  | str y t => exact PySem.P.repr_of_str ⟨.str _, H, I.tok _, ⟨_, rfl⟩, q⟩
  | list h1 h2 h3 h4 => exact PySem.repr_of_reads' (.list h1 h2 h3 h4) hs (fun e => by rw [hn] at e; cases e) hG hu (fun _ _ e => e) (fun g tk tk2 hk => ⟨.str _, H, I.kept hk, ⟨_, rfl⟩, q⟩) hl
  | tuple h1 h2 h3 h4 => exact PySem.repr_of_reads' (.tuple h1 h2 h3 h4) hs (fun e => by rw [hn] at e; cases e) hG hu (fun _ _ e => e) (fun g tk tk2 hk => ⟨.str _, H, I.kept hk, ⟨_, rfl⟩, q⟩) hl
  | dict h1 h2 h3 h4 h5 => cases hn
end
/-! ### the law's own call -/
theorem lawG {P : Program} {w : World} {K : PySem.W.Frag} {mg mb : Str → Option Value} {CX : CXT} {k : Nat} {fa a : Addr} {fd : FuncData} {x : Str} {sp : Sp} {z : Shared} {vs : List Value} {ns : List Int} (KX : K.In z.heap) (hns : z.heap.Ns mainGlobals mg) (hb : z.heap.Ns builtinsNs mb)
    (hbb : ∀ x : Str, x ≠ "__name__" → mb x = bootBuiltins x) (hlim : z.heap.NoLimit) (hg : z.gens = #[]) (ha : z.heap.get? a = some { cls := .type "list", data := .seq vs.toArray }) (hi : IntsAre vs ns) (hl : ns.length ≤ sizeLine) (hr : Room k callerA)
    (F : ∀ base : Heap, K.In base → base.Ns mainGlobals mg → FnG P w K mg base CX k fa fd [x] sp) (hbind : ∀ (s : Shared) (u : Value), BindsTo s fd ⟨[u], []⟩ [(x, u)]) (hsp : ∀ H : Hp, Only H → SqL K H a (ns.map V.int) → sp [.ref a] H (fun v _ => v = .bl true) fun _ _ _ => False)
    (hCX : ∀ H e s', CX [] H z (fun _ _ _ => False) e s' → False) : codeAny (model P w) callerA (.call (.ref fa) ⟨[.ref a], []⟩) (fun r s' => r = .ok (.ret (.bool true)) ∧ OldK z.heap s'.heap ∧ s'.os = z.os ∧ AllBare s'.gens) z := by
  have rv := vals_ints hi
  have lv := hi.length
  have main : ∀ H : Hp, Only H → SqL K H a (ns.map V.int) → HOk P w H z.heap → (∀ b, H b ≠ none → b = a) → (H a ≠ none → K.lookup a = none) → codeAny (model P w) callerA (.call (.ref fa) ⟨[.ref a], []⟩) (fun r s' => r = .ok (.ret (.bool true)) ∧ OldK z.heap s'.heap ∧ s'.os = z.os ∧ AllBare s'.gens) z := by
    intro H hO hS hok hA hK
    have notA : ∀ {b : Addr} {o : Obj} {es : Array DictEntry} {ep : Nat}, z.heap.get? b = some o → o.data = .dict es ep → H b = none := fun {b o es ep} e d => by
      cases hq : H b with
      | none => rfl
      | some u =>
        have eb : b = a := hA b (by rw [hq]; simp)
        rw [eb, ha] at e; cases e
        cases (show Data.seq vs.toArray _ = Data.dict es ep from d)
    have carry : ∀ {b : Addr} {m : Str → Option Value}, z.heap.Ns b m → (hidT z.heap H).Ns b m := fun {b m} ⟨o, es, ep, e, d, r⟩ => ⟨o, es, ep, hidT_get e (notA e d), d, r⟩
    have inB : K.In (hidT z.heap H) := fun b o e => hidT_get (KX b o e) (by
      cases hq : H b with
      | none => rfl
      | some u =>
        have eb : b = a := hA b (by rw [hq]; simp)
        rw [eb] at e hq
        rw [hK (by rw [hq]; simp)] at e; cases e)
    have md : Mod K mg (hidT z.heap H) := ⟨inB, carry hns, ⟨mb, carry hb, hbb⟩, let ⟨mc, h1, h2⟩ := hlim; ⟨mc, carry h1, h2⟩⟩
    have ev : Env0 P w K mg (hidT z.heap H) callerA [] z H := ⟨rfl, md, fun b o e => of_hidT e, Nat.le_of_eq (hidT_size _ _), trivial, fun b hb => absurd (show b ∈ ([] : List Addr) from hb) (by simp), hok, .of_eq hg⟩
    refine codeAny_mono ((F _ inB (carry hns)).run callerA [] z H ⟨[.ref a], []⟩ [.ref a] [.ref a] _ _ rfl hr ev (hbind z (.ref a)) (.cons rfl .nil) (hsp H hO hS)) fun r s' h => ?_
    cases r with
    | error e => exact (hCX H e s' h).elim
    | ok fl => cases fl with
      | next => exact h.elim
      | brk => exact h.elim
      | cont => exact h.elim
      | ret u =>
        obtain ⟨v, H', os, bare, un, hok', r', q⟩ := h
        cases (show v = .bl true from q)
        cases (show u = Value.bool true from r')
        refine ⟨rfl, OldK.of_keep fun b o e => ?_, os, bare⟩
        cases hq : H b with
        | none => exact un.keep b o e hq (fun y => absurd (show b ∈ ([] : List Addr) from y) (by simp)) (by simp)
        | some u => rcases hO b with y | ⟨ob, xs, y⟩
                    · rw [hq] at y; cases y
                    · obtain ⟨e1, _⟩ := hok b _ y
                      obtain ⟨e2, _⟩ := hok' b _ (un.frzs b ob _ y)
                      rw [e] at e1; cases e1
                      exact e2
  cases hk : K.lookup a with
  | some o =>
    have e := KX a o hk
    rw [ha] at e
    cases e
    exact main (fun _ => none) (fun _ => .inl rfl) (.inr ⟨_, vs.toArray, _, hk, rfl, rfl, rfl, by rw [List.size_toArray, lv]; exact hl, by simpa using rv⟩) (fun b u y => nomatch (show (none : Option HO) = some u from y)) (fun b y => absurd rfl y) fun y => absurd rfl y
  | none =>
    refine main (fun b => if b = a then some (.frz { cls := .type "list", data := .seq vs.toArray } (.lst (ns.map V.int))) else none) (fun b => ?_) (.inl (.inr ⟨{ cls := .type "list", data := .seq vs.toArray }, if_pos rfl⟩)) (fun b u y => ?_) (fun b y => ?_) fun _ => hk
    all_goals by_cases hb : b = a
    · exact .inr ⟨_, _, if_pos hb⟩
    · exact .inl (if_neg hb)
    · cases (if_pos hb).symm.trans y
      subst hb
      exact ⟨ha, by rw [List.length_map]; exact hl, vs, _, rv, ha⟩
    · cases (if_neg hb).symm.trans y
    · exact hb
    · exact absurd (if_neg hb) y
theorem walkG {l : PySem.W.OpenLaw} {n k : Nat} {q : Program} {loose : List Str} {XP : (Str → Option Value) → Heap → Prop} {YP : World → Heap → Prop} {d : DefRec} {K : Params → PySem.W.Frag} {CX : World → CXT} {sp : World → Sp} {x : Str} (hn : l.most = some n) (hn2 : n ≤ sizeLine) (hdf : d.params.defaults = [])
    (hr : Room k callerA) (hY : ∀ (w : World) (h : Heap), YP w h → (K w.params).In h)
    (F : ∀ (w : World) (mg : Str → Option Value) (fa : Addr) (h : Heap), (K w.params).In h → h.Ns mainGlobals mg → mg d.name = some (.ref fa) → ∃ fd : FuncData, (∀ (s : Shared) (u : Value), BindsTo s fd ⟨[u], []⟩ [(x, u)]) ∧ ∀ base : Heap, (K w.params).In base → base.Ns mainGlobals mg → FnG l.prog w (K w.params) mg base (CX w) k fa fd [x] (sp w))
    (hsp : ∀ (w : World) (H : Hp) (a : Addr) (ns : List Int), ns.length ≤ n → Only H → SqL (K w.params) H a (ns.map V.int) → sp w [.ref a] H (fun v _ => v = .bl true) fun _ _ _ => False) (hCX : ∀ (w : World) (H : Hp) (s : Shared) (e : Value) (s' : Shared), CX w [] H s (fun _ _ _ => False) e s' → False) :
    PySem.W.WalkO q loose XP YP l.row.toRowW d [] (fun f vs => PySem.call f vs) := by
  refine Att.attach_call hn hdf fun w s0 s1 mg mb fa o pm cd doc a vs ns G Y ho hd hcd hmg hobj hints hlen hg => ?_
  obtain ⟨fd, hb, hF⟩ := F w mg fa _ (hY w _ Y) G.T.g hmg
  exact lawG (hY w _ Y) G.T.g G.T.b G.T.builtins G.T.nolimit hg hobj hints (Nat.le_trans hlen hn2) hr hF hb (fun H hO hS => hsp w H a ns hlen hO hS) fun H e s' => hCX w H s1 e s'
end DD

set_option Elab.async false
set_option linter.all false
set_option maxRecDepth 100000
set_option maxHeartbeats 4000000
namespace DD
open PySem PySem.Spec PyProof.Rows L2
/-! ### a def's promise -/
section
variable {P : Program} {w : World} {K : PySem.W.Frag} {mg : Str → Option Value} {base : Heap} {k : Nat} {f : Addr} {fd : FuncData} {N ps : List Str} {x qual : Str} {st : Stmt} {Sp : SpecD}
def rho0 (N : List Str) (ds : List DV) : Rho := ds.map Option.some ++ List.replicate (N.length - ds.length) Option.none
theorem spD_len (len : ∀ ds M R, Sp ds M R → ds.length = ps.length) : ∀ vs H Q E, spD K Sp vs H Q E → vs.length = ps.length := fun vs H Q E ⟨F, N, M, ds, R, w, r, hs, q⟩ => by rw [r.length]; exact len ds M R hs
theorem fnD_core {H : Hp} {vs : List V} {Q : VK} {E : XK} {X : Cx} {body : List Stmt} (h : spD K Sp vs H Q E)
    (hb : ∀ ds M R, Sp ds M R → ∃ t, PSs X body t ∧ XS K t (rho0 N ds) M { nx := fun _ M' => R .non M', rt := R }) : ∃ t, PSs X body t ∧ t { nx := fun _ H' => Q .non H', rt := Q } (L2.start N vs) H := by
  obtain ⟨F, N0, M, ds, R, w, r, hs, q⟩ := h
  obtain ⟨t, ht, hx⟩ := hb ds M R hs
  refine ⟨t, ht, hx N0 F (L2.start N vs) H _ ⟨w, ?_⟩ ⟨fun F' σ' H' ρ' M' e h1 S => q .non .non M' F' H' e h1 S.w .non, fun v F' H' d M' e h1 w1 r1 => q v d M' F' H' e h1 w1 r1, fun _ _ _ _ _ _ z => z.elim, fun _ _ _ _ _ _ z => z.elim⟩⟩
  have := EnvD.start r (N.length - ds.length)
  unfold L2.start rho0
  rw [r.length]
  exact this
theorem fnD (F : Fun K x qual st f fd) (S : FnScope N ps (defScope st)) (len : ∀ ds M R, Sp ds M R → ds.length = ps.length)
    (hb : ∀ (cdv : Value) (A : Around) (up : List Env) (z : Shared) (H : Hp) (E : XK), Room k (A.deeper (envOfC qual (defScope st) z.heap.objs.size f cdv)) → ∀ ds M R, Sp ds M R →
      ∃ t, PSs (cxOf CX0 P w K mg base N qual (defScope st) f cdv A up z H E).nox (defBody st) t ∧ XS K t (rho0 N ds) M { nx := fun _ M' => R .non M', rt := R }) : FnOk P w K mg base CX0 (k + 1) f fd ps (spD K Sp) :=
  F.ok S (spD_len len) fun cdv A up z H vs Q E hr h => fnD_core h fun ds M R hs => hb cdv A up z H E hr ds M R hs
theorem fnDG (F : Fun K x qual st f fd) (S : FnScope N ps (defScope st)) (len : ∀ ds M R, Sp ds M R → ds.length = ps.length)
    (hb : ∀ (cdv : Value) (A : Around) (up : List Env) (z : Shared) (H : Hp) (E : XK), (A.deeper (envOfC qual (defScope st) z.heap.objs.size f cdv)).guards = some [] → Room k (A.deeper (envOfC qual (defScope st) z.heap.objs.size f cdv)) → ∀ ds M R, Sp ds M R →
      ∃ t, PSs (cxOf CX0 P w K mg base N qual (defScope st) f cdv A up z H E).nox (defBody st) t ∧ XS K t (rho0 N ds) M { nx := fun _ M' => R .non M', rt := R }) : FnG P w K mg base CX0 (k + 1) f fd ps (spD K Sp) :=
  fun_okG F S (spD_len len) fun cdv A up z H vs Q E hg hr h => fnD_core h fun ds M R hs => hb cdv A up z H E hg hr ds M R hs
end
/-! ### either of two rules -/
theorem pe_or2 {X : Cx} {e : Expr} {t u : TE} (h1 : PE X e t) (h2 : PE X e u) : PE X e (tOr2 t u) := ⟨fun pins s σ H Q I h => h.elim (h1.run pins s σ H Q I) (h2.run pins s σ H Q I)⟩
theorem callR_or {X : Cx} {f : Value} {r r' : List V → Hp → VK → Prop} (h1 : CallR X f r) (h2 : CallR X f r') : CallR X f (fun xs H Q => r xs H Q ∨ r' xs H Q) := fun pins s σ H xs us Q I r h => h.elim (h1 pins s σ H xs us Q I r) (h2 pins s σ H xs us Q I r)
/-! ### operators -/
def rAddS : R2 := fun x y H Q => ∃ i j, x = .str i ∧ y = .str j ∧ i.length + j.length ≤ sizeLine ∧ Q (.str (i ++ j)) H
def rAddU (K : PySem.W.Frag) : R2 := fun x y H Q => rI0 (fun i j => .int (i + j)) x y H Q ∨ (rAddS x y H Q ∨ (rCatA K x y H Q ∨ rCat x y H Q))
theorem op_addU {X : Cx} : OpR X (binaryOp .Add) (rAddU X.K) := OpR.or op_add (OpR.or op_add_str (OpR.or op_catA op_cat))
def rMulU (K : PySem.W.Frag) : R2 := fun x y H Q => rI CMul (fun i j => .int (i * j)) x y H Q ∨ (rRepT K x y H Q ∨ rRep x y H Q)
theorem op_mulU {X : Cx} : OpR X (binaryOp .Mult) (rMulU X.K) := OpR.or op_mul (OpR.or op_repT op_rep)
section
variable {K : PySem.W.Frag} {M : Ms} {x y z d : DV} {ds es : List DV} {R : DV → Ms → Prop}
theorem rv_add {i j : Int} : RV K (rAddU K) (.int i) (.int j) M (.int (i + j)) := fun N F u v H w h1 h2 Q q => .inl ⟨i, j, h1.int_of, h2.int_of, q _ _ M F H (Evl.Ex.refl F) ⟨rfl, rfl⟩ w (.int _)⟩
theorem rv_addS {i j : Str} (h : i.length + j.length ≤ 100000) : RV K (rAddU K) (.str i) (.str j) M (.str (i ++ j)) := fun N F u v H w h1 h2 Q q => .inr (.inl ⟨i, j, h1.str_of, h2.str_of, Evl.sz_of h, q _ _ M F H (Evl.Ex.refl F) ⟨rfl, rfl⟩ w (.str _)⟩)
theorem rv_addT (h : ds.length + es.length ≤ 100000) : RV K (rAddU K) (.tup ds) (.tup es) M (.tup (ds ++ es)) := fun N F u v H w h1 h2 Q q => .inr (.inr (.inl (by
  obtain ⟨a, xs, rfl, ha, ra⟩ := h1.tup_of
  obtain ⟨b, ys, rfl, hb, rb⟩ := h2.tup_of
  refine ⟨a, b, xs, ys, rfl, rfl, Evl.ex_t w.fr ha, Evl.ex_t w.fr hb, Evl.sz_of (by rw [ra.length, rb.length]; exact h), fun e => ?_, fun _ e => ?_, fun _ _ p hp => ?_⟩
  · subst e; cases ra; exact q _ _ M F H (Evl.Ex.refl F) ⟨rfl, rfl⟩ w (.tup hb rb)
  · subst e; cases rb; exact q _ _ M F H (Evl.Ex.refl F) ⟨by rw [List.append_nil], rfl⟩ w (.tup ha ra)
  · have hn := w.fresh hp
    exact q _ _ M _ _ (ex_new hn) ⟨rfl, rfl⟩ (w.new hp _) (.tup (SqT.of upd_same) ((ra.append rb).mono (ex_new hn))))))
theorem rv_addL (h : ds.length + es.length ≤ 100000) : RV K (rAddU K) (.lst ds) (.lst es) M (.lst (ds ++ es)) := fun N F u v H w h1 h2 Q q => .inr (.inr (.inr (by
  obtain ⟨a, xs, rfl, ha, ra⟩ := h1.lst_of
  obtain ⟨b, ys, rfl, hb, rb⟩ := h2.lst_of
  refine ⟨a, b, xs, ys, rfl, rfl, w.fr _ _ ha, w.fr _ _ hb, Evl.sz_of (by rw [ra.length, rb.length]; exact h), fun p hp => ?_⟩
  have hn := w.fresh hp
  exact q _ _ M _ _ (ex_new hn) ⟨rfl, rfl⟩ (w.new hp _) (.lst upd_same ((ra.append rb).mono (ex_new hn))))))
theorem rv_mul {i j : Int} (h : CMul i j) : RV K (rMulU K) (.int i) (.int j) M (.int (i * j)) := fun N F u v H w h1 h2 Q q => .inl ⟨i, j, h1.int_of, h2.int_of, h, q _ _ M F H (Evl.Ex.refl F) ⟨rfl, rfl⟩ w (.int _)⟩
/-- int op int, an int -/
theorem rv_I0 {g : Int → Int → Int} {i j : Int} : RV K (rI0 fun i j => .int (g i j)) (.int i) (.int j) M (.int (g i j)) := fun N F u v H w h1 h2 Q q => ⟨i, j, h1.int_of, h2.int_of, q _ _ M F H (Evl.Ex.refl F) ⟨rfl, rfl⟩ w (.int _)⟩
theorem rv_B0 {g : Int → Int → Bool} {i j : Int} : RV K (rI0 fun i j => .bl (g i j)) (.int i) (.int j) M (.bl (g i j)) := fun N F u v H w h1 h2 Q q => ⟨i, j, h1.int_of, h2.int_of, q _ _ M F H (Evl.Ex.refl F) ⟨rfl, rfl⟩ w (.bl _)⟩
theorem rv_I {C : Int → Int → Prop} {g : Int → Int → Int} {i j : Int} (h : C i j) : RV K (rI C fun i j => .int (g i j)) (.int i) (.int j) M (.int (g i j)) := fun N F u v H w h1 h2 Q q => ⟨i, j, h1.int_of, h2.int_of, h, q _ _ M F H (Evl.Ex.refl F) ⟨rfl, rfl⟩ w (.int _)⟩
theorem ru_neg {i : Int} : RU K (rU fun i => .int (-i)) (.int i) M (.int (-i)) := fun N F u H w h1 Q q => ⟨i, h1.int_of, q _ _ M F H (Evl.Ex.refl F) ⟨rfl, rfl⟩ w (.int _)⟩
/-! ### data of the library's own kind -/
mutual
def toPy : DV → Option PyData
  | .non => some .none
  | .bl b => some (.bool b)
  | .int i => some (.int i)
  | .str s => some (.str s)
  | .tup xs => (toPyA xs).map .tuple
  | .lst xs => (toPyA xs).map .list
  | .ins _ _ => none
  | .rd _ => none
  | .raw _ => none
  | .dic => none
def toPyA : List DV → Option (List PyData)
  | [] => some []
  | x :: xs => match toPy x, toPyA xs with
    | some y, some ys => some (y :: ys)
    | _, _ => none
end
mutual
theorem Rp.dp {F H : Hp} (e : Ex F H) : ∀ {v : V} {d : DV} {p : PyData}, Rp K F v d → toPy d = some p → Dp K H v p
  | _, _, _, .non, h => by cases h; exact .non
  | _, _, _, .bl b, h => by cases h; exact .bl b
  | _, _, _, .int i, h => by cases h; exact .int i
  | _, _, _, .str s, h => by cases h; exact .str s
  | _, _, _, .raw v, h => by cases h
  | _, _, _, .ins _ _, h => by cases h
  | _, _, _, .rd _ _, h => by cases h
  | _, _, _, .dic _, h => by cases h
  | _, _, p, .tup (ds := ds) hs r, h => by
    unfold toPy at h
    cases hq : toPyA ds with
    | none => rw [hq] at h; cases h
    | some ps => rw [hq] at h; cases h; exact .tup (Evl.ex_t e hs) (RpA.dp e r hq)
  | _, _, p, .lst (ds := ds) hs r, h => by
    unfold toPy at h
    cases hq : toPyA ds with
    | none => rw [hq] at h; cases h
    | some ps => rw [hq] at h; cases h; exact .lst (SqL.of (e _ _ hs)) (RpA.dp e r hq)
theorem RpA.dp {F H : Hp} (e : Ex F H) : ∀ {vs : List V} {ds : List DV} {ps : List PyData}, RpA K F vs ds → toPyA ds = some ps → DpAll K H vs ps
  | _, _, _, .nil, h => by cases h; exact .nil
  | _, _, ps, .cons (d := d) (ds := ds) h1 t, h => by
    unfold toPyA at h
    cases hq : toPy d with
    | none => rw [hq] at h; cases h
    | some y => cases hq2 : toPyA ds with
      | none => rw [hq, hq2] at h; cases h
      | some ys => rw [hq, hq2] at h; cases h; exact .cons (Rp.dp e h1 hq) (RpA.dp e t hq2)
end
def rEqU (K : PySem.W.Frag) : R2 := fun x y H Q => rEq x y H Q ∨ rEqD K x y H Q
def rNeU (K : PySem.W.Frag) : R2 := fun x y H Q => rNe x y H Q ∨ rNeD K x y H Q
theorem op_eqU {X : Cx} {k : Nat} (hr : Room k X.A) : OpR X (compareOp .Eq) (rEqU X.K) := OpR.or op_eq (op_eqD hr.units)
theorem op_neU {X : Cx} {k : Nat} (hr : Room k X.A) : OpR X (compareOp .NotEq) (rNeU X.K) := OpR.or op_ne (op_neD hr.units)
theorem rv_eqD {p q : PyData} (hx : toPy x = some p) (hy : toPy y = some q) (sx : SeqAt.shaped p = true) (sy : SeqAt.shaped q = true) : RV K (rEqU K) x y M (.bl (PyData.eqv p q)) := fun N F u v H w h1 h2 Q k => .inr ⟨p, q, h1.dp w.fr hx, h2.dp w.fr hy, sx, sy, k _ _ M F H (Evl.Ex.refl F) ⟨rfl, rfl⟩ w (.bl _)⟩
theorem rv_neD {p q : PyData} (hx : toPy x = some p) (hy : toPy y = some q) (sx : SeqAt.shaped p = true) (sy : SeqAt.shaped q = true) : RV K (rNeU K) x y M (.bl (!PyData.eqv p q)) := fun N F u v H w h1 h2 Q k => .inr ⟨p, q, h1.dp w.fr hx, h2.dp w.fr hy, sx, sy, k _ _ M F H (Evl.Ex.refl F) ⟨rfl, rfl⟩ w (.bl _)⟩
theorem rv_eqI {i j : Int} : RV K (rEqU K) (.int i) (.int j) M (.bl (decide (i = j))) := fun N F u v H w h1 h2 Q k => by
  cases h1.int_of
  cases h2.int_of
  exact .inl ⟨rfl, k _ _ M F H (Evl.Ex.refl F) ⟨rfl, rfl⟩ w (by simp only [V.int.injEq]; exact .bl _)⟩
theorem rv_neI {i j : Int} : RV K (rNeU K) (.int i) (.int j) M (.bl (!decide (i = j))) := fun N F u v H w h1 h2 Q k => by
  cases h1.int_of
  cases h2.int_of
  exact .inl ⟨rfl, k _ _ M F H (Evl.Ex.refl F) ⟨rfl, rfl⟩ w (by simp only [V.int.injEq]; exact .bl _)⟩
theorem rv_eqS {i j : Str} : RV K (rEqU K) (.str i) (.str j) M (.bl (decide (i = j))) := fun N F u v H w h1 h2 Q k => by
  cases h1.str_of
  cases h2.str_of
  exact .inl ⟨rfl, k _ _ M F H (Evl.Ex.refl F) ⟨rfl, rfl⟩ w (by simp only [V.str.injEq]; exact .bl _)⟩
theorem rv_neS {i j : Str} : RV K (rNeU K) (.str i) (.str j) M (.bl (!decide (i = j))) := fun N F u v H w h1 h2 Q k => by
  cases h1.str_of
  cases h2.str_of
  exact .inl ⟨rfl, k _ _ M F H (Evl.Ex.refl F) ⟨rfl, rfl⟩ w (by simp only [V.str.injEq]; exact .bl _)⟩
theorem rv_eqB {i j : Bool} : RV K (rEqU K) (.bl i) (.bl j) M (.bl (decide (i = j))) := fun N F u v H w h1 h2 Q k => by
  cases h1.bl_of
  cases h2.bl_of
  exact .inl ⟨rfl, k _ _ M F H (Evl.Ex.refl F) ⟨rfl, rfl⟩ w (by simp only [V.bl.injEq]; exact .bl _)⟩
theorem rv_neB {i j : Bool} : RV K (rNeU K) (.bl i) (.bl j) M (.bl (!decide (i = j))) := fun N F u v H w h1 h2 Q k => by
  cases h1.bl_of
  cases h2.bl_of
  exact .inl ⟨rfl, k _ _ M F H (Evl.Ex.refl F) ⟨rfl, rfl⟩ w (by simp only [V.bl.injEq]; exact .bl _)⟩
/-- is this None -/
def isNon : DV → Bool
  | .non => true
  | .raw v => decide (v = .non)
  | _ => false
theorem Rp.non_iff {F : Hp} {v : V} (h : Rp K F v d) : decide (v = .non) = isNon d := by cases h <;> first | rfl | simp [isNon]
def rIsN : R2 := fun x y H Q => y = .non ∧ Q (.bl (decide (x = .non))) H
def rNotN : R2 := fun x y H Q => y = .non ∧ Q (.bl (!decide (x = .non))) H
theorem op_isN' {X : Cx} : OpR X (compareOp .Is) rIsN := op_isN
theorem op_notN' {X : Cx} : OpR X (compareOp .IsNot) rNotN := op_notN
theorem rv_isN : RV K rIsN d .non M (.bl (isNon d)) := fun N F u v H w h1 h2 Q k => ⟨h2.non_of, by rw [h1.non_iff]; exact k _ _ M F H (Evl.Ex.refl F) ⟨rfl, rfl⟩ w (.bl _)⟩
theorem rv_notN : RV K rNotN d .non M (.bl (!isNon d)) := fun N F u v H w h1 h2 Q k => ⟨h2.non_of, by rw [h1.non_iff]; exact k _ _ M F H (Evl.Ex.refl F) ⟨rfl, rfl⟩ w (.bl _)⟩
/-! ### subscripts, slices -/
theorem atI_rpa {F : Hp} {vs : List V} {i : Int} (r : RpA K F vs ds) (h : atI ds i = some d) : ∃ v, atI vs i = some v ∧ Rp K F v d := by
  unfold atI at h ⊢
  rw [r.length]
  cases hj : ixN ds.length i with
  | none => rw [hj] at h; cases h
  | some j =>
    rw [hj] at h
    exact r.get (i := j) (x := d) h
theorem rv_ixT {i : Int} (h : atI ds i = some d) : RV K (rIx K) (.tup ds) (.int i) M d := fun N F u v H w h1 h2 Q k => by
  obtain ⟨a, xs, rfl, ha, ra⟩ := h1.tup_of
  obtain ⟨y, hy, ry⟩ := atI_rpa ra h
  exact .inr (.inl ⟨a, xs, i, y, rfl, h2.int_of, Evl.ex_t w.fr ha, hy, k _ _ M F H (Evl.Ex.refl F) ⟨rfl, rfl⟩ w ry⟩)
theorem rv_ixL {i : Int} (h : atI ds i = some d) : RV K (rIx K) (.lst ds) (.int i) M d := fun N F u v H w h1 h2 Q k => by
  obtain ⟨a, xs, rfl, ha, ra⟩ := h1.lst_of
  obtain ⟨y, hy, ry⟩ := atI_rpa ra h
  exact .inl ⟨a, xs, i, y, rfl, h2.int_of, SqL.of (w.fr _ _ ha), hy, k _ _ M F H (Evl.Ex.refl F) ⟨rfl, rfl⟩ w ry⟩
theorem rv_ixR {i : Int} (h : atI ds i = some d) : RV K (rIx K) (.rd ds) (.int i) M d := fun N F u v H w h1 h2 Q k => by
  obtain ⟨a, xs, rfl, ha, ra⟩ := h1.rd_of
  obtain ⟨y, hy, ry⟩ := atI_rpa ra h
  exact .inl ⟨a, xs, i, y, rfl, h2.int_of, Evl.ex_l w.fr ha, hy, k _ _ M F H (Evl.Ex.refl F) ⟨rfl, rfl⟩ w ry⟩
theorem rv_ixC {i : Int} {a : Addr} (hm : (a, MO.lst ds) ∈ M) (h : atI ds i = some d) : RV K (rIx K) (.raw (.ref a)) (.int i) M d := fun N F u v H w h1 h2 Q k => by
  cases h1.raw_of
  obtain ⟨_, xs, hx, rx⟩ := w.ce a _ (List.mem_append_right N hm)
  obtain ⟨y, hy, ry⟩ := atI_rpa rx h
  exact .inl ⟨a, xs, i, y, rfl, h2.int_of, SqL.of hx, hy, k _ _ M F H (Evl.Ex.refl F) ⟨rfl, rfl⟩ w ry⟩
def EvO (K : PySem.W.Frag) (to : TO) (ρ : Rho) (M : Ms) (o : Option Int) : Prop := ∀ (N : Ms) (F : Hp) (σ : L2.St) (H : Hp), Sn K F (N ++ M) ρ σ H → ∀ Q : Option Int → Hp → Prop, (∀ F' H', Ex F F' → Wd K F' (N ++ M) H' → Q o H') → to σ H Q
variable {ρ : Rho} {te : TE} {tl th : TO} {lo hi : Option Int}
theorem eo_none : EvO K tNoPart ρ M none := fun N F σ H S Q q => q F H (Evl.Ex.refl F) S.w
theorem eo_some {i : Int} (h : Ev K te ρ M (.int i)) : EvO K (tPart te) ρ M (some i) := fun N F σ H S Q q => h N F σ H S _ fun v d M' F' H' e ⟨h1, h2⟩ w r => by
  subst h1 h2; exact ⟨i, r.int_of, q F' H' e w⟩
/-- cutV, of data -/
def cutL (xs : List DV) (lo hi : Option Int) : List DV := (xs.drop (HT.sIx xs.length 0 lo)).take (HT.sIx xs.length xs.length hi - HT.sIx xs.length 0 lo)
theorem cut_rpa {F : Hp} {vs : List V} (r : RpA K F vs ds) : RpA K F (cutV vs lo hi) (cutL ds lo hi) := by
  unfold cutV cutL
  rw [r.length]
  exact (r.drop _).take _
def rSlU (K : PySem.W.Frag) : V → Option Int → Option Int → Hp → VK → Prop := fun x lo hi H Q => rSlA K x lo hi H Q ∨ rSlL K x lo hi H Q
theorem sl_U {X : Cx} : SlR X (rSlU X.K) := SlR.or sl_tupA sl_list
theorem ev_slT (h : Ev K te ρ M (.tup ds)) (h1 : EvO K tl ρ M lo) (h2 : EvO K th ρ M hi) : Ev K (tSl (rSlU K) te tl th) ρ M (.tup (cutL ds lo hi)) := fun N F σ H S Q q => h N F σ H S _ fun v d M' F1 H1 e1 ⟨hd, hm⟩ w1 r1 => by
  subst hd hm
  refine h1 N F1 σ H1 ⟨w1, S.e.mono e1⟩ _ fun F2 H2 e2 w2 => h2 N F2 σ H2 ⟨w2, S.e.mono (e1.trans e2)⟩ _ fun F3 H3 e3 w3 => .inl ?_
  have e123 := (e1.trans e2).trans e3
  obtain ⟨a, xs, rfl, ha, ra⟩ := (r1.mono (e2.trans e3)).tup_of
  refine ⟨a, xs, rfl, Evl.ex_t w3.fr ha, fun hz => ?_, fun _ p hp => ?_⟩
  · refine q _ _ _ F3 H3 e123 ⟨?_, rfl⟩ w3 (.tup ha ra)
    unfold cutL
    rw [ra.length] at hz
    rw [hz.1, hz.2, List.drop_zero, Nat.sub_zero, List.take_length]
  · have hn := w3.fresh hp
    exact q _ _ _ _ _ (e123.trans (ex_new hn)) ⟨rfl, rfl⟩ (w3.new hp _) (.tup (SqT.of upd_same) ((cut_rpa ra).mono (ex_new hn)))
theorem ev_slL (h : Ev K te ρ M (.lst ds)) (h1 : EvO K tl ρ M lo) (h2 : EvO K th ρ M hi) : Ev K (tSl (rSlU K) te tl th) ρ M (.lst (cutL ds lo hi)) := fun N F σ H S Q q => h N F σ H S _ fun v d M' F1 H1 e1 ⟨hd, hm⟩ w1 r1 => by
  subst hd hm
  refine h1 N F1 σ H1 ⟨w1, S.e.mono e1⟩ _ fun F2 H2 e2 w2 => h2 N F2 σ H2 ⟨w2, S.e.mono (e1.trans e2)⟩ _ fun F3 H3 e3 w3 => .inr ?_
  have e123 := (e1.trans e2).trans e3
  obtain ⟨a, xs, rfl, ha, ra⟩ := (r1.mono (e2.trans e3)).lst_of
  refine ⟨a, xs, rfl, SqL.of (w3.fr _ _ ha), fun p hp => ?_⟩
  have hn := w3.fresh hp
  exact q _ _ _ _ _ (e123.trans (ex_new hn)) ⟨rfl, rfl⟩ (w3.new hp _) (.lst upd_same ((cut_rpa ra).mono (ex_new hn)))
theorem ev_slR (h : Ev K te ρ M (.rd ds)) (h1 : EvO K tl ρ M lo) (h2 : EvO K th ρ M hi) : Ev K (tSl (rSlU K) te tl th) ρ M (.lst (cutL ds lo hi)) := fun N F σ H S Q q => h N F σ H S _ fun v d M' F1 H1 e1 ⟨hd, hm⟩ w1 r1 => by
  subst hd hm
  refine h1 N F1 σ H1 ⟨w1, S.e.mono e1⟩ _ fun F2 H2 e2 w2 => h2 N F2 σ H2 ⟨w2, S.e.mono (e1.trans e2)⟩ _ fun F3 H3 e3 w3 => .inr ?_
  have e123 := (e1.trans e2).trans e3
  obtain ⟨a, xs, rfl, ha, ra⟩ := (r1.mono (e2.trans e3)).rd_of
  refine ⟨a, xs, rfl, Evl.ex_l w3.fr ha, fun p hp => ?_⟩
  have hn := w3.fresh hp
  exact q _ _ _ _ _ (e123.trans (ex_new hn)) ⟨rfl, rfl⟩ (w3.new hp _) (.lst upd_same ((cut_rpa ra).mono (ex_new hn)))
/-! ### calls of built-ins -/
theorem rpa1 {F : Hp} {us : List V} (h : RpA K F us [d]) : ∃ u, us = [u] ∧ Rp K F u d := by
  cases h with
  | cons h t => cases t; exact ⟨_, rfl, h⟩
theorem rpa2 {F : Hp} {us : List V} (h : RpA K F us [x, y]) : ∃ u v, us = [u, v] ∧ Rp K F u x ∧ Rp K F v y := by
  cases h with
  | cons h t => cases t with
    | cons h2 t => cases t; exact ⟨_, _, rfl, h, h2⟩
def rLen (K : PySem.W.Frag) : List V → Hp → VK → Prop := fun xs H Q => ∃ x n, xs = [x] ∧ LenV K x H n ∧ Q (.int n) H
theorem call_len' {X : Cx} : CallR X (.builtin "len") (rLen X.K) := call_len
theorem rc_lenT : RC K (rLen K) [.tup ds] M (.int ds.length) := fun N F us H w h Q k => by
  obtain ⟨u, rfl, r⟩ := rpa1 h
  obtain ⟨a, xs, rfl, ha, ra⟩ := r.tup_of
  exact ⟨_, ds.length, rfl, .inr ⟨xs, Evl.ex_t w.fr ha, ra.length.symm⟩, k _ _ M F H (Evl.Ex.refl F) ⟨rfl, rfl⟩ w (.int _)⟩
theorem rc_lenL : RC K (rLen K) [.lst ds] M (.int ds.length) := fun N F us H w h Q k => by
  obtain ⟨u, rfl, r⟩ := rpa1 h
  obtain ⟨a, xs, rfl, ha, ra⟩ := r.lst_of
  exact ⟨_, ds.length, rfl, .inl ⟨xs, SqL.of (w.fr _ _ ha), ra.length.symm⟩, k _ _ M F H (Evl.Ex.refl F) ⟨rfl, rfl⟩ w (.int _)⟩
theorem rc_lenR : RC K (rLen K) [.rd ds] M (.int ds.length) := fun N F us H w h Q k => by
  obtain ⟨u, rfl, r⟩ := rpa1 h
  obtain ⟨a, xs, rfl, ha, ra⟩ := r.rd_of
  exact ⟨_, ds.length, rfl, .inl ⟨xs, Evl.ex_l w.fr ha, ra.length.symm⟩, k _ _ M F H (Evl.Ex.refl F) ⟨rfl, rfl⟩ w (.int _)⟩
theorem rc_lenC {a : Addr} (hm : (a, MO.lst ds) ∈ M) : RC K (rLen K) [.raw (.ref a)] M (.int ds.length) := fun N F us H w h Q k => by
  obtain ⟨u, rfl, r⟩ := rpa1 h
  cases r.raw_of
  obtain ⟨_, xs, hx, rx⟩ := w.ce a _ (List.mem_append_right N hm)
  exact ⟨_, ds.length, rfl, .inl ⟨xs, SqL.of hx, rx.length.symm⟩, k _ _ M F H (Evl.Ex.refl F) ⟨rfl, rfl⟩ w (.int _)⟩
theorem rc_lenS {s : Str} (hl : s.length ≤ 100000) : RC K (rLen K) [.str s] M (.int s.length) := fun N F us H w h Q k => by
  obtain ⟨u, rfl, r⟩ := rpa1 h
  cases r.str_of
  exact ⟨_, s.length, rfl, ⟨Evl.sz_of hl, rfl⟩, k _ _ M F H (Evl.Ex.refl F) ⟨rfl, rfl⟩ w (.int _)⟩
/-- isinstance of a built-in type -/
def tyN : DV → Option String
  | .non => some "NoneType"
  | .bl _ => some "bool"
  | .int _ => some "int"
  | .str _ => some "str"
  | .tup _ => some "tuple"
  | .lst _ => some "list"
  | .dic => some "dict"
  | _ => none
theorem Rp.tyX {F H : Hp} {v : V} {T : String} (r : Rp K F v d) (e : Ex F H) (h : tyN d = some T) : TyX K H v (.type T) := by
  cases r with
  | non => cases h; exact .base .non
  | bl b => cases h; exact .base (.bl b)
  | int i => cases h; exact .base (.int i)
  | str s => cases h; exact .base (.str s)
  | raw v => cases h
  | ins h1 h2 => cases h
  | rd h1 h2 => cases h
  | lst h1 h2 => cases h; exact .base (.lst (e _ _ h1))
  | dic h1 => cases h; exact .base (.dK (e _ _ h1))
  | tup h1 h2 =>
    cases h
    rcases Evl.ex_t e h1 with (q | ⟨o, q⟩) | ⟨o, vs, n, q⟩
    · exact .base (.tup q)
    · exact .fTuple q
    · exact .kTuple q.1 q.2.1
theorem rc_isi {T n : String} {b : Bool} (h : tyN x = some T) (hb : kitB T n = some b) : RC K (rIsi K) [x, .raw (.ty n)] M (.bl b) := fun N F us H w hr Q k => by
  obtain ⟨u, v, rfl, r1, r2⟩ := rpa2 hr
  cases r2.raw_of
  exact ⟨u, .ty n, _, _, b, rfl, .ty n, r1.tyX w.fr h, kit_ty hb, k _ _ M F H (Evl.Ex.refl F) ⟨rfl, rfl⟩ w (.bl _)⟩
def rMax2 : List V → Hp → VK → Prop := fun xs H Q => ∃ i j, xs = [.int i, .int j] ∧ Q (.int (if j > i then j else i)) H
def rMin2 : List V → Hp → VK → Prop := fun xs H Q => ∃ i j, xs = [.int i, .int j] ∧ Q (.int (if j < i then j else i)) H
theorem rc_max2 {i j : Int} : RC K rMax2 [.int i, .int j] M (.int (if j > i then j else i)) := fun N F us H w hr Q k => by
  obtain ⟨u, v, rfl, r1, r2⟩ := rpa2 hr
  exact ⟨i, j, by rw [r1.int_of, r2.int_of], k _ _ M F H (Evl.Ex.refl F) ⟨rfl, rfl⟩ w (.int _)⟩
theorem rc_min2 {i j : Int} : RC K rMin2 [.int i, .int j] M (.int (if j < i then j else i)) := fun N F us H w hr Q k => by
  obtain ⟨u, v, rfl, r1, r2⟩ := rpa2 hr
  exact ⟨i, j, by rw [r1.int_of, r2.int_of], k _ _ M F H (Evl.Ex.refl F) ⟨rfl, rfl⟩ w (.int _)⟩
def rInt1 : List V → Hp → VK → Prop := fun xs H Q => (∃ i, xs = [.int i] ∧ Q (.int i) H) ∨ ∃ k, xs = [.bl k] ∧ Q (.int (if k then 1 else 0)) H
theorem rc_int {i : Int} : RC K rInt1 [.int i] M (.int i) := fun N F us H w hr Q k => by
  obtain ⟨u, rfl, r1⟩ := rpa1 hr
  exact .inl ⟨i, by rw [r1.int_of], k _ _ M F H (Evl.Ex.refl F) ⟨rfl, rfl⟩ w (.int _)⟩
def rAbs : List V → Hp → VK → Prop := fun xs H Q => ∃ i, xs = [.int i] ∧ Q (.int (if i < 0 then -i else i)) H
theorem rc_abs {i : Int} : RC K rAbs [.int i] M (.int (if i < 0 then -i else i)) := fun N F us H w hr Q k => by
  obtain ⟨u, rfl, r1⟩ := rpa1 hr
  exact ⟨i, by rw [r1.int_of], k _ _ M F H (Evl.Ex.refl F) ⟨rfl, rfl⟩ w (.int _)⟩
def rDivmod : List V → Hp → VK → Prop := fun xs H Q => ∃ i j, xs = [.int i, .int j] ∧ CDiv i j ∧ ∀ p, H p = none → Q (.ref p) (upd H p (.tup [.int (i / j), .int (i % j)]))
theorem rc_divmod {i j : Int} (h : 0 < j ∧ j < 1073741824) : RC K rDivmod [.int i, .int j] M (.tup [.int (i / j), .int (i % j)]) := fun N F us H w hr Q k => by
  obtain ⟨u, v, rfl, r1, r2⟩ := rpa2 hr
  exact ⟨i, j, by rw [r1.int_of, r2.int_of], h, fun p hp => k _ _ M _ _ (ex_new (w.fresh hp)) ⟨rfl, rfl⟩ (w.new hp _) (.tup (SqT.of upd_same) (.cons (.int _) (.cons (.int _) .nil)))⟩
theorem rc_repr {p : PyData} (hx : toPy x = some p) (h1 : p.showable = true) (h2 : p.hasDict = false) (h3 : p.depth ≤ 100) (h4 : p.shown.length ≤ sizeLine) : RC K (rRepr K) [x] M (.str p.shown) := fun N F us H w hr Q k => by
  obtain ⟨u, rfl, r1⟩ := rpa1 hr
  exact ⟨u, p, rfl, r1.dp w.fr hx, h1, h2, h3, h4, k _ _ M F H (Evl.Ex.refl F) ⟨rfl, rfl⟩ w (.str _)⟩
def rTupOf (K : PySem.W.Frag) : List V → Hp → VK → Prop := fun xs H Q => ∃ p ys, xs = [.ref p] ∧ ((SqL K H p ys ∧ ∀ l, H l = none → Q (.ref l) (upd H l (.tup ys))) ∨ (SqT K H p ys ∧ Q (.ref p) H))
theorem rc_tupL : RC K (rTupOf K) [.lst ds] M (.tup ds) := fun N F us H w hr Q k => by
  obtain ⟨u, rfl, r1⟩ := rpa1 hr
  obtain ⟨a, xs, rfl, ha, ra⟩ := r1.lst_of
  exact ⟨a, xs, rfl, .inl ⟨SqL.of (w.fr _ _ ha), fun p hp => k _ _ M _ _ (ex_new (w.fresh hp)) ⟨rfl, rfl⟩ (w.new hp _) (.tup (SqT.of upd_same) (ra.mono (ex_new (w.fresh hp))))⟩⟩
theorem rc_tupC {a : Addr} (hm : (a, MO.lst ds) ∈ M) : RC K (rTupOf K) [.raw (.ref a)] M (.tup ds) := fun N F us H w hr Q k => by
  obtain ⟨u, rfl, r1⟩ := rpa1 hr
  cases r1.raw_of
  obtain ⟨_, xs, ha, ra⟩ := w.ce a _ (List.mem_append_right N hm)
  exact ⟨a, xs, rfl, .inl ⟨SqL.of ha, fun p hp => k _ _ M _ _ (ex_new (w.fresh hp)) ⟨rfl, rfl⟩ (w.new hp _) (.tup (SqT.of upd_same) (ra.mono (ex_new (w.fresh hp))))⟩⟩
/-- max of a list of ints that is not empty -/
theorem rcr_maxL {ns : List Int} (h0 : 0 < ns.length) (k : ∀ m, m ∈ ns → (∀ y, y ∈ ns → y ≤ m) → R (.int m) M) : RCR K (rMax K) [.lst (ns.map DV.int)] M R := fun N F us H w hr Q q => by
  obtain ⟨u, rfl, r1⟩ := rpa1 hr
  obtain ⟨a, xs, rfl, ha, ra⟩ := r1.lst_of
  exact ⟨a, ns, rfl, by rw [← ra.ints_of]; exact SqL.of (w.fr _ _ ha), h0, fun m h1 h2 => q _ _ M F H (Evl.Ex.refl F) (k m h1 h2) w (.int m)⟩
theorem rc_sumL {ns : List Int} : RC K (rSum K) [.lst (ns.map DV.int)] M (.int ns.sum) := fun N F us H w hr Q q => by
  obtain ⟨u, rfl, r1⟩ := rpa1 hr
  obtain ⟨a, xs, rfl, ha, ra⟩ := r1.lst_of
  exact ⟨a, ns, rfl, by rw [← ra.ints_of]; exact SqL.of (w.fr _ _ ha), q _ _ M F H (Evl.Ex.refl F) ⟨rfl, rfl⟩ w (.int _)⟩
theorem rc_allL {bs : List Bool} : RC K (rAll K) [.lst (bs.map DV.bl)] M (.bl (bs.all id)) := fun N F us H w hr Q q => by
  obtain ⟨u, rfl, r1⟩ := rpa1 hr
  obtain ⟨a, xs, rfl, ha, ra⟩ := r1.lst_of
  exact ⟨a, bs, rfl, by rw [← ra.bls_of]; exact SqL.of (w.fr _ _ ha), q _ _ M F H (Evl.Ex.refl F) ⟨rfl, rfl⟩ w (.bl _)⟩
theorem rc_anyL {bs : List Bool} : RC K (rAny K) [.lst (bs.map DV.bl)] M (.bl (bs.any id)) := fun N F us H w hr Q q => by
  obtain ⟨u, rfl, r1⟩ := rpa1 hr
  obtain ⟨a, xs, rfl, ha, ra⟩ := r1.lst_of
  exact ⟨a, bs, rfl, by rw [← ra.bls_of]; exact SqL.of (w.fr _ _ ha), q _ _ M F H (Evl.Ex.refl F) ⟨rfl, rfl⟩ w (.bl _)⟩
/-! ### methods of owned lists -/
variable {ta : TA} {to : TE}
theorem ty_list {F H : Hp} {a : Addr} {vs : List V} (h : H a = some (.lst vs)) : tyV K "list" (.ref a) H := .inl ⟨rfl, _, .inl (.inl h)⟩
theorem evr_append {i : Nat} {a : Addr} {xs : List DV} (h : EvR K to ρ M fun o M1 => o = .raw (.ref a) ∧ M1[i]? = some (a, MO.lst xs) ∧ xs.length < 100000 ∧ EvAR K ta ρ M1 fun ds M2 => ∃ d, ds = [d] ∧ M2[i]? = some (a, MO.lst xs) ∧ R .non (M2.set i (a, MO.lst (xs ++ [d])))) :
    EvR K (tBM K "list" rAppend to ta) ρ M R := fun N F σ H S Q q =>
  h N F σ H S _ fun v o M1 F1 H1 e1 ⟨ho, hi, hl, h1⟩ w1 r1 => by
    subst ho
    cases r1.raw_of
    obtain ⟨_, vs, hv, rv⟩ := w1.ce a _ (List.mem_append_right N (List.mem_of_getElem? hi))
    refine ⟨ty_list (F := F1) hv, h1 N F1 σ H1 ⟨w1, S.e.mono e1⟩ _ fun us ds M2 F2 H2 e2 ⟨d, hd, hi2, hr⟩ w2 r2 => ?_⟩
    subst hd
    obtain ⟨u, rfl, ru⟩ := rpa1 r2
    obtain ⟨_, vs2, hv2, rv2⟩ := w2.ce a _ (List.mem_append_right N (List.mem_of_getElem? hi2))
    refine ⟨a, vs2, u, rfl, rfl, hv2, by rw [rv2.length]; exact Evl.sz_lt hl, ?_⟩
    have w3 := w2.put (i := N.length + i) (by rw [List.getElem?_append_right (Nat.le_add_right _ _), Nat.add_sub_cancel_left]; exact hi2) (mo' := .lst (xs ++ [d])) (o := .lst (vs2 ++ [u])) ⟨_, upd_same, rv2.snoc ru⟩
    rw [List.set_append_right _ _ (Nat.le_add_right _ _), Nat.add_sub_cancel_left] at w3
    exact q _ _ _ F2 _ (e1.trans e2) hr w3 .non
/-- pop(i) -/
theorem evr_popAt {i : Nat} {a : Addr} {xs : List DV} (h : EvR K to ρ M fun o M1 => o = .raw (.ref a) ∧ M1[i]? = some (a, MO.lst xs) ∧ EvAR K ta ρ M1 fun ds M2 => ∃ (j : Nat) (d : DV), ds = [.int j] ∧ j < 100000 ∧ M2[i]? = some (a, MO.lst xs) ∧ xs[j]? = some d ∧ R d (M2.set i (a, MO.lst (xs.eraseIdx j)))) :
    EvR K (tBM K "list" rPopAt to ta) ρ M R := fun N F σ H S Q q =>
  h N F σ H S _ fun v o M1 F1 H1 e1 ⟨ho, hi, h1⟩ w1 r1 => by
    subst ho
    cases r1.raw_of
    obtain ⟨_, vs, hv, rv⟩ := w1.ce a _ (List.mem_append_right N (List.mem_of_getElem? hi))
    refine ⟨ty_list (F := F1) hv, h1 N F1 σ H1 ⟨w1, S.e.mono e1⟩ _ fun us ds M2 F2 H2 e2 ⟨j, d, hd, hj, hi2, hx, hr⟩ w2 r2 => ?_⟩
    subst hd
    obtain ⟨u, rfl, ru⟩ := rpa1 r2
    cases ru.int_of
    obtain ⟨_, vs2, hv2, rv2⟩ := w2.ce a _ (List.mem_append_right N (List.mem_of_getElem? hi2))
    obtain ⟨y, hy, ry⟩ := rv2.get hx
    have hlt : j < vs2.length := (List.getElem?_eq_some_iff.mp hy).1
    refine ⟨a, vs2, j, j, y, rfl, rfl, hv2, by omega, by omega, ?_, hy, ?_⟩
    · unfold seqIndex?
      simp
      omega
    have w3 := w2.put (i := N.length + i) (by rw [List.getElem?_append_right (Nat.le_add_right _ _), Nat.add_sub_cancel_left]; exact hi2) (mo' := .lst (xs.eraseIdx j)) (o := .lst (vs2.eraseIdx j)) ⟨_, upd_same, rv2.eraseIdx j⟩
    rw [List.set_append_right _ _ (Nat.le_add_right _ _), Nat.add_sub_cancel_left] at w3
    exact q _ _ _ F2 _ (e1.trans e2) hr w3 (ry.mono (Evl.Ex.refl _))
/-- xs[k] = e -/
theorem bd_subL {i : Nat} {a : Addr} {xs : List DV} {ti : TE} {RR : Rho → Ms → Prop} (h : EvR K to ρ M fun o M1 => o = .raw (.ref a) ∧ EvR K ti ρ M1 fun k M2 => ∃ (n : Int) (j : Nat), k = .int n ∧ M2[i]? = some (a, MO.lst xs) ∧ ixN xs.length n = some j ∧ RR ρ (M2.set i (a, MO.lst (xs.set j d)))) : BdG K (gSub to ti rSetL) ρ M d RR := fun N F σ H v Q S r q =>
  h N F σ H S _ fun o od M1 F1 H1 e1 ⟨ho, h1⟩ w1 r1 => by
    subst ho
    cases r1.raw_of
    refine h1 N F1 σ H1 ⟨w1, S.e.mono e1⟩ _ fun kv kd M2 F2 H2 e2 ⟨n, j, hk, hi2, hj, hr⟩ w2 r2 => ?_
    subst hk
    cases r2.int_of
    obtain ⟨_, vs2, hv2, rv2⟩ := w2.ce a _ (List.mem_append_right N (List.mem_of_getElem? hi2))
    refine ⟨a, vs2, n, j, rfl, rfl, hv2, by rw [rv2.length]; exact hj, ?_⟩
    have w3 := w2.put (i := N.length + i) (by rw [List.getElem?_append_right (Nat.le_add_right _ _), Nat.add_sub_cancel_left]; exact hi2) (mo' := .lst (xs.set j d)) (o := .lst (vs2.set j v)) ⟨_, upd_same, (rv2.set (r.mono (e1.trans e2)) j)⟩
    rw [List.set_append_right _ _ (Nat.le_add_right _ _), Nat.add_sub_cancel_left] at w3
    exact q σ F2 _ ρ _ (e1.trans e2) hr ⟨w3, S.e.mono (e1.trans e2)⟩
/-! ### enumerate -/
theorem ei_enumT {ta : TA} {RM : Ms → Prop} (h : EvAR K ta ρ M fun xs M' => xs = [.tup ds] ∧ RM M') : EvI K (DE.iEnumT K ta) ρ M [] ds.length (fun i => .tup [.int i, nth ds i]) RM := fun N F σ H S Q q =>
  h N F σ H S _ fun vs dd M1 F1 H1 e1 ⟨hd, hr⟩ w1 r1 => by
    subst hd
    obtain ⟨u, rfl, r⟩ := rpa1 r1
    obtain ⟨a, xs, rfl, hx, hr1⟩ := r.tup_of
    refine ⟨a, xs, rfl, Evl.ex_t w1.fr hx, q _ M1 F1 H1 e1 hr w1 ⟨fun i F2 M2 H2 hi e2 w2 _ => ?_, fun F2 M2 H2 e2 w2 _ => ?_, fun i F2 M2 H2 x H3 hi e2 w2 _ hy => ?_⟩⟩
    · exact ⟨xs, xs[i]'(by rw [hr1.length]; exact hi), Evl.ex_t (e2.trans w2.fr) hx, by simp⟩
    · exact ⟨xs, Evl.ex_t (e2.trans w2.fr) hx, by rw [hr1.length]; exact Nat.le_refl _⟩
    · obtain ⟨T, x, rfl, hT, rfl, hg⟩ := hy
      obtain ⟨d, hd, rd⟩ := hr1.get' (hg xs (Evl.ex_t (e2.trans w2.fr) hx))
      have hn := w2.fresh hT
      exact ⟨_, ex_new hn, w2.new hT _, .tup (SqT.of upd_same) (.cons (.int _) (.cons (by rw [nth_of hd]; exact (rd.mono e2).mono (ex_new hn)) .nil))⟩
end
end DD

set_option Elab.async false
set_option linter.all false
set_option maxRecDepth 100000
set_option maxHeartbeats 4000000
/-! calls by keyword -/
namespace DD
open PySem PySem.Spec PyProof.Rows L2
/-- the positional values, then the keywords', put into the parameters' order -/
def gpick (n m : Nat) (perm : List Nat) {α : Type} (us ws : List α) : List α := if us.length = n ∧ ws.length = m then perm.filterMap (fun i => (us ++ ws)[i]?) else []
theorem pick_vals {xs : List V} {us : List Value} (r : Vals xs us) : ∀ perm : List Nat, Vals (perm.filterMap (fun i => xs[i]?)) (perm.filterMap (fun i => us[i]?))
  | [] => .nil
  | i :: perm => by
    cases h : xs[i]? with
    | none => rw [List.filterMap_cons_none h, List.filterMap_cons_none (r.none_of h)]; exact pick_vals r perm
    | some x =>
      obtain ⟨u, hu, ru⟩ := r.get h
      rw [List.filterMap_cons_some h, List.filterMap_cons_some hu]; exact .cons ru (pick_vals r perm)
theorem pick_rpa {K : PySem.W.Frag} {F : Hp} {xs : List V} {ds : List DV} (r : RpA K F xs ds) : ∀ perm : List Nat, RpA K F (perm.filterMap (fun i => xs[i]?)) (perm.filterMap (fun i => ds[i]?))
  | [] => .nil
  | i :: perm => by
    cases h : xs[i]? with
    | none =>
      have h2 : ds[i]? = none := List.getElem?_eq_none (by rw [← r.length]; exact List.getElem?_eq_none_iff.mp h)
      rw [List.filterMap_cons_none h, List.filterMap_cons_none h2]; exact pick_rpa r perm
    | some x =>
      obtain ⟨u, hu, ru⟩ := r.get' h
      rw [List.filterMap_cons_some h, List.filterMap_cons_some hu]; exact .cons ru (pick_rpa r perm)
theorem gpick_rel {n m : Nat} {perm : List Nat} {vs : List V} {us : List Value} {zs : List V} {ws : List Value} (r : Vals vs us) (rz : Vals zs ws) : Vals (gpick n m perm vs zs) (gpick n m perm us ws) := by
  unfold gpick
  rw [r.length, rz.length]
  split
  · exact pick_vals (r.append rz) perm
  · exact .nil
theorem gpick_rpa {K : PySem.W.Frag} {F : Hp} {n m : Nat} {perm : List Nat} {vs zs : List V} {ds es : List DV} (r : RpA K F vs ds) (rz : RpA K F zs es) : RpA K F (gpick n m perm vs zs) (gpick n m perm ds es) := by
  unfold gpick
  rw [r.length, rz.length]
  split
  · exact pick_rpa (r.append rz) perm
  · exact .nil
theorem kbinds_mk {K : PySem.W.Frag} {x qual : Str} {st : Stmt} {f : Addr} {fd : FuncData} {ps ks : List Str} {n m : Nat} {perm : List Nat} (F : Fun K x qual st f fd) (hp : ps ≠ [])
    (h : ∀ (kV doc pm : Value) (an : Option Addr) (cdv ct : Value) (us ws : List Value), us.length = n → ws.length = m → bindArgs (PySem.W.fnOf x qual (defArgs st) (defBody st) (defScope st) .none kV doc pm an cdv ct) ⟨us, ks.zip ws⟩ = pure (ps.zip (perm.filterMap (fun i => (us ++ ws)[i]?)))) :
    KBinds K fd ps ks (gpick n m perm) (gpick n m perm) := by
  obtain ⟨oc, od, kV, doc, pm, an, cdv, ct, osl, rfl, lk, hcd⟩ := F.ex
  refine ⟨fun s us ws _ hl => ?_, fun r rz => gpick_rel r rz⟩
  unfold gpick at hl ⊢
  split at hl
  · rename_i hc
    rw [if_pos hc]
    exact .of_eq (h kV doc pm an cdv ct us ws hc.1 hc.2)
  · exact absurd (List.eq_nil_of_length_eq_zero hl.symm) hp
section
variable {X : Cx} {CX : CXT} {k : Nat} {f C : Addr} {fd : FuncData} {ps ks : List Str} {sp : Sp} {E : XK} {x : Str} {p pos : Pos} {kws : List Keyword} {tk : TA} {g : List Value → List Value → List Value} {gV : List V → List V → List V}
/-- f(k = v, ..) -/
theorem pe_callK0 (F : FnOk X.prog X.w X.K X.mg X.base CX k f fd ps sp) (hr : Room k X.A) (hg : Gl X x) (hm : X.mg x = some (.ref f)) (hk : PySem.W.keepIn X.K (.ref f) = true) (hb : KBinds X.K fd ps ks g gV) (hx : Passes CX X E) (hkw : PK X kws tk)
    (hall : (backToKw pos (keywordEach kws X.env)).all (·.1.isSome) = true := by rfl) (hks : (backToKw pos (keywordEach kws X.env)).filterMap (·.1) = ks := by rfl) (hdb : (x == ("__debug__" : Str)) = false := by decide)
    (hpl : ((backTo pos (starEach [] X.env)).any (·.1) || (backToKw pos (keywordEach kws X.env)).any (·.1.isNone)) = false := by rfl) : PE X (.Call (.Name x p) [] kws pos) (tCallK sp gV E tNil tk) := by
  refine ⟨fun pins z σ H Q I h => wpAny_Call_Name_kw (ld_glob I hg hm (PySem.W.callWith_KW0 (h₀ := X.base) I.ok.mod.kin hk hall (thn (hkw.run pos pins z σ H _ I h) fun ws z2 ⟨zs, H2, I2, rz, q2⟩ => ⟨I2.kIn, ?_⟩) hpl) hdb)⟩
  rw [hks]
  exact run_fnk (us := []) F hr hb hx I2 .nil rz q2
end
section
variable {K : PySem.W.Frag} {ρ : Rho} {M : Ms} {S : SpecD} {E : XK} {d : DV} {R : DV → Ms → Prop} {t tk : TA} {n m : Nat} {perm : List Nat}
theorem evr_callK (h : EvAR K t ρ M fun ds M1 => EvAR K tk ρ M1 fun es M2 => S (gpick n m perm ds es) M2 R) : EvR K (tCallK (spD K S) (gpick n m perm) E t tk) ρ M R := fun N F σ H Z Q q =>
  h N F σ H Z _ fun vs ds M1 F1 H1 e1 h1 w1 r1 => h1 N F1 σ H1 ⟨w1, Z.e.mono e1⟩ _ fun zs es M2 F2 H2 e2 h2 w2 r2 =>
    ⟨F2, N, M2, _, R, w2, gpick_rpa (r1.mono e2) r2, h2, fun v d M3 F3 H3 e3 hr w3 r3 => q v d M3 F3 H3 ((e1.trans e2).trans e3) hr w3 r3⟩
theorem ev_callK {ds es : List DV} (h : EvA K t ρ M ds) (hk : EvA K tk ρ M es) (hs : S (gpick n m perm ds es) M fun d' M' => d' = d ∧ M' = M) : Ev K (tCallK (spD K S) (gpick n m perm) E t tk) ρ M d := evr_callK (h.go (hk.go hs))
end
end DD

set_option Elab.async false
set_option linter.all false
set_option maxRecDepth 100000
set_option maxHeartbeats 4000000
/-! the rules with the written part named -/
namespace DD
open PySem PySem.Spec PyProof.Rows L2
section
variable {X : Cx} (K : PySem.W.Frag) (hK : X.K = K) {a b e o : Expr} {ta tb te : TE} {pos pos' apos : Pos} {f : Str}
include hK
theorem wAdd : OpR X (binaryOp .Add) (rAddU K) := hK ▸ op_addU
theorem wMul : OpR X (binaryOp .Mult) (rMulU K) := hK ▸ op_mulU
theorem wEq {k : Nat} (hr : Room k X.A) : OpR X (compareOp .Eq) (rEqU K) := hK ▸ op_eqU hr
theorem wNe {k : Nat} (hr : Room k X.A) : OpR X (compareOp .NotEq) (rNeU K) := hK ▸ op_neU hr
theorem wIn : OpR X (compareOp .In) (rIn K false) := hK ▸ op_in_seq
theorem wNotIn : OpR X (compareOp .NotIn) (rIn K true) := hK ▸ op_notIn_seq
theorem wIx : IxR X (rIx K) := hK ▸ ix_seq
theorem wSl : SlR X (rSlU K) := hK ▸ sl_U
theorem wFld (he : PE X e ta) (hb : attributeBase e f X.env (eval e X.env) = eval e X.env) : PE X (.Attribute e f pos) (tFld K ta f) := hK ▸ pe_fld he hb
theorem wPutF {tv : TE} {value : Expr} (ha : PE X o ta) (hv : PE X value tv) (hs : swapsWith value (some (.Attribute o f pos')) pos.line X.env = pure false) : PS X (.Assign [.Attribute o f pos'] value pos) (sFld K ta tv f) := hK ▸ ps_fld ha hv hs
theorem wTup {tg : Expr} (hl : PE X e te) : PI X tg e (iTup K te) := hK ▸ pi_tup hl
theorem wList {tg : Expr} (hl : PE X e te) : PI X tg e (iList K te) := hK ▸ pi_list hl
theorem wEnumT {ta : TA} {p tpos : Pos} {elts : List Expr} {kk : Nat} (hg : Gl X "enumerate") (hm : X.mg "enumerate" = none) (ha : PA X [e] ta) (hs : starEach [e] X.env = [(false, eval e X.env)] := by rfl) : PI X (.Tuple elts kk tpos) (.Call (.Name "enumerate" p) [e] [] pos) (DE.iEnumT K ta) := hK ▸ DE.pi_enumT hg hm ha hs
theorem wLen : CallR X (.builtin "len") (rLen K) := hK ▸ call_len
theorem wIsi : CallR X (.builtin "isinstance") (rIsi K) := hK ▸ call_isi
theorem wTupOf : CallR X (.type "tuple") (rTupOf K) := hK ▸ call_tuple_of
theorem wRepr {k : Nat} (hG : X.A.guards = some []) (hr : Room k X.A) : CallR X (.builtin "repr") (rRepr K) := hK ▸ call_reprD hG hr
theorem wSum (hc : X.calm = true) : CallR X (.builtin "sum") (rSum K) := hK ▸ cr_sum hc
theorem wMaxL (hc : X.calm = true) : CallR X (.builtin "max") (rMax K) := hK ▸ cr_max hc
theorem wMinL (hc : X.calm = true) : CallR X (.builtin "min") (rMin K) := hK ▸ cr_min hc
theorem wAny (hc : X.calm = true) : CallR X (.builtin "any") (rAny K) := hK ▸ cr_any hc
theorem wAll (hc : X.calm = true) : CallR X (.builtin "all") (rAll K) := hK ▸ cr_all hc
theorem wSorted : CallR X (.builtin "sorted") (rSortedI K) := hK ▸ cr_sortedI
theorem wTupG {n : Nat} {t : TGs} (h : PG X e (gTup X.K n t)) : PG X e (gTup K n t) := hK ▸ h
theorem wBm {T : String} {r : V → List V → Hp → VK → Prop} {t : TA} (h : PE X e (tBM X.K T r ta t)) : PE X e (tBM K T r ta t) := hK ▸ h
theorem wBm0 {T : String} {r : V → List V → Hp → VK → Prop} (h : PE X e (tBM0 X.K T r ta)) : PE X e (tBM0 K T r ta) := hK ▸ h
end
section
variable {X : Cx}
theorem wMax2 (hc : X.calm = true) : CallR X (.builtin "max") rMax2 := call_max2 hc
theorem wMin2 (hc : X.calm = true) : CallR X (.builtin "min") rMin2 := call_min2 hc
theorem wInt : CallR X (.type "int") rInt1 := call_int1
theorem wAbs : CallR X (.builtin "abs") rAbs := call_abs
theorem wDivmod : CallR X (.builtin "divmod") rDivmod := call_divmod
end
end DD

set_option Elab.async false
set_option linter.all false
set_option maxRecDepth 100000
set_option maxHeartbeats 4000000
namespace DD
open PySem PySem.Spec PyProof.Rows L2
/-! isinstance with the built-in types -/
def isIntD : DV → Bool
  | .int _ => true | .bl _ => true | _ => false
def isBoolD : DV → Bool
  | .bl _ => true | _ => false
def isTupD : DV → Bool
  | .tup _ => true | _ => false
def isStrD : DV → Bool
  | .str _ => true | _ => false
def isLstD : DV → Bool
  | .lst _ => true | _ => false
section
variable {K : PySem.W.Frag} {M : Ms} {x y d : DV} {ρ : Rho} {ta tb te : TE} {R : DV → Ms → Prop}
theorem rc_isiInt (h : (tyN x).isSome = true) : RC K (rIsi K) [x, .raw (.ty "int")] M (.bl (isIntD x)) := by
  cases x <;> first | exact rc_isi (b := true) rfl (by decide +kernel) | exact rc_isi (b := false) rfl (by decide +kernel) | cases h
theorem rc_isiBool (h : (tyN x).isSome = true) : RC K (rIsi K) [x, .raw (.ty "bool")] M (.bl (isBoolD x)) := by
  cases x <;> first | exact rc_isi (b := true) rfl (by decide +kernel) | exact rc_isi (b := false) rfl (by decide +kernel) | cases h
theorem rc_isiTup (h : (tyN x).isSome = true) : RC K (rIsi K) [x, .raw (.ty "tuple")] M (.bl (isTupD x)) := by
  cases x <;> first | exact rc_isi (b := true) rfl (by decide +kernel) | exact rc_isi (b := false) rfl (by decide +kernel) | cases h
theorem rc_isiStr (h : (tyN x).isSome = true) : RC K (rIsi K) [x, .raw (.ty "str")] M (.bl (isStrD x)) := by
  cases x <;> first | exact rc_isi (b := true) rfl (by decide +kernel) | exact rc_isi (b := false) rfl (by decide +kernel) | cases h
theorem rc_isiLst (h : (tyN x).isSome = true) : RC K (rIsi K) [x, .raw (.ty "list")] M (.bl (isLstD x)) := by
  cases x <;> first | exact rc_isi (b := true) rfl (by decide +kernel) | exact rc_isi (b := false) rfl (by decide +kernel) | cases h
/-- of an own class -/
theorem rc_isiOwn {C : Addr} {fs : List (Str × DV)} (cl : Cls K C) (ty : PySem.W.findIn K (.ref C) "__class__" = some (some (.builtin "object.__class__")) ∧ PySem.W.specialIn K (.builtin "object.__class__") "__get__" = some (some (.builtin "getset_descriptor.__get__")) ∧ PySem.W.takesIn K (.builtin "object.__class__") = some true ∧ PySem.W.mroIn K C (.type "object") = some true ∧ PySem.W.kitOne K (.ref C) (.ref C) = some true) :
    RC K (rIsi K) [.ins C fs, .raw (.ref C)] M (.bl true) := fun N F us H w hr Q k => by
  obtain ⟨u, v, rfl, r1, r2⟩ := rpa2 hr
  cases r2.raw_of
  obtain ⟨a, dx, gs, rfl, ha, hf⟩ := r1.ins_of
  exact ⟨_, _, _, _, true, rfl, .own C, .base (.ins (w.fr _ _ ha) cl ty.1 ty.2.1 ty.2.2.1 ty.2.2.2.1), ty.2.2.2.2, k _ _ M F H (Evl.Ex.refl F) ⟨rfl, rfl⟩ w (.bl true)⟩
/-! short ways -/
theorem ev_andF (h : Ev K ta ρ M (.bl false)) : Ev K (tAndV ta tb) ρ M (.bl false) := evr_andV (h.go ⟨false, rfl, rfl, rfl⟩)
theorem ev_andTr (h : Ev K ta ρ M (.bl true)) (h2 : Ev K tb ρ M d) : Ev K (tAndV ta tb) ρ M d := evr_andV (h.go ⟨true, rfl, h2⟩)
theorem ev_orTr (h : Ev K ta ρ M (.bl true)) : Ev K (tOrV ta tb) ρ M (.bl true) := evr_orV (h.go ⟨true, rfl, rfl, rfl⟩)
theorem ev_orF (h : Ev K ta ρ M (.bl false)) (h2 : Ev K tb ρ M d) : Ev K (tOrV ta tb) ρ M d := evr_orV (h.go ⟨false, rfl, h2⟩)
theorem evr_of (h : Ev K te ρ M d) (hr : R d M) : EvR K te ρ M R := h.go hr
theorem xs_retE {P : Post} (h : Ev K te ρ M d) (hr : P.rt d M) : XS K (tRet te) ρ M P := xs_ret (h.go hr)
theorem xs_setE {i : Nat} {t : TS} {P : Post} (h : Ev K te ρ M d) (k : XS K t (ρ.set i (some d)) M P) : XS K (tSeq (tAsg te (gName i)) t) ρ M P := xs_seq (xs_set h k)
theorem xs_ifE {tt : TT} {t u v : TS} {P : Post} {b : Bool} (h : EvT K tt ρ M b) (h1 : b = true → XS K t ρ M { P with nx := fun ρ' M' => XS K v ρ' M' P }) (h2 : b = false → XS K u ρ M { P with nx := fun ρ' M' => XS K v ρ' M' P }) : XS K (tSeq (tIfS tt t u) v) ρ M P := xs_seq (xs_if2 h h1 h2)
/-- a word between a statement and the rest -/
theorem xs_cut {t u : TS} {P : Post} (Mid : Rho → Ms → Prop) (h : XS K t ρ M { P with nx := Mid }) (k : ∀ ρ' M', Mid ρ' M' → XS K u ρ' M' P) : XS K (tSeq t u) ρ M P := xs_seq fun N F σ H D S e => h N F σ H D S ⟨fun F' σ' H' ρ' M' e1 h1 S1 => e.nx F' σ' H' ρ' M' e1 (k ρ' M' h1) S1, e.rt, e.bk, e.ct⟩
theorem xs_asgE {g : TG} {t : TS} {P : Post} (h : EvR K te ρ M fun d M' => BdG K g ρ M' d fun ρ' M'' => XS K t ρ' M'' P) : XS K (tSeq (tAsg te g) t) ρ M P := xs_seq (xs_asg h)
/-- if t: leave; then the rest -/
theorem xs_whenE {tt : TT} {t v : TS} {P : Post} {b : Bool} (h : EvT K tt ρ M b) (h1 : b = true → XS K t ρ M { P with nx := fun ρ' M' => XS K v ρ' M' P }) (h2 : b = false → XS K v ρ M P) : XS K (tSeq (tIfS tt t tNext) v) ρ M P := xs_ifE h h1 fun e => xs_next (h2 e)
theorem xs_unpackE {n : Nat} {gs : TGs} {t : TS} {P : Post} {ds : List DV} (h : Ev K te ρ M (.tup ds)) (hn : ds.length = n) (k : BdGs K gs ρ M ds fun ρ' M' => XS K t ρ' M' P) : XS K (tSeq (tAsg te (gTup K n gs)) t) ρ M P := xs_seq (xs_asg (h.go (bd_tup k hn)))
theorem bds_nm {i : Nat} {gs : TGs} {ds : List DV} {RR : Rho → Ms → Prop} (h : BdGs K gs (ρ.set i (some d)) M ds RR) : BdGs K (gCons (gName i) gs) ρ M (d :: ds) RR := bds_cons (bd_name h)
/-- a, b = e1, e2 -/
theorem xs_par {i j : Nat} {ta : TA} {t : TS} {P : Post} (h : EvAR K ta ρ M fun ds M1 => ∃ d e, ds = [d, e] ∧ XS K t ((ρ.set i (some d)).set j (some e)) M1 P) : XS K (tSeq (tPar i j ta) t) ρ M P := xs_seq fun N F σ H D S e => h N F σ H S _ fun vs ds M1 F1 H1 e1 ⟨d, e', hd, hx⟩ w1 r1 => by
  subst hd
  obtain ⟨u, v, rfl, r2, r3⟩ := rpa2 r1
  exact ⟨u, v, rfl, e.nx F1 _ H1 _ M1 e1 hx ⟨w1, ((S.e.mono e1).set r2 i).set r3 j⟩⟩
theorem xs_par3 {i j l : Nat} {ta : TA} {t : TS} {P : Post} (h : EvAR K ta ρ M fun ds M1 => ∃ d e g, ds = [d, e, g] ∧ XS K t (((ρ.set i (some d)).set j (some e)).set l (some g)) M1 P) : XS K (tSeq (tPar3 i j l ta) t) ρ M P := xs_seq fun N F σ H D S e => h N F σ H S _ fun vs ds M1 F1 H1 e1 ⟨d, e', g, hd, hx⟩ w1 r1 => by
  subst hd
  cases r1 with
  | cons r1 t1 => cases t1 with
    | cons r2 t2 => cases t2 with
      | cons r3 t3 => cases t3; exact ⟨_, _, _, rfl, e.nx F1 _ H1 _ M1 e1 hx ⟨w1, (((S.e.mono e1).set r1 i).set r2 j).set r3 l⟩⟩
/-- self.f = e, of an owned instance -/
theorem xs_putF1 {tv : TE} {f : Str} {P : Post} {a C : Addr} {fs : List (Str × DV)} {i : Nat} (c : Cls K C) (n : NoAttr K C f) (hl : fs.length < 1000) (h : Ev K tv ρ M d) (ha : Ev K ta ρ M (.raw (.ref a))) (hi : M[i]? = some (a, MO.ins C fs)) (k : P.nx ρ (M.set i (a, MO.ins C (putD f d fs)))) : XS K (sFld K ta tv f) ρ M P :=
  fun N F σ H D S e => h N F σ H S _ fun v d' M1 F1 H1 e1 ⟨h1, h2⟩ w1 r1 => ha N F1 σ H1 ⟨by subst h2; exact w1, S.e.mono e1⟩ _ fun u o M2 F2 H2 e2 ⟨h3, h4⟩ w2 r2 => by
    subst h1 h2 h3 h4
    cases r2.raw_of
    obtain ⟨_, dx, gs, hg, hf⟩ := w2.ce a _ (List.mem_append_right N (List.mem_of_getElem? hi))
    refine ⟨a, C, dx, gs, rfl, hg, c, n, by rw [hf.length]; exact hl, ?_⟩
    have hp : ∀ {gs : List (Str × V)} {fs : List (Str × DV)}, RpF K F2 gs fs → RpF K F2 (putF f v gs) (putD f d' fs) := by
      intro gs fs hf
      induction fs generalizing gs with
      | nil => cases hf; exact .cons (r1.mono e2) .nil
      | cons q fs ih =>
        cases hf with
        | cons hq ht =>
          unfold putF putD
          split
          · exact .cons (r1.mono e2) ht
          · exact .cons hq (ih ht)
    have w3 := w2.put (i := N.length + i) (by rw [List.getElem?_append_right (Nat.le_add_right _ _), Nat.add_sub_cancel_left]; exact hi) (mo' := .ins C (putD f d' fs)) (o := .ins C dx (putF f v gs)) ⟨dx, _, upd_same, hp hf⟩
    rw [List.set_append_right _ _ (Nat.le_add_right _ _), Nat.add_sub_cancel_left] at w3
    exact e.nx F2 _ _ _ _ (e1.trans e2) k ⟨w3, S.e.mono (e1.trans e2)⟩
theorem xs_putF {tv : TE} {f : Str} {t : TS} {P : Post} {a C : Addr} {fs : List (Str × DV)} {i : Nat} (c : Cls K C) (n : NoAttr K C f) (hl : fs.length < 1000) (h : Ev K tv ρ M d) (ha : Ev K ta ρ M (.raw (.ref a))) (hi : M[i]? = some (a, MO.ins C fs)) (k : XS K t ρ (M.set i (a, MO.ins C (putD f d fs))) P) : XS K (tSeq (sFld K ta tv f) t) ρ M P := xs_seq (xs_putF1 c n hl h ha hi k)
end
end DD

set_option Elab.async false
set_option linter.all false
set_option maxRecDepth 100000
set_option maxHeartbeats 4000000
namespace DD
open PySem PySem.Spec PyProof.Rows L2
/-! data that can be shown and compared: small ints, plain texts, tuples and lists of such -/
mutual
def fit : DV → Bool
  | .non => true
  | .bl _ => true
  | .int i => decide (i.natAbs < 10 ^ 40)
  | .str s => PyData.canLay0 (.str s) && s.cps.toList.all fun c => decide (c < 16 ^ 8)
  | .tup xs => fitA xs
  | .lst xs => fitA xs
  | .ins _ _ => false
  | .rd _ => false
  | .raw _ => false
  | .dic => false
def fitA : List DV → Bool
  | [] => true
  | x :: xs => fit x && fitA xs
end
mutual
/-- how deep, how much -/
def dep : DV → Nat
  | .tup xs => depA xs + 1
  | .lst xs => depA xs + 1
  | _ => 0
def depA : List DV → Nat
  | [] => 0
  | x :: xs => max (dep x) (depA xs)
end
mutual
def blk : DV → Nat
  | .str s => s.cps.size
  | .tup xs => blkA xs
  | .lst xs => blkA xs
  | _ => 0
def blkA : List DV → Nat
  | [] => 0
  | x :: xs => blk x + 1 + blkA xs
end
theorem int_short {i : Int} (h : i.natAbs < 10 ^ 40) : (PyData.shown (.int i)).length ≤ 41 ∧ i.natAbs.log2 < 1920 := by
  refine ⟨?_, ?_⟩
  · rw [PyData.shown_int]
    have := int_text_length_le10 (k := 40) (by decide) h
    show (Str.ofString (toString i)).length ≤ 41
    rw [PySem.ofString_length]
    exact this
  · refine log2_small (Nat.lt_of_lt_of_le h ?_)
    decide +kernel
mutual
theorem fit_py : ∀ (d : DV), fit d = true → ∃ p, toPy d = some p ∧ p.showable = true ∧ p.hasDict = false ∧ p.depth = dep d ∧ p.leavesShort 41 = true ∧ p.bulk = blk d ∧ p.canLay0 = true
  | .non, _ => ⟨.none, rfl, rfl, rfl, rfl, rfl, rfl, rfl⟩
  | .bl b, _ => ⟨.bool b, rfl, rfl, rfl, rfl, rfl, rfl, rfl⟩
  | .int i, h => by
    have hi := int_short (of_decide_eq_true h)
    exact ⟨.int i, rfl, decide_eq_true hi.2, rfl, rfl, decide_eq_true hi.1, rfl, rfl⟩
  | .str s, h => by
    have h' := Bool.and_eq_true_iff.mp h
    exact ⟨.str s, rfl, rfl, rfl, rfl, h'.2, rfl, h'.1⟩
  | .tup xs, h => by
    obtain ⟨ps, h1, h2, h3, h4, h5, h6, h7⟩ := fitA_py xs h
    refine ⟨.tuple ps, by unfold toPy; rw [h1]; rfl, h2, h3, ?_, h5, h6, h7⟩
    show PyData.depthAll ps + 1 = depA xs + 1
    rw [h4]
  | .lst xs, h => by
    obtain ⟨ps, h1, h2, h3, h4, h5, h6, h7⟩ := fitA_py xs h
    refine ⟨.list ps, by unfold toPy; rw [h1]; rfl, h2, h3, ?_, h5, h6, h7⟩
    show PyData.depthAll ps + 1 = depA xs + 1
    rw [h4]
  | .ins _ _, h => by cases h
  | .rd _, h => by cases h
  | .raw _, h => by cases h
  | .dic, h => by cases h
theorem fitA_py : ∀ (xs : List DV), fitA xs = true → ∃ ps, toPyA xs = some ps ∧ PyData.showableAll ps = true ∧ PyData.hasDictAll ps = false ∧ PyData.depthAll ps = depA xs ∧ PyData.leavesShortAll 41 ps = true ∧ PyData.bulkAll ps = blkA xs ∧ PyData.canLayAll0 ps = true
  | [], _ => ⟨[], rfl, rfl, rfl, rfl, rfl, rfl, rfl⟩
  | x :: xs, h => by
    have h' := Bool.and_eq_true_iff.mp h
    obtain ⟨p, a1, a2, a3, a4, a5, a6, a7⟩ := fit_py x h'.1
    obtain ⟨ps, b1, b2, b3, b4, b5, b6, b7⟩ := fitA_py xs h'.2
    refine ⟨p :: ps, by unfold toPyA; rw [a1, b1], ?_, ?_, ?_, ?_, ?_, ?_⟩
    · show (p.showable && PyData.showableAll ps) = true; rw [a2, b2]; rfl
    · show (p.hasDict || PyData.hasDictAll ps) = false; rw [a3, b3]; rfl
    · show max p.depth (PyData.depthAll ps) = max (dep x) (depA xs); rw [a4, b4]
    · show (p.leavesShort 41 && PyData.leavesShortAll 41 ps) = true; rw [a5, b5]; rfl
    · show p.bulk + 1 + PyData.bulkAll ps = blk x + 1 + blkA xs; rw [a6, b6]
    · show (p.canLay0 && PyData.canLayAll0 ps) = true; rw [a7, b7]; rfl
end
/-- what is asked where data is shown or compared -/
structure Fit (d : DV) : Prop where
  f : fit d = true
  dp : dep d ≤ 60
  b : blk d ≤ 100000
theorem Fit.py {d : DV} (h : Fit d) : ∃ p, toPy d = some p ∧ p.showable = true ∧ p.hasDict = false ∧ p.depth ≤ 100 ∧ p.shown.length ≤ sizeLine ∧ SeqAt.shaped p = true := by
  obtain ⟨p, h1, h2, h3, h4, h5, h6, h7⟩ := fit_py d h.f
  have hd := h.dp
  have hb := h.b
  refine ⟨p, h1, h2, h3, by omega, ?_, ?_⟩
  · have := PyData.shown_le_bulk 41 (by decide) p h5
    rw [h6] at this
    rw [sizeLine_eq]
    omega
  · unfold SeqAt.shaped
    rw [h7, decide_eq_true (show p.depth ≤ 64 by omega)]
    rfl
def showD (d : DV) : Str := match toPy d with
  | some p => p.shown
  | none => Str.empty
def eqD (d e : DV) : Bool := match toPy d, toPy e with
  | some p, some q => PyData.eqv p q
  | _, _ => false
section
variable {K : PySem.W.Frag} {M : Ms} {x y : DV}
theorem rc_show (h : Fit x) : RC K (rRepr K) [x] M (.str (showD x)) := by
  obtain ⟨p, h1, h2, h3, h4, h5, h6⟩ := h.py
  have := rc_repr (K := K) (M := M) h1 h2 h3 h4 h5
  unfold showD
  rw [h1]
  exact this
theorem rv_eqF (hx : Fit x) (hy : Fit y) : RV K (rEqU K) x y M (.bl (eqD x y)) := by
  obtain ⟨p, h1, _, _, _, _, h6⟩ := hx.py
  obtain ⟨q, k1, _, _, _, _, k6⟩ := hy.py
  have := rv_eqD (K := K) (M := M) h1 k1 h6 k6
  unfold eqD
  rw [h1, k1]
  exact this
theorem rv_neF (hx : Fit x) (hy : Fit y) : RV K (rNeU K) x y M (.bl (!eqD x y)) := by
  obtain ⟨p, h1, _, _, _, _, h6⟩ := hx.py
  obtain ⟨q, k1, _, _, _, _, k6⟩ := hy.py
  have := rv_neD (K := K) (M := M) h1 k1 h6 k6
  unfold eqD
  rw [h1, k1]
  exact this
end
mutual
theorem eqv_self : ∀ (p : PyData), p.hasDict = false → PyData.eqv p p = true
  | .none, _ => rfl
  | .bool b, _ => by show (b == b) = true; simp
  | .int i, _ => by show (i == i) = true; simp
  | .str s, _ => by show (s == s) = true; simp
  | .list xs, h => by show PyData.eqvAll xs xs = true; exact eqvA_self xs h
  | .tuple xs, h => by show PyData.eqvAll xs xs = true; exact eqvA_self xs h
  | .dict _, h => by cases h
theorem eqvA_self : ∀ (ps : List PyData), PyData.hasDictAll ps = false → PyData.eqvAll ps ps = true
  | [], _ => rfl
  | p :: ps, h => by
    have h' := Bool.or_eq_false_iff.mp (show (p.hasDict || PyData.hasDictAll ps) = false from h)
    show (PyData.eqv p p && PyData.eqvAll ps ps) = true
    rw [eqv_self p h'.1, eqvA_self ps h'.2]; rfl
end
theorem eqD_self {d : DV} (h : Fit d) : eqD d d = true := by
  obtain ⟨p, h1, h2, h3, h4, h5, h6⟩ := h.py
  unfold eqD
  rw [h1]
  exact eqv_self p h3
theorem fitA_ints {ns : List Int} (h : ∀ n ∈ ns, n.natAbs < 10 ^ 40) : fitA (ns.map .int) = true := by
  induction ns with
  | nil => rfl
  | cons n r ih =>
    show (decide (n.natAbs < 10 ^ 40) && fitA (r.map .int)) = true
    rw [decide_eq_true (h n List.mem_cons_self), ih fun m hm => h m (List.mem_cons_of_mem _ hm)]; rfl
theorem depA_ints {ns : List Int} : depA (ns.map .int) = 0 := by
  induction ns with
  | nil => rfl
  | cons n r ih => show max 0 (depA (r.map .int)) = 0; rw [ih]; rfl
theorem blkA_ints {ns : List Int} : blkA (ns.map .int) = ns.length := by
  induction ns with
  | nil => rfl
  | cons n r ih => show 0 + 1 + blkA (r.map .int) = r.length + 1; rw [ih]; omega
theorem Fit.intsL {ns : List Int} (h : ∀ n ∈ ns, n.natAbs < 10 ^ 40) (hl : ns.length ≤ 100000) : Fit (.lst (ns.map .int)) := ⟨fitA_ints h, by show depA (ns.map .int) + 1 ≤ 60; rw [depA_ints]; decide, by show blkA (ns.map .int) ≤ _; rw [blkA_ints]; exact hl⟩
theorem Fit.intsT {ns : List Int} (h : ∀ n ∈ ns, n.natAbs < 10 ^ 40) (hl : ns.length ≤ 100000) : Fit (.tup (ns.map .int)) := ⟨fitA_ints h, by show depA (ns.map .int) + 1 ≤ 60; rw [depA_ints]; decide, by show blkA (ns.map .int) ≤ _; rw [blkA_ints]; exact hl⟩
/-- a list of two alike -/
theorem Fit.two {d : DV} (h : Fit d) (hd : dep d ≤ 50) (hb : blk d ≤ 40000) : Fit (.lst [d, d]) := ⟨by show (fit d && (fit d && true)) = true; rw [h.f]; rfl, by show max (dep d) (max (dep d) 0) + 1 ≤ 60; omega, by show blk d + 1 + (blk d + 1 + 0) ≤ 100000; omega⟩
theorem eq_nil_ints {ns : List Int} : eqD (.lst (ns.map .int)) (.lst []) = ns.isEmpty := by
  cases ns with
  | nil => rfl
  | cons n r =>
    unfold eqD
    cases h : toPy (.lst ((n :: r).map .int)) with
    | none => rfl
    | some p =>
      have : ∃ ps q, p = .list (q :: ps) := by
        unfold toPy at h
        cases h2 : toPyA ((n :: r).map DV.int) with
        | none => rw [h2] at h; cases h
        | some qs =>
          rw [h2] at h
          cases h
          unfold List.map toPyA at h2
          cases h3 : toPyA (r.map DV.int) with
          | none => rw [h3] at h2; cases h2
          | some rs => rw [h3] at h2; cases h2; exact ⟨_, _, rfl⟩
      obtain ⟨ps, q, rfl⟩ := this
      rfl
end DD

set_option Elab.async false
set_option linter.all false
set_option maxRecDepth 100000
set_option maxHeartbeats 4000000
namespace DD
open PySem PySem.Spec PyProof.Rows L2
/-- what is not come to -/
def tNv : TE := fun _ _ _ => False
theorem pe_nv {X : Cx} {e : Expr} : PE X e tNv := ⟨fun _ _ _ _ _ _ h => h.elim⟩
section
variable {K : PySem.W.Frag} {ρ : Rho} {M : Ms} {ta : TE} {R : DV → Ms → Prop}
theorem rpa_rg {F : Hp} {a : Int} : ∀ (n : Nat), RpA K F ((List.range n).map fun i => V.int (a + (i : Nat))) ((List.range n).map fun i : Nat => DV.int (a + (i : Nat)))
  | 0 => .nil
  | n + 1 => by
    rw [List.range_succ, List.map_append, List.map_append]
    exact (rpa_rg n).snoc (.int _)
/-- list(range(n)) -/
theorem ev_listRg1 {n : Int} (h : Ev K ta ρ M (.int n)) (h0 : 0 ≤ n) (h1 : n ≤ 100000) : Ev K (tLstRg (tRg1 ta)) ρ M (.lst ((List.range n.toNat).map fun i : Nat => DV.int (0 + (i : Nat)))) := fun N F σ H S Q q => h N F σ H S _ fun v d M' F1 H1 e1 ⟨hd, hm⟩ w1 r1 => by
  subst hd hm
  refine ⟨n, r1.int_of, RgOk.of_le (Int.le_refl 0) (by omega) (by omega) h0, fun p hp => ?_⟩
  refine q _ _ _ _ _ (e1.trans (ex_new (w1.fresh hp))) ⟨rfl, rfl⟩ (w1.new hp _) (.lst upd_same ?_)
  show RpA K _ (rgV 0 n) _
  unfold rgV
  rw [Int.sub_zero]
  exact rpa_rg _
/-- a text in a tuple of texts -/
theorem rv_inS {s : Str} {ss : List Str} : RV K (rIn K false) (.str s) (.tup (ss.map .str)) M (.bl (ss.any fun t => t == s)) := fun N F u v H w h1 h2 Q k => by
  obtain ⟨a, xs, rfl, ha, ra⟩ := h2.tup_of
  have hx := ra.strs_of
  subst hx
  rw [h1.str_of]
  refine ⟨a, _, rfl, .inr (Evl.ex_t w.fr ha), rfl, ?_, ?_⟩
  · rw [List.all_eq_true]; intro x hx; obtain ⟨t, _, rfl⟩ := List.mem_map.mp hx; rfl
  · show Q (.bl (inV (.str s) (ss.map .str))) H
    have e : inV (.str s) (ss.map V.str) = ss.any fun t => t == s := by unfold inV; rw [List.any_map]; rfl
    rw [e]
    exact k _ _ M F H (Evl.Ex.refl F) ⟨rfl, rfl⟩ w (.bl _)
/-- max of an owned list -/
theorem rcr_maxC {ns : List Int} {a : Addr} (hm : (a, MO.lst (ns.map DV.int)) ∈ M) (h0 : 0 < ns.length) (k : ∀ m, m ∈ ns → (∀ y, y ∈ ns → y ≤ m) → R (.int m) M) : RCR K (rMax K) [.raw (.ref a)] M R := fun N F us H w hr Q q => by
  obtain ⟨u, rfl, r1⟩ := rpa1 hr
  cases r1.raw_of
  obtain ⟨_, xs, ha, ra⟩ := w.ce a _ (List.mem_append_right N hm)
  exact ⟨a, ns, rfl, by rw [← ra.ints_of]; exact SqL.of ha, h0, fun m h1 h2 => q _ _ M F H (Evl.Ex.refl F) (k m h1 h2) w (.int m)⟩
end
end DD

set_option Elab.async false
set_option linter.all false
set_option maxRecDepth 100000
set_option maxHeartbeats 4000000
namespace DD
open PySem PySem.Spec PyProof.Rows L2
section
variable {X : Cx} (K : PySem.W.Frag) (hK : X.K = K)
include hK
theorem wListOf : CallR X (.type "list") (Evl.rListS K) := hK ▸ call_list_of
end
section
variable {K : PySem.W.Frag} {ρ : Rho} {M : Ms} {ds es : List DV} {te : TE} {R : DV → Ms → Prop}
theorem rc_listT : RC K (Evl.rListS K) [.tup ds] M (.lst ds) := fun N F us H w hr Q k => by
  obtain ⟨u, rfl, r1⟩ := rpa1 hr
  obtain ⟨a, xs, rfl, ha, ra⟩ := r1.tup_of
  exact ⟨a, xs, rfl, .inr (Evl.ex_t w.fr ha), fun p hp => k _ _ M _ _ (ex_new (w.fresh hp)) ⟨rfl, rfl⟩ (w.new hp _) (.lst upd_same (ra.mono (ex_new (w.fresh hp))))⟩
theorem rc_listL : RC K (Evl.rListS K) [.lst ds] M (.lst ds) := fun N F us H w hr Q k => by
  obtain ⟨u, rfl, r1⟩ := rpa1 hr
  obtain ⟨a, xs, rfl, ha, ra⟩ := r1.lst_of
  exact ⟨a, xs, rfl, .inl (SqL.of (w.fr _ _ ha)), fun p hp => k _ _ M _ _ (ex_new (w.fresh hp)) ⟨rfl, rfl⟩ (w.new hp _) (.lst upd_same (ra.mono (ex_new (w.fresh hp))))⟩
/-- an owned list and another one: owned -/
theorem rvr_addC {a : Addr} (hm : (a, MO.lst ds) ∈ M) (hl : ds.length + es.length ≤ 100000) (k : ∀ p, R (.raw (.ref p)) ((p, .lst (ds ++ es)) :: M)) : RVR K (rAddU K) (.raw (.ref a)) (.lst es) M R := fun N F u v H w h1 h2 Q q => .inr (.inr (.inr (by
  cases h1.raw_of
  obtain ⟨_, xs, hx, rx⟩ := w.ce a _ (List.mem_append_right N hm)
  obtain ⟨b, ys, rfl, hb, rb⟩ := h2.lst_of
  refine ⟨a, b, xs, ys, rfl, rfl, hx, w.fr _ _ hb, Evl.sz_of (by rw [rx.length, rb.length]; exact hl), fun p hp => ?_⟩
  exact q _ _ ((p, .lst (ds ++ es)) :: M) F _ (Evl.Ex.refl F) (k p) ((w.cell hp (mo := .lst (ds ++ es)) ⟨_, upd_same, rx.append rb⟩).perm List.perm_middle) (.raw _))))
/-- .. not owned -/
theorem rv_addC {a : Addr} (hm : (a, MO.lst ds) ∈ M) (hl : ds.length + es.length ≤ 100000) : RV K (rAddU K) (.raw (.ref a)) (.lst es) M (.lst (ds ++ es)) := fun N F u v H w h1 h2 Q q => .inr (.inr (.inr (by
  cases h1.raw_of
  obtain ⟨_, xs, hx, rx⟩ := w.ce a _ (List.mem_append_right N hm)
  obtain ⟨b, ys, rfl, hb, rb⟩ := h2.lst_of
  refine ⟨a, b, xs, ys, rfl, rfl, hx, w.fr _ _ hb, Evl.sz_of (by rw [rx.length, rb.length]; exact hl), fun p hp => ?_⟩
  have hn := w.fresh hp
  exact q _ _ M _ _ (ex_new hn) ⟨rfl, rfl⟩ (w.new hp _) (.lst upd_same ((rx.append rb).mono (ex_new hn))))))
theorem evr_drop2 (h : EvR K te ρ M fun d M1 => ∃ c c' M2, M1 = c :: c' :: M2 ∧ R d (c :: M2)) : EvR K te ρ M R := fun N F σ H Z Q q =>
  h N F σ H Z Q fun v d M1 F1 H1 e1 ⟨c, c', M2, hm, hr⟩ w1 r1 => by
    subst hm
    exact q _ _ (c :: M2) F1 H1 e1 hr (w1.perm (List.perm_middle.symm.trans ((List.Perm.swap c c' M2).append_left N))).drop r1
end
end DD

set_option Elab.async false
set_option linter.all false
set_option maxRecDepth 100000
set_option maxHeartbeats 4000000
namespace DD
open PySem PySem.Spec PyProof.Rows L2
/-! max of a tuple of ints; is True -/
def rMaxT (K : PySem.W.Frag) : List V → Hp → VK → Prop := fun vs H Q => ∃ (a : Addr) (ns : List Int), vs = [V.ref a] ∧ SqT K H a (ns.map V.int) ∧ 0 < ns.length ∧ ∀ m, m ∈ ns → (∀ y, y ∈ ns → y ≤ m) → Q (.int m) H
theorem hold_ints {h : Heap} {vs : List Value} {ns : List Int} (hi : IntsAre vs ns) : PySem.W.HoldAll h vs ns := by
  induction hi with
  | nil => exact ⟨_, .nil⟩
  | cons n t _ ih => obtain ⟨as, r⟩ := ih; exact ⟨_, .cons (.int n t) r⟩
theorem maxOf_int : ∀ (xs : List Int) (x : Int), PySem.W.maxOf x xs ∈ x :: xs ∧ ∀ y ∈ x :: xs, y ≤ PySem.W.maxOf x xs
  | [], x => ⟨List.mem_cons_self, fun y h => by rw [List.mem_singleton.mp h]; exact Int.le_refl _⟩
  | z :: r, x => by
    have e : PySem.W.maxOf x (z :: r) = PySem.W.maxOf (if decide (x < z) = true then z else x) r := rfl
    have ih := maxOf_int r (if decide (x < z) = true then z else x)
    rw [e]
    have hh := ih.2 _ List.mem_cons_self
    refine ⟨?_, fun y hy => ?_⟩
    · rcases List.mem_cons.mp ih.1 with h | h
      · rw [h]; split
        · exact List.mem_cons_of_mem _ List.mem_cons_self
        · exact List.mem_cons_self
      · exact List.mem_cons_of_mem _ (List.mem_cons_of_mem _ h)
    · rcases List.mem_cons.mp hy with rfl | hy
      · refine Int.le_trans ?_ hh
        split
        · rename_i h; exact Int.le_of_lt (of_decide_eq_true h)
        · exact Int.le_refl _
      · rcases List.mem_cons.mp hy with rfl | hy
        · refine Int.le_trans ?_ hh
          split
          · exact Int.le_refl _
          · rename_i h; exact Int.not_lt.mp fun z => h (decide_eq_true z)
        · exact ih.2 y (List.mem_cons_of_mem _ hy)
theorem cr_maxT {X : Cx} {k : Nat} (hr : Room k X.A) : CallR X (.builtin "max") (rMaxT X.K) := by
  intro pins s σ H vs us Q I r h
  obtain ⟨a, ns, rfl, hs, hne, q⟩ := h
  obtain ⟨its, rv, hl, _⟩ := I.tuple hs
  rw [Vals.ref1 r]
  cases ns with
  | nil => exact absurd hne (Nat.lt_irrefl 0)
  | cons x xs =>
    refine PySem.W.max_tuple_datum (x := x) (xs := xs) hr.hd hl (hold_ints rv.ints) (by have := hr.units; show X.A.units + 1 + 0 < cLine; omega) fun i v h' tk hv hh hk => ?_
    obtain ⟨as, hh⟩ := hh
    have hm := maxOf_int xs x
    generalize PySem.W.maxOf x xs = m at hh hm
    cases hh with
    | int _ t => exact ⟨.int _, H, I.kept hk, ⟨_, rfl⟩, q m hm.1 hm.2⟩
theorem wMaxT {X : Cx} (K : PySem.W.Frag) (hK : X.K = K) {k : Nat} (hr : Room k X.A) : CallR X (.builtin "max") (rMaxT K) := hK ▸ cr_maxT hr
def rNotB : R2 := fun x y H Q => ∃ c d, x = .bl c ∧ y = .bl d ∧ Q (.bl (c != d)) H
theorem op_notB {X : Cx} : OpR X (compareOp .IsNot) rNotB := by
  intro pins s σ H x y v u Q I rx ry h
  obtain ⟨c, d, rfl, rfl, q⟩ := h
  cases rx; cases ry
  exact isnot_bool ⟨.bl _, H, I, rfl, q⟩
section
variable {K : PySem.W.Frag} {M : Ms} {R : DV → Ms → Prop}
theorem rcr_maxT {ns : List Int} (h0 : 0 < ns.length) (k : ∀ m, m ∈ ns → (∀ y, y ∈ ns → y ≤ m) → R (.int m) M) : RCR K (rMaxT K) [.tup (ns.map DV.int)] M R := fun N F us H w hr Q q => by
  obtain ⟨u, rfl, r1⟩ := rpa1 hr
  obtain ⟨a, xs, rfl, ha, ra⟩ := r1.tup_of
  exact ⟨a, ns, rfl, by rw [← ra.ints_of]; exact Evl.ex_t w.fr ha, h0, fun m h1 h2 => q _ _ M F H (Evl.Ex.refl F) (k m h1 h2) w (.int m)⟩
theorem rv_notB {c d : Bool} : RV K rNotB (.bl c) (.bl d) M (.bl (c != d)) := fun N F u v H w h1 h2 Q k => ⟨c, d, h1.bl_of, h2.bl_of, k _ _ M F H (Evl.Ex.refl F) ⟨rfl, rfl⟩ w (.bl _)⟩
end
end DD

set_option Elab.async false
set_option linter.all false
set_option maxRecDepth 100000
set_option maxHeartbeats 4000000
namespace DD
open PySem PySem.Spec PyProof.Rows L2
/-! an empty dict; what it is shown as -/
def rReprE : List V → Hp → VK → Prop := fun xs H Q => ∃ p, xs = [.ref p] ∧ H p = some (.dK []) ∧ Q (.str (PyData.shown (.dict []))) H
def rReprU (K : PySem.W.Frag) : List V → Hp → VK → Prop := fun xs H Q => rRepr K xs H Q ∨ rReprE xs H Q
theorem call_reprE {X : Cx} {k : Nat} (hG : X.A.guards = some []) (hr : Room k X.A) : CallR X (.builtin "repr") rReprE := by
  intro pins z σ H xs us Q I r h
  obtain ⟨p, rfl, hp, q⟩ := h
  obtain ⟨u, rfl, ru⟩ := vals1 r
  cases (show u = Value.ref p from ru)
  obtain ⟨_, hsm, vs, rel, o, es, ep, ho, hx, hd, _, hpr, _⟩ := dk_of I.hok hp
  cases rel
  have he : es.toList = [] := by
    generalize es.toList = l at hpr ⊢
    cases hpr; rfl
  have rd : Reads z.heap (.ref p) (.dict []) (p :: [] ++ []) := .dict ho hx.1 hd (by rw [he]; exact .nil) (by rw [he]; exact .nil)
  have hu : X.A.units + ((PyData.dict []).depth + 1) < cLine := by have := hr.units; show X.A.units + (1 + 1) < cLine; omega
  exact PySem.repr_of_reads' rd rfl (fun _ hm => by
    have e : sysModules = p := by simpa using hm
    subst e
    simp at hsm) hG hu (fun _ _ e => e) (fun g tk tk2 hk => ⟨.str _, H, I.kept hk, ⟨_, rfl⟩, q⟩) (by decide +kernel)
theorem wReprU {X : Cx} (K : PySem.W.Frag) (hK : X.K = K) {k : Nat} (hG : X.A.guards = some []) (hr : Room k X.A) : CallR X (.builtin "repr") (rReprU K) := hK ▸ callR_or (call_reprD hG hr) (call_reprE hG hr)
section
variable {K : PySem.W.Frag} {ρ : Rho} {M : Ms} {x : DV} {R : DV → Ms → Prop}
theorem ev_dic : Ev K tDNewK ρ M .dic := fun N F σ H S Q q => fun p hp => q _ _ _ _ _ (ex_new (S.w.fresh hp)) ⟨rfl, rfl⟩ (S.w.new hp _) (.dic upd_same)
theorem rc_showU (h : Fit x) : RC K (rReprU K) [x] M (.str (showD x)) := fun N F us H w hr Q k => .inl (rc_show h N F us H w hr Q k)
theorem rc_showE : RC K (rReprU K) [.dic] M (.str (PyData.shown (.dict []))) := fun N F us H w hr Q k => by
  obtain ⟨u, rfl, r1⟩ := rpa1 hr
  cases r1 with
  | dic h => exact .inr ⟨_, rfl, w.fr _ _ h, k _ _ M F H (Evl.Ex.refl F) ⟨rfl, rfl⟩ w (.str _)⟩
end
end DD

set_option Elab.async false
set_option linter.all false
set_option maxRecDepth 100000
set_option maxHeartbeats 4000000
namespace PySem.W
open PySem PySem.SeqAt PyProof.Rows
section
variable {prog : Program} {w : World} {A : Around} {E : Value → Shared → Prop} {s : Shared}
/-- min of a list of alike data: which item it is -/
theorem min_list_ixD {p : Addr} {ys : Array Value} {d : PyData} {ds : List PyData} {js : List Addr} {Q : Value → Shared → Prop} (h0 : A.handled = none) (h1 : s.heap.IsList p ys) (h2 : ReadsAll s.heap ys.toList (d :: ds) js) (h3 : AlikeAll (d :: ds)) (h4 : A.units + 1 + PyData.depthAll (d :: ds) < cLine)
    (k : ∀ (i : Nat) y g tk, ys[i]? = some y → (d :: ds).getD i .none = minD d ds → (∀ b o, s.heap.get? b = some o → g.get? b = some o) → Q y { s with heap := g, toks := tk }) :
    wpAny (model prog w) A (call (.builtin "min") [.ref p]) Q E s := by
  have size : ys.size = ds.length + 1 := readsAll_len h2
  refine call_min_walkH (iter_listW (A := A.in1) h0 h1 fun z2 eq1 walks start pins writes keeps => ?_)
  refine ⟨_, _, _, _, _, _, _, s.heap, _, rfl, walks, start, pins, by omega, writes, keeps, cmpIn_lt (A := A.in1) h2 h3 (by show A.units + 1 + _ < _; exact h4), fun y z3 at' moves => ?_⟩
  obtain ⟨g, tk, rfl, old⟩ := moved_old eq1 rfl moves
  have last : ys.size - 1 = ds.length := by omega
  have fold := (argBest_fold dataLt PyData.none d ds ds.length (Nat.le_refl _)).2
  rw [List.take_length] at fold
  refine k _ y g tk at' ?_ old
  rw [last]
  exact fold
end
end PySem.W
namespace DD
open PySem PySem.Spec PyProof.Rows L2
abbrev TI3 := PySem.W.T3 Int Int Int
/-- three ints -/
def tri (t : TI3) : DV := .tup [.int t.a, .int t.b, .int t.c]
def rMinT (K : PySem.W.Frag) : List V → Hp → VK → Prop := fun vs H Q => ∃ (a : Addr) (xs : List V) (t : TI3) (ts : List TI3), vs = [V.ref a] ∧ SqL K H a xs ∧ DpAll K H xs ((t :: ts).map PySem.W.Datum.toD) ∧ ∀ (i : Nat) (x : V), xs[i]? = some x → (t :: ts)[i]? = some (PySem.W.minOf t ts) → Q x H
theorem vals_at : ∀ {xs : List V} {us : List Value} {i : Nat} {u : Value}, Vals xs us → us[i]? = some u → ∃ x, xs[i]? = some x ∧ RelV x u
  | _, _, _, _, .nil, h => by simp at h
  | _, _, 0, _, .cons r _, h => by simp at h; subst h; exact ⟨_, rfl, r⟩
  | _, _, i + 1, u, .cons _ t, h => by
    obtain ⟨x, h1, h2⟩ := vals_at (i := i) (u := u) t (by simpa using h)
    exact ⟨x, by simpa using h1, h2⟩
theorem toD_inj {t u : TI3} (h : (PySem.W.Datum.toD t : PyData) = PySem.W.Datum.toD u) : t = u := by
  obtain ⟨a, b, c⟩ := t
  obtain ⟨d, e, f⟩ := u
  have h : PyData.tuple [.int a, .int b, .int c] = PyData.tuple [.int d, .int e, .int f] := h
  injection h with h
  injection h with h1 h
  injection h with h2 h
  injection h with h3 h
  injection h1 with h1
  injection h2 with h2
  injection h3 with h3
  subst h1 h2 h3; rfl
theorem cr_minT {X : Cx} {k : Nat} (hr : Room k X.A) : CallR X (.builtin "min") (rMinT X.K) := by
  intro pins s σ H vs us Q I r h
  obtain ⟨a, xs, t, ts, rfl, hs, hd, q⟩ := h
  obtain ⟨its, rv, hl, _⟩ := I.list hs
  rw [Vals.ref1 r]
  obtain ⟨as, hrd⟩ := Dp.readsAll I _ _ _ hd rv
  have hal := PySem.W.alikeAll_datum (t :: ts)
  have hdep : PyData.depthAll (PySem.W.Datum.toD t :: ts.map PySem.W.Datum.toD) ≤ PySem.W.Datum.depth TI3 := PySem.W.depthAll_map (t :: ts)
  have hmn := PySem.W.minD_map t ts
  have hu := hr.units
  have hdp : PySem.W.Datum.depth TI3 ≤ 10 := by decide
  refine PySem.W.min_list_ixD hr.hd hl.isList (by simpa using hrd) hal (Nat.lt_of_le_of_lt (Nat.add_le_add_left hdep _) (by omega)) fun i v h' tk hi he hk => ?_
  have hi2 : its[i]? = some v := by simpa using hi
  obtain ⟨x, hx, rx⟩ := vals_at rv hi2
  rw [hmn] at he
  have hlen : i < (t :: ts).length := by
    have h1 := (List.getElem?_eq_some_iff.mp hi2).1
    have h2 := rv.length
    have h3 : xs.length = ((t :: ts).map PySem.W.Datum.toD).length := by
      have : ∀ {vs : List V} {ds : List PyData}, DpAll X.K H vs ds → vs.length = ds.length := fun {vs ds} h => by
        induction ds generalizing vs with
        | nil => cases h; rfl
        | cons d r ih => cases h with | cons _ t => simp [ih t]
      exact this hd
    rw [List.length_map] at h3
    omega
  refine ⟨x, H, I.kept hk, rx, q i x hx ?_⟩
  rw [List.getElem?_eq_getElem hlen]
  congr 1
  refine toD_inj ?_
  have : (PySem.W.Datum.toD t :: ts.map PySem.W.Datum.toD).getD i PyData.none = PySem.W.Datum.toD ((t :: ts)[i]) := by
    rw [← List.map_cons, List.getD_eq_getElem?_getD, List.getElem?_map, List.getElem?_eq_getElem hlen]; rfl
  rw [← this]
  exact he
theorem wMinT {X : Cx} (K : PySem.W.Frag) (hK : X.K = K) {k : Nat} (hr : Room k X.A) : CallR X (.builtin "min") (rMinT K) := hK ▸ cr_minT hr
theorem minOf_le : ∀ (ts : List TI3) (t : TI3), PySem.W.minOf t ts ∈ t :: ts ∧ ∀ u ∈ t :: ts, (PySem.W.minOf t ts).a ≤ u.a
  | [], t => ⟨List.mem_cons_self, fun u h => by rw [List.mem_singleton.mp h]; exact Int.le_refl _⟩
  | z :: r, t => by
    have e : PySem.W.minOf t (z :: r) = PySem.W.minOf (if PySem.W.DatumOrd.lt z t = true then z else t) r := rfl
    have ih := minOf_le r (if PySem.W.DatumOrd.lt z t = true then z else t)
    have hlt : PySem.W.DatumOrd.lt z t = if z.a = t.a then (if z.b = t.b then decide (z.c < t.c) else decide (z.b < t.b)) else decide (z.a < t.a) := rfl
    rw [e]
    have hh := ih.2 _ List.mem_cons_self
    have hz : (if PySem.W.DatumOrd.lt z t = true then z else t).a ≤ z.a ∧ (if PySem.W.DatumOrd.lt z t = true then z else t).a ≤ t.a := by
      split
      · rename_i h
        rw [hlt] at h
        split at h
        · rename_i e1; exact ⟨Int.le_refl _, by omega⟩
        · have := of_decide_eq_true h; exact ⟨Int.le_refl _, by omega⟩
      · rename_i h
        rw [hlt] at h
        split at h
        · rename_i e1; exact ⟨by omega, Int.le_refl _⟩
        · have : ¬ z.a < t.a := fun z2 => h (decide_eq_true z2)
          exact ⟨by omega, Int.le_refl _⟩
    refine ⟨?_, fun u hu => ?_⟩
    · rcases List.mem_cons.mp ih.1 with h | h
      · rw [h]; split
        · exact List.mem_cons_of_mem _ List.mem_cons_self
        · exact List.mem_cons_self
      · exact List.mem_cons_of_mem _ (List.mem_cons_of_mem _ h)
    · rcases List.mem_cons.mp hu with rfl | hu
      · omega
      · rcases List.mem_cons.mp hu with rfl | hu
        · omega
        · exact ih.2 u (List.mem_cons_of_mem _ hu)
theorem toPyA_tri : ∀ ts : List TI3, toPyA (ts.map tri) = some (ts.map PySem.W.Datum.toD)
  | [] => rfl
  | t :: r => by
    show (match toPy (tri t), toPyA (r.map tri) with | some y, some ys => some (y :: ys) | _, _ => none) = _
    rw [toPyA_tri r]; rfl
theorem rcr_minT {K : PySem.W.Frag} {M : Ms} {R : DV → Ms → Prop} {ts : List TI3} (h0 : 0 < ts.length) (k : ∀ t, t ∈ ts → (∀ u, u ∈ ts → t.a ≤ u.a) → R (tri t) M) : RCR K (rMinT K) [.lst (ts.map tri)] M R := fun N F us H w hr Q q => by
  obtain ⟨u, rfl, r1⟩ := rpa1 hr
  obtain ⟨a, xs, rfl, ha, ra⟩ := r1.lst_of
  cases ts with
  | nil => exact absurd h0 (Nat.lt_irrefl 0)
  | cons t ts =>
    refine ⟨a, xs, t, ts, rfl, SqL.of (w.fr _ _ ha), RpA.dp w.fr ra (toPyA_tri (t :: ts)), fun i x hx hi => ?_⟩
    obtain ⟨d, hd, rd⟩ := ra.get' hx
    rw [List.getElem?_map, hi] at hd
    cases hd
    have hm := minOf_le ts t
    exact q _ _ M F H (Evl.Ex.refl F) (k _ hm.1 hm.2) w rd
end DD

set_option Elab.async false
set_option linter.all false
set_option maxRecDepth 100000
set_option maxHeartbeats 4000000
namespace DD
open PySem PySem.Spec PyProof.Rows L2
/-! list * int -/
theorem RpA.rep {K : PySem.W.Frag} {F : Hp} {vs : List V} {ds : List DV} (h : RpA K F vs ds) : ∀ n : Nat, RpA K F (List.replicate n vs).flatten (List.replicate n ds).flatten
  | 0 => .nil
  | n + 1 => by
    rw [List.replicate_succ, List.replicate_succ, List.flatten_cons, List.flatten_cons]
    exact h.append (RpA.rep h n)
theorem rv_mulL {K : PySem.W.Frag} {M : Ms} {ds : List DV} {k : Int} (h0 : -(2 ^ 63) ≤ k ∧ k < 2 ^ 63) (hl : ds.length * k.toNat ≤ 100000) : RV K (rMulU K) (.lst ds) (.int k) M (.lst (List.replicate k.toNat ds).flatten) := fun N F u v H w h1 h2 Q q => .inr (.inr (by
  obtain ⟨a, xs, rfl, ha, ra⟩ := h1.lst_of
  cases h2.int_of
  refine ⟨a, k, xs, rfl, rfl, w.fr _ _ ha, h0.1, h0.2, Evl.sz_of (by rw [ra.length]; exact hl), fun p hp => ?_⟩
  have hn := w.fresh hp
  exact q _ _ M _ _ (ex_new hn) ⟨rfl, rfl⟩ (w.new hp _) (.lst upd_same ((ra.rep _).mono (ex_new hn)))))
/-- tuple * int -/
theorem rv_mulT {K : PySem.W.Frag} {M : Ms} {ds : List DV} {k : Int} (h0 : 2 ≤ k ∧ k ≤ 1000) (hn : ds ≠ []) (hl : ds.length ≤ 1000) : RV K (rMulU K) (.tup ds) (.int k) M (.tup (List.replicate k.toNat ds).flatten) := fun N F u v H w h1 h2 Q q => .inr (.inl (by
  obtain ⟨a, xs, rfl, ha, ra⟩ := h1.tup_of
  cases h2.int_of
  refine ⟨a, k, xs, rfl, rfl, Evl.ex_t w.fr ha, fun e => hn (by subst e; cases ra; rfl), h0.1, h0.2, by rw [ra.length]; exact hl, fun p hp => ?_⟩
  have hn := w.fresh hp
  exact q _ _ M _ _ (ex_new hn) ⟨rfl, rfl⟩ (w.new hp _) (.tup (SqT.of upd_same) ((ra.rep _).mono (ex_new hn)))))
end DD

set_option Elab.async false
set_option linter.all false
set_option maxRecDepth 100000
set_option maxHeartbeats 4000000
namespace DD
open PySem PySem.Spec PyProof.Rows L2
/-! rules that hand on what comes, for walks by word -/
section
variable {K : PySem.W.Frag} {ρ : Rho} {M : Ms} {R : DV → Ms → Prop} {RB : Bool → Ms → Prop} {te ta tb to : TE} {t u : TS} {tt : TT} {P : Post} {d x y z : DV} {ds es : List DV} {A B : Prop}
theorem w_var {i : Nat} (h : ρ[i]? = some (some d)) (k : R d M) : EvR K (tVar i) ρ M R := (ev_var h).go k
theorem w_cI {i : Int} (k : R (.int i) M) : EvR K (tC (.int i)) ρ M R := ev_cI.go k
theorem w_cB {i : Bool} (k : R (.bl i) M) : EvR K (tC (.bl i)) ρ M R := ev_cB.go k
theorem w_cN (k : R .non M) : EvR K (tC .non) ρ M R := ev_cN.go k
theorem w_cS {i : Str} (k : R (.str i) M) : EvR K (tC (.str i)) ρ M R := ev_cS.go k
theorem w_cT {n : String} (k : R (.raw (.ty n)) M) : EvR K (tC (.ty n)) ρ M R := ev_cT.go k
theorem w_cR {a : Addr} (k : R (.raw (.ref a)) M) : EvR K (tC (.ref a)) ρ M R := ev_cR.go k
/-- a field, of what stays or of what is owned -/
def FldR (K : PySem.W.Frag) (f : Str) (x : DV) (M : Ms) (R : DV → Ms → Prop) : Prop :=
  (∃ C fs d, x = .ins C fs ∧ Cls K C ∧ NoAttr K C f ∧ fs.lookup f = some d ∧ R d M) ∨ (∃ a C fs d, x = .raw (.ref a) ∧ (a, MO.ins C fs) ∈ M ∧ Cls K C ∧ NoAttr K C f ∧ fs.lookup f = some d ∧ R d M)
theorem w_fld {f : Str} (h : EvR K ta ρ M fun x M1 => FldR K f x M1 R) : EvR K (tFld K ta f) ρ M R := fun N F σ H S Q q => h N F σ H S _ fun v d M1 F1 H1 e1 hd w1 r1 => by
  rcases hd with ⟨C, fs, d', rfl, c, n, l, hr⟩ | ⟨a, C, fs, d', rfl, hm, c, n, l, hr⟩
  · obtain ⟨b, dx, gs, rfl, hg, hf⟩ := r1.ins_of
    obtain ⟨u, hu, ru⟩ := hf.lookup l
    exact ⟨b, C, dx, gs, u, rfl, w1.fr _ _ hg, c, n, hu, q u d' M1 F1 H1 e1 hr w1 ru⟩
  · cases r1.raw_of
    obtain ⟨_, dx, gs, hg, hf⟩ := w1.ce a _ (List.mem_append_right N hm)
    obtain ⟨u, hu, ru⟩ := hf.lookup l
    exact ⟨a, C, dx, gs, u, rfl, hg, c, n, hu, q u d' M1 F1 H1 e1 hr w1 ru⟩
theorem FldR.ins {f : Str} {C : Addr} {fs : List (Str × DV)} (c : Cls K C) (n : NoAttr K C f) (l : fs.lookup f = some d) (k : R d M) : FldR K f (.ins C fs) M R := .inl ⟨_, _, _, rfl, c, n, l, k⟩
theorem FldR.own {f : Str} {a C : Addr} {fs : List (Str × DV)} (hm : (a, MO.ins C fs) ∈ M) (c : Cls K C) (n : NoAttr K C f) (l : fs.lookup f = some d) (k : R d M) : FldR K f (.raw (.ref a)) M R := .inr ⟨_, _, _, _, rfl, hm, c, n, l, k⟩
/-- a method, of what stays or of what is owned -/
def MethR (K : PySem.W.Frag) (C : Addr) (m : Str) (S : SpecD) (t : TA) (ρ : Rho) (x : DV) (M : Ms) (R : DV → Ms → Prop) : Prop :=
  (∃ fs, x = .ins C fs ∧ fs.lookup m = none ∧ EvAR K t ρ M fun ds M2 => S (.ins C fs :: ds) M2 R) ∨ (∃ a fs, x = .raw (.ref a) ∧ (a, MO.ins C fs) ∈ M ∧ fs.lookup m = none ∧ EvAR K t ρ M fun ds M2 => S (.raw (.ref a) :: ds) M2 R)
theorem w_meth {S : SpecD} {E : XK} {ta' : TA} {C : Addr} {m : Str} (h : EvR K ta ρ M fun x M1 => MethR K C m S ta' ρ x M1 R) : EvR K (tMeth C m (spD K S) [] E ta ta') ρ M R := fun N F σ H Z Q q =>
  h N F σ H Z _ fun v x M1 F1 H1 e1 hx w1 r1 => by
    rcases hx with ⟨fs, rfl, hl, h1⟩ | ⟨a, fs, rfl, hm, hl, h1⟩
    · obtain ⟨a, dx, gs, rfl, ha, hf⟩ := id r1.ins_of
      refine ⟨a, dx, gs, rfl, w1.fr _ _ ha, hf.lookup_none hl, ?_⟩
      refine h1 N F1 σ H1 ⟨w1, Z.e.mono e1⟩ _ fun vs ds M2 F2 H2 e2 h2 w2 r2 => ?_
      rw [List.append_nil]
      exact ⟨F2, N, M2, _, R, w2, .cons (r1.mono e2) r2, h2, fun v d M3 F3 H3 e3 hr w3 r3 => q v d M3 F3 H3 ((e1.trans e2).trans e3) hr w3 r3⟩
    · cases r1.raw_of
      obtain ⟨_, dx, gs, ha, hf⟩ := w1.ce a _ (List.mem_append_right N hm)
      refine ⟨a, dx, gs, rfl, ha, hf.lookup_none hl, ?_⟩
      refine h1 N F1 σ H1 ⟨w1, Z.e.mono e1⟩ _ fun vs ds M2 F2 H2 e2 h2 w2 r2 => ?_
      rw [List.append_nil]
      exact ⟨F2, N, M2, _, R, w2, .cons (.raw _) r2, h2, fun v d M3 F3 H3 e3 hr w3 r3 => q v d M3 F3 H3 ((e1.trans e2).trans e3) hr w3 r3⟩
theorem MethR.ins {S : SpecD} {ta' : TA} {C : Addr} {m : Str} {fs : List (Str × DV)} (hl : fs.lookup m = none) (k : EvAR K ta' ρ M fun ds M2 => S (.ins C fs :: ds) M2 R) : MethR K C m S ta' ρ (.ins C fs) M R := .inl ⟨_, rfl, hl, k⟩
theorem MethR.own {S : SpecD} {ta' : TA} {C a : Addr} {m : Str} {fs : List (Str × DV)} (hm : (a, MO.ins C fs) ∈ M) (hl : fs.lookup m = none) (k : EvAR K ta' ρ M fun ds M2 => S (.raw (.ref a) :: ds) M2 R) : MethR K C m S ta' ρ (.raw (.ref a)) M R := .inr ⟨_, _, rfl, hm, hl, k⟩
/-- xs.append(e) -/
def AppE (i : Nat) (a : Addr) (xs : List DV) (ds : List DV) (M : Ms) (R : DV → Ms → Prop) : Prop := ∃ d, ds = [d] ∧ M[i]? = some (a, MO.lst xs) ∧ R .non (M.set i (a, MO.lst (xs ++ [d])))
def AppR (K : PySem.W.Frag) (t : TA) (ρ : Rho) (o : DV) (M : Ms) (R : DV → Ms → Prop) : Prop := ∃ (i : Nat) (a : Addr) (xs : List DV), o = .raw (.ref a) ∧ M[i]? = some (a, MO.lst xs) ∧ xs.length < 100000 ∧ EvAR K t ρ M fun ds M2 => ∃ d, ds = [d] ∧ M2[i]? = some (a, MO.lst xs) ∧ R .non (M2.set i (a, MO.lst (xs ++ [d])))
theorem w_append {ta' : TA} (h : EvR K to ρ M fun o M1 => AppR K ta' ρ o M1 R) : EvR K (tBM K "list" rAppend to ta') ρ M R := fun N F σ H S Q q =>
  h N F σ H S _ fun v o M1 F1 H1 e1 ⟨i, a, xs, ho, hi, hl, h1⟩ w1 r1 => by
    subst ho
    cases r1.raw_of
    obtain ⟨_, vs, hv, rv⟩ := w1.ce a _ (List.mem_append_right N (List.mem_of_getElem? hi))
    refine ⟨ty_list (F := F1) hv, h1 N F1 σ H1 ⟨w1, S.e.mono e1⟩ _ fun us ds M2 F2 H2 e2 ⟨d, hd, hi2, hr⟩ w2 r2 => ?_⟩
    subst hd
    obtain ⟨u, rfl, ru⟩ := rpa1 r2
    obtain ⟨_, vs2, hv2, rv2⟩ := w2.ce a _ (List.mem_append_right N (List.mem_of_getElem? hi2))
    refine ⟨a, vs2, u, rfl, rfl, hv2, by rw [rv2.length]; exact Evl.sz_lt hl, ?_⟩
    have w3 := w2.put (i := N.length + i) (by rw [List.getElem?_append_right (Nat.le_add_right _ _), Nat.add_sub_cancel_left]; exact hi2) (mo' := .lst (xs ++ [d])) (o := .lst (vs2 ++ [u])) ⟨_, upd_same, rv2.snoc ru⟩
    rw [List.set_append_right _ _ (Nat.le_add_right _ _), Nat.add_sub_cancel_left] at w3
    exact q _ _ _ F2 _ (e1.trans e2) hr w3 .non
theorem AppR.at {ta' : TA} (i : Nat) {a : Addr} {xs : List DV} (hi : M[i]? = some (a, MO.lst xs)) (hl : xs.length < 100000) (k : EvAR K ta' ρ M fun ds M2 => AppE i a xs ds M2 R) : AppR K ta' ρ (.raw (.ref a)) M R := ⟨i, a, xs, rfl, hi, hl, k⟩
theorem AppR.fin {i : Nat} {a : Addr} {xs : List DV} (hi : M[i]? = some (a, MO.lst xs)) (k : R .non (M.set i (a, MO.lst (xs ++ [d])))) : AppE i a xs [d] M R := ⟨d, rfl, hi, k⟩
/-! tests -/
theorem w_T {c : Bool} (h : c = true) (a : A) : if c = true then A else B := by rw [if_pos h]; exact a
theorem w_F {c : Bool} (h : c = false) (b : B) : if c = true then A else B := by rw [if_neg (by rw [h]; decide)]; exact b
theorem w_not {c : Bool} (h : if c = true then B else A) : if (!c) = true then A else B := by cases c <;> exact h
theorem w_dec {p : Prop} [Decidable p] (a : p → A) (b : ¬ p → B) : if decide p = true then A else B := by
  by_cases h : p
  · rw [if_pos (decide_eq_true h)]; exact a h
  · rw [if_neg (by rw [decide_eq_false h]; decide)]; exact b h
theorem w_decT {p : Prop} [Decidable p] (h : p) (a : A) : if decide p = true then A else B := w_T (decide_eq_true h) a
theorem w_decF {p : Prop} [Decidable p] (h : ¬ p) (b : B) : if decide p = true then A else B := w_F (decide_eq_false h) b
theorem w_bl {b : Bool} {Q : Bool → Prop} (h : Q b) : ∃ c, DV.bl b = .bl c ∧ Q c := ⟨b, rfl, h⟩
theorem w_le {n m : Nat} (h : Nat.ble n m = true) (a : A) : n ≤ m ∧ A := ⟨Nat.le_of_ble_eq_true h, a⟩
/-! statements -/
theorem w_par {i j : Nat} {ta : TA} (h : EvAR K ta ρ M fun ds M1 => ∃ d e, ds = [d, e] ∧ P.nx ((ρ.set i (some d)).set j (some e)) M1) : XS K (tPar i j ta) ρ M P := fun N F σ H D S e => h N F σ H S _ fun vs ds M1 F1 H1 e1 ⟨d, e', hd, hx⟩ w1 r1 => by
  subst hd
  obtain ⟨u, v, rfl, r2, r3⟩ := rpa2 r1
  exact ⟨u, v, rfl, e.nx F1 _ H1 _ M1 e1 hx ⟨w1, ((S.e.mono e1).set r2 i).set r3 j⟩⟩
theorem w_par3 {i j l : Nat} {ta : TA} (h : EvAR K ta ρ M fun ds M1 => ∃ d e g, ds = [d, e, g] ∧ P.nx (((ρ.set i (some d)).set j (some e)).set l (some g)) M1) : XS K (tPar3 i j l ta) ρ M P := fun N F σ H D S e => h N F σ H S _ fun vs ds M1 F1 H1 e1 ⟨d, e', g, hd, hx⟩ w1 r1 => by
  subst hd
  cases r1 with
  | cons r1 t1 => cases t1 with
    | cons r2 t2 => cases t2 with
      | cons r3 t3 => cases t3; exact ⟨_, _, _, rfl, e.nx F1 _ H1 _ M1 e1 hx ⟨w1, (((S.e.mono e1).set r1 i).set r2 j).set r3 l⟩⟩
theorem w_aug {i : Nat} {op : Int → Int → Int} {a : Int} (h : ρ[i]? = some (some (.int a))) (he : EvR K te ρ M fun d M' => ∃ b, d = .int b ∧ P.nx (ρ.set i (some (.int (op a b)))) M') : XS K (tAug i te (ipI op)) ρ M P := fun N F σ H D S e => by
  obtain ⟨v, h1, h2⟩ := S.e.get h
  refine ⟨v, h1, he N F σ H S _ fun w d M' F' H' e1 ⟨b, hd, k⟩ wd r => ?_⟩
  subst hd
  exact ⟨a, b, h2.int_of, r.int_of, e.nx F' _ H' _ M' e1 k ⟨wd, (S.e.mono e1).set (.int _) i⟩⟩
theorem w_int {i : Int} {Q : Int → Prop} (h : Q i) : ∃ c, DV.int i = .int c ∧ Q c := ⟨i, rfl, h⟩
theorem w_2 {Q : DV → DV → Prop} (h : Q x y) : ∃ d e, [x, y] = [d, e] ∧ Q d e := ⟨_, _, rfl, h⟩
theorem w_3 {Q : DV → DV → DV → Prop} (h : Q x y z) : ∃ d e g, [x, y, z] = [d, e, g] ∧ Q d e g := ⟨_, _, _, rfl, h⟩
theorem w_neg {i : Int} (k : R (.int (-i)) M) : RUR K (rU fun i => .int (-i)) (.int i) M R := fun N F u H w h1 Q q => ⟨i, h1.int_of, q _ _ M F H (Evl.Ex.refl F) k w (.int _)⟩
/-! loops in which nothing owned changes -/
theorem w_for {wi : TI} {G : Ms} {n : Nat} {v : Nat → DV} {g : TG} (hI : EvI K wi ρ M G n v fun M' => M' = M) (hG : ∀ c ∈ G, c ∈ M) (inv : Nat → Rho → Prop) (h0 : inv 0 ρ)
    (hs : ∀ i ρ', i < n → inv i ρ' → BdG K g ρ' M (v i) fun ρ2 M2 => XS K t ρ2 M2 { P with nx := fun ρ3 M3 => M3 = M ∧ inv (i + 1) ρ3, ct := fun ρ3 M3 => M3 = M ∧ inv (i + 1) ρ3, bk := P.nx })
    (hd : ∀ ρ', inv n ρ' → P.nx ρ' M) : XS K (tFor wi g t) ρ M P :=
  xs_for hI (fun i ρ' M' => M' = M ∧ inv i ρ') (fun M' e => ⟨e, h0⟩) (fun i ρ' M' _ ⟨e, _⟩ c hc => by rw [e]; exact hG c hc)
    (fun i ρ' M' hi ⟨e, hv⟩ => by subst e; exact hs i ρ' hi hv) fun ρ' M' ⟨e, hv⟩ => by subst e; exact hd ρ' hv
theorem nil_sub {M : Ms} : ∀ c ∈ ([] : Ms), c ∈ M := fun _ h => nomatch h
theorem w_rng1 {ta : TA} {j : Int} (h : EvA K ta ρ M [.int j]) (hj : -(2 ^ 62) ≤ j ∧ j < 2 ^ 62) : EvI K (iRng1 ta) ρ M [] j.toNat (fun i => .int i) fun M' => M' = M := ei_rng1 (h.go ⟨rfl, rfl⟩) hj
theorem w_rng2 {ta : TA} {lo j : Int} (h : EvA K ta ρ M [.int lo, .int j]) (hj : -(2 ^ 62) ≤ lo ∧ lo < 2 ^ 62 ∧ -(2 ^ 62) ≤ j ∧ j < 2 ^ 62) : EvI K (iRng2 ta) ρ M [] (j - lo).toNat (fun i => .int (lo + i)) fun M' => M' = M := ei_rng2 (h.go ⟨rfl, rfl⟩) hj
theorem w_lenTm {α : Type} {f : α → DV} {xs : List α} : RC K (rLen K) [.tup (xs.map f)] M (.int xs.length) := by
  have := rc_lenT (K := K) (M := M) (ds := xs.map f)
  rw [List.length_map] at this; exact this
theorem w_lenLm {α : Type} {f : α → DV} {xs : List α} : RC K (rLen K) [.lst (xs.map f)] M (.int xs.length) := by
  have := rc_lenL (K := K) (M := M) (ds := xs.map f)
  rw [List.length_map] at this; exact this
theorem w_lenCm {α : Type} {f : α → DV} {xs : List α} {a : Addr} (hm : (a, MO.lst (xs.map f)) ∈ M) : RC K (rLen K) [.raw (.ref a)] M (.int xs.length) := by
  have := rc_lenC (K := K) (M := M) (ds := xs.map f) hm
  rw [List.length_map] at this; exact this
end
end DD

set_option Elab.async false
set_option linter.all false
set_option maxRecDepth 100000
set_option maxHeartbeats 4000000
namespace DD
open PySem PySem.Spec PyProof.Rows L2
/-! loops and comprehensions over ranges and over what is known, in which nothing owned changes -/
section
variable {K : PySem.W.Frag} {ρ : Rho} {M : Ms} {R : DV → Ms → Prop} {te : TE} {ta : TA} {t : TS} {tt : TT} {P : Post} {vs : List Nat} {k : Nat}
theorem w_rg1 {a b : Int} (h : a = b) : [DV.int a] = [DV.int b] ∧ M = M := ⟨by rw [h], rfl⟩
theorem w_rg2 {a b c d : Int} (h : a = b) (h2 : c = d) : [DV.int a, DV.int c] = [DV.int b, DV.int d] ∧ M = M := ⟨by rw [h, h2], rfl⟩
/-- for x in range(n) -/
theorem w_for1 (n : Nat) (hn : n ≤ 1000000) (hI : EvAR K ta ρ M fun ds M' => ds = [.int n] ∧ M' = M) (inv : Nat → Rho → Prop) (h0 : inv 0 ρ)
    (hs : ∀ i ρ', i < n → inv i ρ' → XS K t (ρ'.set k (some (.int i))) M { P with nx := fun ρ3 M3 => M3 = M ∧ inv (i + 1) ρ3, ct := fun ρ3 M3 => M3 = M ∧ inv (i + 1) ρ3, bk := P.nx })
    (hd : ∀ ρ', inv n ρ' → P.nx ρ' M) : XS K (tFor (iRng1 ta) (gName k) t) ρ M P := by
  have := ei_rng1 hI (show -(2 ^ 62) ≤ (n : Int) ∧ (n : Int) < 2 ^ 62 by omega)
  rw [Int.toNat_natCast] at this
  exact w_for this nil_sub inv h0 (fun i ρ' hi hv => bd_name (hs i ρ' hi hv)) hd
/-- for x in range(lo, lo + n) -/
theorem w_for2 (lo : Int) (n : Nat) (hl : -1000000 ≤ lo ∧ lo ≤ 1000000) (hn : n ≤ 1000000) (hI : EvAR K ta ρ M fun ds M' => ds = [.int lo, .int (lo + n)] ∧ M' = M) (inv : Nat → Rho → Prop) (h0 : inv 0 ρ)
    (hs : ∀ i ρ', i < n → inv i ρ' → XS K t (ρ'.set k (some (.int (lo + i)))) M { P with nx := fun ρ3 M3 => M3 = M ∧ inv (i + 1) ρ3, ct := fun ρ3 M3 => M3 = M ∧ inv (i + 1) ρ3, bk := P.nx })
    (hd : ∀ ρ', inv n ρ' → P.nx ρ' M) : XS K (tFor (iRng2 ta) (gName k) t) ρ M P := by
  have := ei_rng2 hI (show -(2 ^ 62) ≤ lo ∧ lo < 2 ^ 62 ∧ -(2 ^ 62) ≤ lo + (n : Int) ∧ lo + (n : Int) < 2 ^ 62 by omega)
  rw [show (lo + (n : Int) - lo).toNat = n by omega] at this
  exact w_for this nil_sub inv h0 (fun i ρ' hi hv => bd_name (hs i ρ' hi hv)) hd
/-- for x in xs, a tuple; a list -/
theorem w_forT {ds : List DV} (hI : EvR K te ρ M fun d M' => d = .tup ds ∧ M' = M) (inv : Nat → Rho → Prop) (h0 : inv 0 ρ)
    (hs : ∀ i ρ' d, ds[i]? = some d → inv i ρ' → XS K t (ρ'.set k (some d)) M { P with nx := fun ρ3 M3 => M3 = M ∧ inv (i + 1) ρ3, ct := fun ρ3 M3 => M3 = M ∧ inv (i + 1) ρ3, bk := P.nx })
    (hd : ∀ ρ', inv ds.length ρ' → P.nx ρ' M) : XS K (tFor (iTup K te) (gName k) t) ρ M P :=
  w_for (ei_tup hI) nil_sub inv h0 (fun i ρ' hi hv => bd_name (hs i ρ' _ (nth_get hi) hv)) hd
theorem w_forL {ds : List DV} (hI : EvR K te ρ M fun d M' => d = .lst ds ∧ M' = M) (inv : Nat → Rho → Prop) (h0 : inv 0 ρ)
    (hs : ∀ i ρ' d, ds[i]? = some d → inv i ρ' → XS K t (ρ'.set k (some d)) M { P with nx := fun ρ3 M3 => M3 = M ∧ inv (i + 1) ρ3, ct := fun ρ3 M3 => M3 = M ∧ inv (i + 1) ρ3, bk := P.nx })
    (hd : ∀ ρ', inv ds.length ρ' → P.nx ρ' M) : XS K (tFor (iList K te) (gName k) t) ρ M P :=
  w_for (ei_lst hI) nil_sub inv h0 (fun i ρ' hi hv => bd_name (hs i ρ' _ (nth_get hi) hv)) hd
/-- for (x, y, ..) in xs -/
theorem w_forTt {ds : List DV} {g : TG} (hI : EvR K te ρ M fun d M' => d = .tup ds ∧ M' = M) (inv : Nat → Rho → Prop) (h0 : inv 0 ρ)
    (hs : ∀ i ρ' d, ds[i]? = some d → inv i ρ' → BdG K g ρ' M d fun ρ2 M2 => XS K t ρ2 M2 { P with nx := fun ρ3 M3 => M3 = M ∧ inv (i + 1) ρ3, ct := fun ρ3 M3 => M3 = M ∧ inv (i + 1) ρ3, bk := P.nx })
    (hd : ∀ ρ', inv ds.length ρ' → P.nx ρ' M) : XS K (tFor (iTup K te) g t) ρ M P :=
  w_for (ei_tup hI) nil_sub inv h0 (fun i ρ' hi hv => hs i ρ' _ (nth_get hi) hv) hd
theorem w_forLt {ds : List DV} {g : TG} (hI : EvR K te ρ M fun d M' => d = .lst ds ∧ M' = M) (inv : Nat → Rho → Prop) (h0 : inv 0 ρ)
    (hs : ∀ i ρ' d, ds[i]? = some d → inv i ρ' → BdG K g ρ' M d fun ρ2 M2 => XS K t ρ2 M2 { P with nx := fun ρ3 M3 => M3 = M ∧ inv (i + 1) ρ3, ct := fun ρ3 M3 => M3 = M ∧ inv (i + 1) ρ3, bk := P.nx })
    (hd : ∀ ρ', inv ds.length ρ' → P.nx ρ' M) : XS K (tFor (iList K te) g t) ρ M P :=
  w_for (ei_lst hI) nil_sub inv h0 (fun i ρ' hi hv => hs i ρ' _ (nth_get hi) hv) hd
/-- for i, x in enumerate(xs) -/
theorem w_forE {ds : List DV} {k2 : Nat} (hI : EvAR K ta ρ M fun xs M' => xs = [.tup ds] ∧ M' = M) (inv : Nat → Rho → Prop) (h0 : inv 0 ρ)
    (hs : ∀ i ρ' d, ds[i]? = some d → inv i ρ' → XS K t ((ρ'.set k (some (.int i))).set k2 (some d)) M { P with nx := fun ρ3 M3 => M3 = M ∧ inv (i + 1) ρ3, ct := fun ρ3 M3 => M3 = M ∧ inv (i + 1) ρ3, bk := P.nx })
    (hd : ∀ ρ', inv ds.length ρ' → P.nx ρ' M) : XS K (tFor (DE.iEnumT K ta) (gTup K 2 (gCons (gName k) (gCons (gName k2) gNil))) t) ρ M P :=
  w_for (ei_enumT hI) nil_sub inv h0 (fun i ρ' hi hv => bd_tup (bds_nm (bds_nm (bds_nil (hs i ρ' _ (nth_get hi) hv)))) rfl) hd
theorem w_bool {c : Bool} {A B : Prop} (a : c = true → A) (b : c = false → B) : if c = true then A else B := by
  cases c with
  | true => exact a rfl
  | false => exact b rfl
theorem rc_allM {α : Type} {xs : List α} {p : α → Bool} : RC K (rAll K) [.lst (xs.map fun x => .bl (p x))] M (.bl (xs.all p)) := by
  have := rc_allL (K := K) (M := M) (bs := xs.map p)
  rw [List.map_map, List.all_map] at this
  exact this
theorem rc_anyM {α : Type} {xs : List α} {p : α → Bool} : RC K (rAny K) [.lst (xs.map fun x => .bl (p x))] M (.bl (xs.any p)) := by
  have := rc_anyL (K := K) (M := M) (bs := xs.map p)
  rw [List.map_map, List.any_map] at this
  exact this
/-! comprehensions -/
theorem w_lc1 (n : Nat) (f : Nat → DV) (hn : n ≤ 100000) (hI : EvAR K ta ρ M fun ds M' => ds = [.int n] ∧ M' = M) (hs : ∀ i : Nat, i < n → EvR K te ((wipeD ρ vs).set k (some (.int i))) M fun d M' => d = f i ∧ M' = M)
    (kk : R (.lst ((List.range n).map f)) M) (hk : k ∈ vs := by simp) : EvR K (tLc (iRng1 ta) (gName k) tYes te vs) ρ M R := by
  have := ei_rng1 hI (show -(2 ^ 62) ≤ (n : Int) ∧ (n : Int) < 2 ^ 62 by omega)
  rw [Int.toNat_natCast] at this
  have h := ev_lc (K := K) (te := te) (tt := tYes) (fun _ => true) f this hn (bdw_name hk) fun i hi => bd_name ⟨rfl, et_yes, fun _ => hs i hi⟩
  rw [picked_all] at h
  exact h.go kk
theorem w_lc2 (lo : Int) (n : Nat) (f : Nat → DV) (hl : -1000000 ≤ lo ∧ lo ≤ 1000000) (hn : n ≤ 100000) (hI : EvAR K ta ρ M fun ds M' => ds = [.int lo, .int (lo + n)] ∧ M' = M) (hs : ∀ i : Nat, i < n → EvR K te ((wipeD ρ vs).set k (some (.int (lo + i)))) M fun d M' => d = f i ∧ M' = M)
    (kk : R (.lst ((List.range n).map f)) M) (hk : k ∈ vs := by simp) : EvR K (tLc (iRng2 ta) (gName k) tYes te vs) ρ M R := by
  have := ei_rng2 hI (show -(2 ^ 62) ≤ lo ∧ lo < 2 ^ 62 ∧ -(2 ^ 62) ≤ lo + (n : Int) ∧ lo + (n : Int) < 2 ^ 62 by omega)
  rw [show (lo + (n : Int) - lo).toNat = n by omega] at this
  have h := ev_lc (K := K) (te := te) (tt := tYes) (fun _ => true) f this hn (bdw_name hk) fun i hi => bd_name ⟨rfl, et_yes, fun _ => hs i hi⟩
  rw [picked_all] at h
  exact h.go kk
/-- with a test -/
theorem w_lc1t (n : Nat) (p : Nat → Bool) (f : Nat → DV) (hn : n ≤ 100000) (hI : EvAR K ta ρ M fun ds M' => ds = [.int n] ∧ M' = M) (ht : ∀ i : Nat, i < n → EvTR K tt ((wipeD ρ vs).set k (some (.int i))) M fun b M' => b = p i ∧ M' = M)
    (hs : ∀ i : Nat, i < n → p i = true → EvR K te ((wipeD ρ vs).set k (some (.int i))) M fun d M' => d = f i ∧ M' = M)
    (kk : R (.lst (((List.range n).filter p).map f)) M) (hk : k ∈ vs := by simp) : EvR K (tLc (iRng1 ta) (gName k) tt te vs) ρ M R := by
  have := ei_rng1 hI (show -(2 ^ 62) ≤ (n : Int) ∧ (n : Int) < 2 ^ 62 by omega)
  rw [Int.toNat_natCast] at this
  have h := ev_lc (K := K) (te := te) (tt := tt) p f this hn (bdw_name hk) fun i hi => bd_name ⟨rfl, ht i hi, fun e => hs i hi e⟩
  have e : ∀ n, picked p f n = ((List.range n).filter p).map f := fun n => by
    induction n with
    | zero => rfl
    | succ n ih =>
      unfold picked
      rw [ih, List.range_succ, List.filter_append]
      cases h : p n <;> simp [h]
  rw [e] at h
  exact h.go kk
/-- over what is known -/
theorem map_range_nth {F : DV → DV} {ds : List DV} : (List.range ds.length).map (fun i => F (nth ds i)) = ds.map F := by
  refine List.ext_getElem? fun i => ?_
  rw [List.getElem?_map, List.getElem?_map]
  by_cases h : i < ds.length
  · rw [List.getElem?_range h, nth_get h]; rfl
  · rw [List.getElem?_eq_none (by simpa using h), List.getElem?_eq_none (by simpa using h)]; rfl
theorem w_lcT {ds : List DV} (F : DV → DV) (hn : ds.length ≤ 100000) {te0 : TE} (hI : EvR K te0 ρ M fun d M' => d = .tup ds ∧ M' = M) (hs : ∀ d, d ∈ ds → EvR K te ((wipeD ρ vs).set k (some d)) M fun d' M' => d' = F d ∧ M' = M)
    (kk : R (.lst (ds.map F)) M) (hk : k ∈ vs := by simp) : EvR K (tLc (iTup K te0) (gName k) tYes te vs) ρ M R := by
  have h := ev_lc (K := K) (te := te) (tt := tYes) (fun _ => true) (fun i => F (nth ds i)) (ei_tup hI) hn (bdw_name hk) fun i hi => bd_name ⟨rfl, et_yes, fun _ => hs _ (List.mem_of_getElem? (nth_get hi))⟩
  rw [picked_all, map_range_nth] at h
  exact h.go kk
theorem w_lcL {ds : List DV} (F : DV → DV) (hn : ds.length ≤ 100000) {te0 : TE} (hI : EvR K te0 ρ M fun d M' => d = .lst ds ∧ M' = M) (hs : ∀ d, d ∈ ds → EvR K te ((wipeD ρ vs).set k (some d)) M fun d' M' => d' = F d ∧ M' = M)
    (kk : R (.lst (ds.map F)) M) (hk : k ∈ vs := by simp) : EvR K (tLc (iList K te0) (gName k) tYes te vs) ρ M R := by
  have h := ev_lc (K := K) (te := te) (tt := tYes) (fun _ => true) (fun i => F (nth ds i)) (ei_lst hI) hn (bdw_name hk) fun i hi => bd_name ⟨rfl, et_yes, fun _ => hs _ (List.mem_of_getElem? (nth_get hi))⟩
  rw [picked_all, map_range_nth] at h
  exact h.go kk
theorem w_lcTm {α : Type} {xs : List α} {g : α → DV} (F : α → DV) (hn : xs.length ≤ 100000) {te0 : TE} (hI : EvR K te0 ρ M fun d M' => d = .tup (xs.map g) ∧ M' = M) (hs : ∀ x, x ∈ xs → EvR K te ((wipeD ρ vs).set k (some (g x))) M fun d' M' => d' = F x ∧ M' = M)
    (kk : R (.lst (xs.map F)) M) (hk : k ∈ vs := by simp) : EvR K (tLc (iTup K te0) (gName k) tYes te vs) ρ M R := by
  have e : ∀ i, i < (xs.map g).length → ∃ x, xs[i]? = some x ∧ nth (xs.map g) i = g x := fun i hi => by
    rw [List.length_map] at hi
    exact ⟨xs[i], List.getElem?_eq_getElem hi, nth_of (by rw [List.getElem?_map, List.getElem?_eq_getElem hi]; rfl)⟩
  have h := ev_lc (K := K) (te := te) (tt := tYes) (fun _ => true) (fun i => match xs[i]? with | some x => F x | none => .non) (ei_tup hI) (by rw [List.length_map]; exact hn) (bdw_name hk) fun i hi => bd_name ⟨rfl, et_yes, fun _ => by
    obtain ⟨x, h1, h2⟩ := e i hi
    rw [h1, h2]
    exact hs x (List.mem_of_getElem? h1)⟩
  rw [picked_all] at h
  have e2 : (List.range (xs.map g).length).map (fun i => match xs[i]? with | some x => F x | none => .non) = xs.map F := by
    rw [List.length_map]
    refine List.ext_getElem? fun i => ?_
    rw [List.getElem?_map, List.getElem?_map]
    by_cases hh : i < xs.length
    · rw [List.getElem?_range hh, List.getElem?_eq_getElem hh]; simp [List.getElem?_eq_getElem hh]
    · rw [List.getElem?_eq_none (by simpa using hh), List.getElem?_eq_none (by simpa using hh)]; rfl
  rw [e2] at h
  exact h.go kk
end
end DD

set_option Elab.async false
set_option linter.all false
set_option maxRecDepth 100000
set_option maxHeartbeats 4000000
namespace DD
open PySem PySem.Spec PyProof.Rows L2
/-! how deep and how much, by parts -/
structure Fs (d : DV) (p b : Nat) : Prop where
  f : fit d = true
  dp : dep d ≤ p
  b : blk d ≤ b
structure FsA (ds : List DV) (p b : Nat) : Prop where
  f : fitA ds = true
  dp : depA ds ≤ p
  b : blkA ds ≤ b
section
variable {d e : DV} {ds es : List DV} {p q b c : Nat}
theorem Fs.non : Fs .non 0 0 := ⟨rfl, Nat.le_refl _, Nat.le_refl _⟩
theorem Fs.bl {x : Bool} : Fs (.bl x) 0 0 := ⟨rfl, Nat.le_refl _, Nat.le_refl _⟩
theorem Fs.int {i : Int} (h : -1000000000000000000000000000000 < i ∧ i < 1000000000000000000000000000000) : Fs (.int i) 0 0 := ⟨decide_eq_true (Nat.lt_of_lt_of_le (show i.natAbs < 1000000000000000000000000000000 by omega) (by decide)), Nat.le_refl _, Nat.le_refl _⟩
theorem Fs.str {s : Str} (h : fit (.str s) = true) (hl : s.cps.size ≤ 1000) : Fs (.str s) 0 1000 := ⟨h, Nat.le_refl _, hl⟩
theorem Fs.tup (h : FsA ds p b) : Fs (.tup ds) (p + 1) b := ⟨h.f, Nat.succ_le_succ h.dp, h.b⟩
theorem Fs.lst (h : FsA ds p b) : Fs (.lst ds) (p + 1) b := ⟨h.f, Nat.succ_le_succ h.dp, h.b⟩
theorem FsA.nil : FsA [] 0 0 := ⟨rfl, Nat.le_refl _, Nat.le_refl _⟩
theorem FsA.cons (h : Fs d p b) (t : FsA ds q c) : FsA (d :: ds) (max p q) (b + 1 + c) := ⟨by show (fit d && fitA ds) = true; rw [h.f, t.f]; rfl, by show max (dep d) (depA ds) ≤ _; have := h.dp; have := t.dp; omega, by show blk d + 1 + blkA ds ≤ _; have := h.b; have := t.b; omega⟩
theorem FsA.all : ∀ {ds : List DV} {n : Nat}, (∀ d, d ∈ ds → Fs d p b) → ds.length ≤ n → FsA ds p (n * (b + 1))
  | [], _, _, _ => ⟨rfl, Nat.zero_le _, Nat.zero_le _⟩
  | d :: ds, n, h, hl => by
    have h1 := h d List.mem_cons_self
    have h2 := FsA.all (n := n - 1) (fun e he => h e (List.mem_cons_of_mem _ he)) (by simp at hl; omega)
    have hn : 1 ≤ n := by simp at hl; omega
    refine ⟨by show (fit d && fitA ds) = true; rw [h1.f, h2.f]; rfl, by show max (dep d) (depA ds) ≤ _; have := h1.dp; have := h2.dp; omega, ?_⟩
    show blk d + 1 + blkA ds ≤ _
    have := h1.b; have := h2.b
    obtain ⟨m, rfl⟩ : ∃ m, n = m + 1 := ⟨n - 1, by omega⟩
    rw [Nat.add_sub_cancel] at this
    rw [Nat.add_mul, Nat.one_mul]
    omega
theorem Fs.le (h : Fs d p b) (h1 : p ≤ q) (h2 : b ≤ c) : Fs d q c := ⟨h.f, Nat.le_trans h.dp h1, Nat.le_trans h.b h2⟩
theorem Fs.fit (h : Fs d p b) (h1 : p ≤ 60) (h2 : b ≤ 100000) : Fit d := ⟨h.f, Nat.le_trans h.dp h1, Nat.le_trans h.b h2⟩
/-- of small ints, up to a hundred; up to two thousand -/
theorem FsA.ints {ns : List Int} (h : ∀ n ∈ ns, -1000000000000000000000000000000 < n ∧ n < 1000000000000000000000000000000) (hl : ns.length ≤ 100) : FsA (ns.map DV.int) 0 100 := by
  have := FsA.all (p := 0) (b := 0) (n := 100) (ds := ns.map DV.int) (fun d hd => by
    obtain ⟨n, hn, rfl⟩ := List.mem_map.mp hd
    exact Fs.int (h n hn)) (by rw [List.length_map]; exact hl)
  exact this
end
section
variable {K : PySem.W.Frag} {M : Ms} {x y : DV} {p b q c : Nat}
theorem rc_showF (h : Fs x p b) (h1 : p ≤ 60) (h2 : b ≤ 100000) : RC K (rRepr K) [x] M (.str (showD x)) := rc_show (h.fit h1 h2)
theorem rc_showUF (h : Fs x p b) (h1 : p ≤ 60) (h2 : b ≤ 100000) : RC K (rReprU K) [x] M (.str (showD x)) := rc_showU (h.fit h1 h2)
theorem eqD_selfF (h : Fs x p b) (h1 : p ≤ 60) (h2 : b ≤ 100000) : eqD x x = true := eqD_self (h.fit h1 h2)
theorem rv_p6 : RV K (rI CPow fun i j => .int (i ^ j.toNat)) (.int 10) (.int 6) M (.int 1000000) := rv_I (show CPow 10 6 from ⟨by decide, by decide, by decide⟩)
theorem rv_p12 : RV K (rI CPow fun i j => .int (i ^ j.toNat)) (.int 10) (.int 12) M (.int 1000000000000) := rv_I (show CPow 10 12 from ⟨by decide, by decide, by decide⟩)
theorem rv_p14 : RV K (rI CPow fun i j => .int (i ^ j.toNat)) (.int 10) (.int 14) M (.int 100000000000000) := rv_I (show CPow 10 14 from ⟨by decide, by decide, by decide⟩)
theorem rv_p18 : RV K (rI CPow fun i j => .int (i ^ j.toNat)) (.int 10) (.int 18) M (.int 1000000000000000000) := rv_I (show CPow 10 18 from ⟨by decide, by decide, by decide⟩)
theorem rv_p19 : RV K (rI CPow fun i j => .int (i ^ j.toNat)) (.int 10) (.int 19) M (.int 10000000000000000000) := rv_I (show CPow 10 19 from ⟨by decide, by decide, by decide⟩)
theorem rv_p20 : RV K (rI CPow fun i j => .int (i ^ j.toNat)) (.int 10) (.int 20) M (.int 100000000000000000000) := rv_I (show CPow 10 20 from ⟨by decide, by decide, by decide⟩)
/-- the same on both sides -/
theorem rv_neSelf (h : Fit x) : RV K (rNeU K) x x M (.bl false) := by
  have := rv_neF (K := K) (M := M) h h
  rw [eqD_self h] at this
  exact this
theorem rv_eqSelf (h : Fit x) : RV K (rEqU K) x x M (.bl true) := by
  have := rv_eqF (K := K) (M := M) h h
  rw [eqD_self h] at this
  exact this
theorem w_two {A B : Prop} {s : Str} (b : B) : if (!decide (s = s)) = true then A else B := by rw [decide_eq_true rfl]; exact b
end
end DD

set_option Elab.async false
set_option linter.all false
set_option maxRecDepth 100000
set_option maxHeartbeats 4000000
namespace DD
open PySem PySem.Spec PyProof.Rows L2
/-! walks over what only comes out -/
def EvIX (K : PySem.W.Frag) (wi : TI) (ρ : Rho) (M : Ms) (Φ : Nat → (Nat → DV) → Ms → Ms → Prop) : Prop := ∀ (N : Ms) (F : Hp) (σ : L2.St) (H : Hp), Sn K F (N ++ M) ρ σ H → ∀ Q : It → Hp → Prop, (∀ J n y G M' F' H', Ex F F' → Φ n y G M' → Wd K F' (N ++ M') H' → WalkD K F' G J n y → Q J H') → wi σ H Q
section
variable {K : PySem.W.Frag} {ρ : Rho} {M : Ms} {te : TE} {tb : TS} {P : Post} {g : TG} {wi : TI} {R : DV → Ms → Prop}
theorem xs_forX {Φ : Nat → (Nat → DV) → Ms → Ms → Prop} (hI : EvIX K wi ρ M Φ)
    (h : ∀ n y G M', Φ n y G M' → ∃ inv : Nat → Rho → Ms → Prop, inv 0 ρ M' ∧ (∀ i ρ' M', i ≤ n → inv i ρ' M' → ∀ c ∈ G, c ∈ M') ∧
      (∀ i ρ' M', i < n → inv i ρ' M' → BdG K g ρ' M' (y i) fun ρ2 M2 => XS K tb ρ2 M2 { P with nx := inv (i + 1), ct := inv (i + 1), bk := P.nx }) ∧ (∀ ρ' M', inv n ρ' M' → P.nx ρ' M')) : XS K (tFor wi g tb) ρ M P := fun N F σ H D S e =>
  hI N F σ H S _ fun J n y G M1 F1 H1 e1 hr w1 W => by
    obtain ⟨inv, h0, hG, hs, hd⟩ := h n y G M1 hr
    refine ⟨fun i m σ' H' => m = n - i ∧ i ≤ n ∧ ∃ F' ρ' M', Ex F1 F' ∧ inv i ρ' M' ∧ Sn K F' (N ++ M') ρ' σ' H', ⟨n, by simp, Nat.zero_le _, F1, ρ, M1, Evl.Ex.refl _, h0, w1, S.e.mono e1⟩, ?_⟩
    rintro i m σ' H' ⟨rfl, hi, F', ρ', M', e2, hv, S2⟩
    have hg : ∀ c ∈ G, c ∈ N ++ M' := fun c hc => List.mem_append_right N (hG i ρ' M' hi hv c hc)
    by_cases hlt : i < n
    · refine .inr ⟨W.goes i F' _ H' hlt e2 S2.w hg, fun σ3 H3 => ∃ F3 ρ3 M3, Ex F' F3 ∧ inv (i + 1) ρ3 M3 ∧ Sn K F3 (N ++ M3) ρ3 σ3 H3, fun σ3 H3 ⟨F3, ρ3, M3, e3, hv3, S3⟩ => ⟨n - (i + 1), by omega, rfl, hlt, F3, ρ3, M3, e2.trans e3, hv3, S3⟩, fun x H3 hy => ?_⟩
      obtain ⟨F3, e3, w3, r3⟩ := W.yields i F' _ H' x H3 hlt e2 S2.w hg hy
      refine hs i ρ' M' hlt hv N F3 σ' H3 x _ ⟨w3, S2.e.mono e3⟩ r3 fun σ4 F4 H4 ρ4 M4 e4 h4 S4 => ?_
      have e04 : Ex F F4 := ((e1.trans e2).trans e3).trans e4
      exact h4 N F4 σ4 H4 _ S4 ⟨fun F5 σ5 H5 ρ5 M5 e5 h5 S5 => ⟨F5, ρ5, M5, (e3.trans e4).trans e5, h5, S5⟩, (e.mono e04).rt, (e.mono e04).nx, fun F5 σ5 H5 ρ5 M5 e5 h5 S5 => ⟨F5, ρ5, M5, (e3.trans e4).trans e5, h5, S5⟩⟩
    · have en : i = n := by omega
      subst en
      exact .inl ⟨W.stops F' _ H' e2 S2.w hg, (e.mono (e1.trans e2)).nx F' σ' H' ρ' M' (Evl.Ex.refl _) (hd ρ' M' hv) S2⟩
theorem ei_lstX {Φ : List DV → Ms → Prop} (h : EvR K te ρ M fun d M' => ∃ ds, d = .lst ds ∧ Φ ds M') : EvIX K (iList K te) ρ M fun n y G M' => ∃ ds, n = ds.length ∧ y = nth ds ∧ G = [] ∧ Φ ds M' := fun N F σ H S Q q =>
  h N F σ H S _ fun v d M1 F1 H1 e1 ⟨ds, hd, hr⟩ w1 r1 => by
    subst hd
    obtain ⟨a, xs, rfl, hx, hr1⟩ := r1.lst_of
    refine ⟨a, rfl, ⟨xs, SqL.of (w1.fr _ _ hx)⟩, q _ _ _ _ M1 F1 H1 e1 ⟨ds, rfl, rfl, rfl, hr⟩ w1 ⟨fun i F2 M2 H2 hi e2 w2 _ => ?_, fun F2 M2 H2 e2 w2 _ => ?_, fun i F2 M2 H2 x H3 hi e2 w2 _ hy => ?_⟩⟩
    · exact walk_list.goes i H2 (by rw [hr1.length]; exact hi) (SqL.of ((e2.trans w2.fr) _ _ hx))
    · have := (walk_list (K := K)).stops H2 (SqL.of ((e2.trans w2.fr) _ _ hx))
      rw [hr1.length] at this; exact this
    · obtain ⟨rfl, hg⟩ := walk_list.yields i H2 x H3 (by rw [hr1.length]; exact hi) (SqL.of ((e2.trans w2.fr) _ _ hx)) hy
      obtain ⟨d, hd, rd⟩ := hr1.get' hg
      exact ⟨F2, Evl.Ex.refl _, w2, by rw [nth_of hd]; exact rd.mono e2⟩
theorem ei_tupX {Φ : List DV → Ms → Prop} (h : EvR K te ρ M fun d M' => ∃ ds, d = .tup ds ∧ Φ ds M') : EvIX K (iTup K te) ρ M fun n y G M' => ∃ ds, n = ds.length ∧ y = nth ds ∧ G = [] ∧ Φ ds M' := fun N F σ H S Q q =>
  h N F σ H S _ fun v d M1 F1 H1 e1 ⟨ds, hd, hr⟩ w1 r1 => by
    subst hd
    obtain ⟨a, xs, rfl, hx, hr1⟩ := r1.tup_of
    refine ⟨a, rfl, ⟨xs, Evl.ex_t w1.fr hx⟩, q _ _ _ _ M1 F1 H1 e1 ⟨ds, rfl, rfl, rfl, hr⟩ w1 ⟨fun i F2 M2 H2 hi e2 w2 _ => ?_, fun F2 M2 H2 e2 w2 _ => ?_, fun i F2 M2 H2 x H3 hi e2 w2 _ hy => ?_⟩⟩
    · exact walk_tup.goes i H2 (by rw [hr1.length]; exact hi) (Evl.ex_t (e2.trans w2.fr) hx)
    · have := walk_tup.stops H2 (Evl.ex_t (e2.trans w2.fr) hx)
      rw [hr1.length] at this; exact this
    · obtain ⟨rfl, hg⟩ := walk_tup.yields i H2 x H3 (by rw [hr1.length]; exact hi) (Evl.ex_t (e2.trans w2.fr) hx) hy
      obtain ⟨d, hd, rd⟩ := hr1.get' hg
      exact ⟨F2, Evl.Ex.refl _, w2, by rw [nth_of hd]; exact rd.mono e2⟩
theorem w_forLX (h : EvR K te ρ M fun d M' => ∃ ds, d = .lst ds ∧ ∃ inv : Nat → Rho → Ms → Prop, inv 0 ρ M' ∧ (∀ i ρ' M' d, ds[i]? = some d → inv i ρ' M' → BdG K g ρ' M' d fun ρ2 M2 => XS K tb ρ2 M2 { P with nx := inv (i + 1), ct := inv (i + 1), bk := P.nx }) ∧ (∀ ρ' M', inv ds.length ρ' M' → P.nx ρ' M')) : XS K (tFor (iList K te) g tb) ρ M P :=
  xs_forX (ei_lstX h) fun n y G M' ⟨ds, hn, hy, hG, inv, h0, hs, hd⟩ => by
    subst hn hy hG
    exact ⟨inv, h0, fun _ _ _ _ _ => nil_sub, fun i ρ' M'' hi hv => hs i ρ' M'' _ (nth_get hi) hv, hd⟩
theorem w_forTX (h : EvR K te ρ M fun d M' => ∃ ds, d = .tup ds ∧ ∃ inv : Nat → Rho → Ms → Prop, inv 0 ρ M' ∧ (∀ i ρ' M' d, ds[i]? = some d → inv i ρ' M' → BdG K g ρ' M' d fun ρ2 M2 => XS K tb ρ2 M2 { P with nx := inv (i + 1), ct := inv (i + 1), bk := P.nx }) ∧ (∀ ρ' M', inv ds.length ρ' M' → P.nx ρ' M')) : XS K (tFor (iTup K te) g tb) ρ M P :=
  xs_forX (ei_tupX h) fun n y G M' ⟨ds, hn, hy, hG, inv, h0, hs, hd⟩ => by
    subst hn hy hG
    exact ⟨inv, h0, fun _ _ _ _ _ => nil_sub, fun i ρ' M'' hi hv => hs i ρ' M'' _ (nth_get hi) hv, hd⟩
theorem rv_x2 {d : DV} : RV K (rMulU K) (.lst [d]) (.int 2) M (.lst [d, d]) := rv_mulL (k := 2) ⟨by decide, by decide⟩ (by show 1 * 2 ≤ 100000; decide)
theorem rv_xn {d : DV} {k : Int} (h0 : 0 ≤ k) (h1 : k ≤ 1000) : RV K (rMulU K) (.lst [d]) (.int k) M (.lst (List.replicate k.toNat d)) := by
  have := rv_mulL (K := K) (M := M) (ds := [d]) (k := k) ⟨by omega, by omega⟩ (by show 1 * k.toNat ≤ 100000; omega)
  rw [show (List.replicate k.toNat [d]).flatten = List.replicate k.toNat d by
    generalize k.toNat = n
    induction n with
    | zero => rfl
    | succ n ih => rw [List.replicate_succ, List.flatten_cons, ih, List.replicate_succ]; rfl] at this
  exact this
theorem w_same {α : Type} [DecidableEq α] {A B : Prop} {s : α} (b : B) : if (!decide (s = s)) = true then A else B := by rw [decide_eq_true rfl]; exact b
theorem w_sameT {α : Type} [DecidableEq α] {A B : Prop} {s : α} (b : A) : if decide (s = s) = true then A else B := by rw [if_pos (decide_eq_true rfl)]; exact b
theorem nil_or {α : Type} (l : List α) : l = [] ∨ ∃ x r, l = x :: r := by cases l with
  | nil => exact .inl rfl
  | cons x r => exact .inr ⟨x, r, rfl⟩
end
end DD

set_option Elab.async false
set_option linter.all false
set_option maxRecDepth 100000
set_option maxHeartbeats 4000000
namespace DD
open PySem PySem.Spec PyProof.Rows L2
/-! is it empty, by == and != -/
section
variable {K : PySem.W.Frag} {M : Ms} {ds : List DV}
theorem eqD_nilL (h : Fit (.lst ds)) : eqD (.lst ds) (.lst []) = ds.isEmpty := by
  cases ds with
  | nil => exact eqD_self h
  | cons d r =>
    obtain ⟨p, h1, _⟩ := h.py
    unfold eqD
    rw [h1]
    have : ∃ y ys, p = .list (y :: ys) := by
      have h2 : (toPyA (d :: r)).map PyData.list = some p := h1
      have h3 : toPyA (d :: r) = (match toPy d, toPyA r with | some y, some ys => some (y :: ys) | _, _ => none) := rfl
      rw [h3] at h2
      cases e1 : toPy d <;> cases e2 : toPyA r <;> rw [e1, e2] at h2 <;> simp at h2
      exact ⟨_, _, h2.symm⟩
    obtain ⟨y, ys, rfl⟩ := this
    rfl
theorem eqD_nilT (h : Fit (.tup ds)) : eqD (.tup ds) (.tup []) = ds.isEmpty := by
  cases ds with
  | nil => exact eqD_self h
  | cons d r =>
    obtain ⟨p, h1, _⟩ := h.py
    unfold eqD
    rw [h1]
    have : ∃ y ys, p = .tuple (y :: ys) := by
      have h2 : (toPyA (d :: r)).map PyData.tuple = some p := h1
      have h3 : toPyA (d :: r) = (match toPy d, toPyA r with | some y, some ys => some (y :: ys) | _, _ => none) := rfl
      rw [h3] at h2
      cases e1 : toPy d <;> cases e2 : toPyA r <;> rw [e1, e2] at h2 <;> simp at h2
      exact ⟨_, _, h2.symm⟩
    obtain ⟨y, ys, rfl⟩ := this
    rfl
theorem fit_nilL : Fit (.lst []) := ⟨rfl, by decide, by decide⟩
theorem fit_nilT : Fit (.tup []) := ⟨rfl, by decide, by decide⟩
theorem rv_neNilL (h : Fit (.lst ds)) : RV K (rNeU K) (.lst ds) (.lst []) M (.bl (!ds.isEmpty)) := by
  have := rv_neF (K := K) (M := M) h fit_nilL
  rw [eqD_nilL h] at this; exact this
theorem rv_eqNilL (h : Fit (.lst ds)) : RV K (rEqU K) (.lst ds) (.lst []) M (.bl ds.isEmpty) := by
  have := rv_eqF (K := K) (M := M) h fit_nilL
  rw [eqD_nilL h] at this; exact this
theorem rv_neNilT (h : Fit (.tup ds)) : RV K (rNeU K) (.tup ds) (.tup []) M (.bl (!ds.isEmpty)) := by
  have := rv_neF (K := K) (M := M) h fit_nilT
  rw [eqD_nilT h] at this; exact this
theorem rv_eqNilT (h : Fit (.tup ds)) : RV K (rEqU K) (.tup ds) (.tup []) M (.bl ds.isEmpty) := by
  have := rv_eqF (K := K) (M := M) h fit_nilT
  rw [eqD_nilT h] at this; exact this
theorem atI_head {α : Type} {x : α} {r : List α} : atI (x :: r) 0 = some x := atI_nat (j := 0) rfl
end
end DD

set_option Elab.async false
set_option linter.all false
set_option maxRecDepth 100000
set_option maxHeartbeats 4000000
namespace DD
open PySem PySem.Spec PyProof.Rows L2
/-! ints in lists and tuples of ints; slices of owned lists; index -/
section
variable {K : PySem.W.Frag} {M : Ms} {ρ : Rho} {R : DV → Ms → Prop} {te to : TE} {tl th : TO} {lo hi : Option Int} {ds : List DV} {ta : TA}
theorem inV_ints {i : Int} {ns : List Int} : inV (.int i) (ns.map V.int) = ns.contains i := by
  unfold inV
  rw [List.any_map]
  induction ns with
  | nil => rfl
  | cons n r ih =>
    rw [List.any_cons, List.contains_cons, ih]
    congr 1
    show (n == i) = (i == n)
    by_cases h : n = i
    · rw [h]
    · rw [beq_false_of_ne h, beq_false_of_ne (Ne.symm h)]
theorem flat_ints {ns : List Int} : (ns.map V.int).all flatV = true := by
  rw [List.all_eq_true]; intro x hx; obtain ⟨t, _, rfl⟩ := List.mem_map.mp hx; rfl
theorem rv_inLI {i : Int} {ns : List Int} : RV K (rIn K false) (.int i) (.lst (ns.map .int)) M (.bl (ns.contains i)) := fun N F u v H w h1 h2 Q k => by
  obtain ⟨a, xs, rfl, ha, ra⟩ := h2.lst_of
  have hx := ra.ints_of
  subst hx
  rw [h1.int_of]
  refine ⟨a, _, rfl, .inl (SqL.of (w.fr _ _ ha)), rfl, flat_ints, ?_⟩
  show Q (.bl (inV (.int i) (ns.map .int))) H
  rw [inV_ints]
  exact k _ _ M F H (Evl.Ex.refl F) ⟨rfl, rfl⟩ w (.bl _)
theorem rv_ninLI {i : Int} {ns : List Int} : RV K (rIn K true) (.int i) (.lst (ns.map .int)) M (.bl (!ns.contains i)) := fun N F u v H w h1 h2 Q k => by
  obtain ⟨a, xs, rfl, ha, ra⟩ := h2.lst_of
  have hx := ra.ints_of
  subst hx
  rw [h1.int_of]
  refine ⟨a, _, rfl, .inl (SqL.of (w.fr _ _ ha)), rfl, flat_ints, ?_⟩
  show Q (.bl (!inV (.int i) (ns.map .int))) H
  rw [inV_ints]
  exact k _ _ M F H (Evl.Ex.refl F) ⟨rfl, rfl⟩ w (.bl _)
theorem rv_inTI {i : Int} {ns : List Int} : RV K (rIn K false) (.int i) (.tup (ns.map .int)) M (.bl (ns.contains i)) := fun N F u v H w h1 h2 Q k => by
  obtain ⟨a, xs, rfl, ha, ra⟩ := h2.tup_of
  have hx := ra.ints_of
  subst hx
  rw [h1.int_of]
  refine ⟨a, _, rfl, .inr (Evl.ex_t w.fr ha), rfl, flat_ints, ?_⟩
  show Q (.bl (inV (.int i) (ns.map .int))) H
  rw [inV_ints]
  exact k _ _ M F H (Evl.Ex.refl F) ⟨rfl, rfl⟩ w (.bl _)
theorem rv_ninTI {i : Int} {ns : List Int} : RV K (rIn K true) (.int i) (.tup (ns.map .int)) M (.bl (!ns.contains i)) := fun N F u v H w h1 h2 Q k => by
  obtain ⟨a, xs, rfl, ha, ra⟩ := h2.tup_of
  have hx := ra.ints_of
  subst hx
  rw [h1.int_of]
  refine ⟨a, _, rfl, .inr (Evl.ex_t w.fr ha), rfl, flat_ints, ?_⟩
  show Q (.bl (!inV (.int i) (ns.map .int))) H
  rw [inV_ints]
  exact k _ _ M F H (Evl.Ex.refl F) ⟨rfl, rfl⟩ w (.bl _)
/-- a slice of an owned list: a new list that stays -/
theorem ev_slC {a : Addr} (hm : (a, MO.lst ds) ∈ M) (h : Ev K te ρ M (.raw (.ref a))) (h1 : EvO K tl ρ M lo) (h2 : EvO K th ρ M hi) : Ev K (tSl (rSlU K) te tl th) ρ M (.lst (cutL ds lo hi)) := fun N F σ H S Q q => h N F σ H S _ fun v d M' F1 H1 e1 ⟨hd, hm1⟩ w1 r1 => by
  subst hd hm1
  cases r1.raw_of
  refine h1 N F1 σ H1 ⟨w1, S.e.mono e1⟩ _ fun F2 H2 e2 w2 => h2 N F2 σ H2 ⟨w2, S.e.mono (e1.trans e2)⟩ _ fun F3 H3 e3 w3 => .inr ?_
  have e123 := (e1.trans e2).trans e3
  obtain ⟨_, xs, ha, ra⟩ := w3.ce a _ (List.mem_append_right N hm)
  refine ⟨a, xs, rfl, SqL.of ha, fun p hp => ?_⟩
  have hn := w3.fresh hp
  exact q _ _ _ _ _ (e123.trans (ex_new hn)) ⟨rfl, rfl⟩ (w3.new hp _) (.lst upd_same ((cut_rpa ra).mono (ex_new hn)))
/-- xs.index(i), of an owned list of ints -/
theorem ev_indexC {a : Addr} {ns : List Int} {i : Int} {j : Nat} (hm : (a, MO.lst (ns.map .int)) ∈ M) (ho : Ev K to ρ M (.raw (.ref a))) (he : EvA K ta ρ M [.int i]) (hj : ns[j]? = some i) (h0 : ∀ m, m < j → ns[m]? ≠ some i) : Ev K (tBM K "list" (rIndex K) to ta) ρ M (.int j) := fun N F σ H S Q q =>
  ho N F σ H S _ fun v o M1 F1 H1 e1 ⟨hd, hm1⟩ w1 r1 => by
    subst hd hm1
    cases r1.raw_of
    obtain ⟨_, vs, hv, rv⟩ := w1.ce a _ (List.mem_append_right N hm)
    refine ⟨ty_list (F := F1) hv, he N F1 σ H1 ⟨w1, S.e.mono e1⟩ _ fun us ds M2 F2 H2 e2 ⟨hd2, hm2⟩ w2 r2 => ?_⟩
    subst hd2 hm2
    obtain ⟨u, rfl, ru⟩ := rpa1 r2
    cases ru.int_of
    obtain ⟨_, vs2, hv2, rv2⟩ := w2.ce a _ (List.mem_append_right N hm)
    have hx := rv2.ints_of
    subst hx
    refine ⟨a, _, _, j, .int i, rfl, rfl, SqL.of hv2, rfl, flat_ints, by rw [List.getElem?_map, hj]; rfl, beq_self_eq_true i, fun m z hm hz => ?_, q _ _ _ F2 H2 (e1.trans e2) ⟨rfl, rfl⟩ w2 (.int _)⟩
    rw [List.getElem?_map] at hz
    cases e : ns[m]? with
    | none => rw [e] at hz; cases hz
    | some y =>
      rw [e] at hz
      cases hz
      exact beq_false_of_ne fun z => h0 m hm (by rw [e, z])
end
/-- unlike numbers below n are n at most -/
theorem nodup_below : ∀ (n : Nat) (l : List Nat), l.Nodup → (∀ x ∈ l, x < n) → l.length ≤ n
  | 0, [], _, _ => Nat.le_refl _
  | 0, x :: l, _, h => absurd (h x List.mem_cons_self) (Nat.not_lt_zero _)
  | n + 1, l, nd, h => by
    have h1 : (l.erase n).Nodup := nd.erase n
    have h2 : ∀ x ∈ l.erase n, x < n := fun x hx => by
      have a := h x (List.mem_of_mem_erase hx)
      have b : x ≠ n := fun e => by
        subst e
        exact (List.Nodup.not_mem_erase nd) hx
      omega
    have := nodup_below n (l.erase n) h1 h2
    by_cases hm : n ∈ l
    · have := List.length_erase_of_mem hm
      omega
    · rw [List.erase_of_not_mem hm] at this
      omega
end DD

set_option Elab.async false
set_option linter.all false
set_option maxRecDepth 100000
set_option maxHeartbeats 4000000
namespace DD
open PySem PySem.Spec PyProof.Rows L2
/-! self.f = e by word; rows of ints told by a function -/
section
variable {K : PySem.W.Frag} {ρ : Rho} {M : Ms} {P : Post} {ta tv : TE} {d : DV}
def PutR (K : PySem.W.Frag) (f : Str) (d : DV) (o : DV) (M : Ms) (k : Ms → Prop) : Prop := ∃ (i : Nat) (a C : Addr) (fs : List (Str × DV)), o = .raw (.ref a) ∧ M[i]? = some (a, MO.ins C fs) ∧ Cls K C ∧ NoAttr K C f ∧ fs.length < 1000 ∧ k (M.set i (a, MO.ins C (putD f d fs)))
theorem w_putF {f : Str} (h : EvR K tv ρ M fun d M1 => EvR K ta ρ M1 fun o M2 => PutR K f d o M2 (P.nx ρ)) : XS K (sFld K ta tv f) ρ M P :=
  fun N F σ H D S e => h N F σ H S _ fun v d' M1 F1 H1 e1 h1 w1 r1 => h1 N F1 σ H1 ⟨w1, S.e.mono e1⟩ _ fun u o M2 F2 H2 e2 ⟨i, a, C, fs, ho, hi, c, n, hl, k⟩ w2 r2 => by
    subst ho
    cases r2.raw_of
    obtain ⟨_, dx, gs, hg, hf⟩ := w2.ce a _ (List.mem_append_right N (List.mem_of_getElem? hi))
    refine ⟨a, C, dx, gs, rfl, hg, c, n, by rw [hf.length]; exact hl, ?_⟩
    have hp : ∀ {gs : List (Str × V)} {fs : List (Str × DV)}, RpF K F2 gs fs → RpF K F2 (putF f v gs) (putD f d' fs) := by
      intro gs fs hf
      induction fs generalizing gs with
      | nil => cases hf; exact .cons (r1.mono e2) .nil
      | cons q fs ih =>
        cases hf with
        | cons hq ht =>
          unfold putF putD
          split
          · exact .cons (r1.mono e2) ht
          · exact .cons hq (ih ht)
    have w3 := w2.put (i := N.length + i) (by rw [List.getElem?_append_right (Nat.le_add_right _ _), Nat.add_sub_cancel_left]; exact hi) (mo' := .ins C (putD f d' fs)) (o := .ins C dx (putF f v gs)) ⟨dx, _, upd_same, hp hf⟩
    rw [List.set_append_right _ _ (Nat.le_add_right _ _), Nat.add_sub_cancel_left] at w3
    exact e.nx F2 _ _ _ _ (e1.trans e2) k ⟨w3, S.e.mono (e1.trans e2)⟩
theorem PutR.at {f : Str} {k : Ms → Prop} (i : Nat) {a C : Addr} {fs : List (Str × DV)} (hi : M[i]? = some (a, MO.ins C fs)) (c : Cls K C) (n : NoAttr K C f) (hl : fs.length < 1000) (h : k (M.set i (a, MO.ins C (putD f d fs)))) : PutR K f d (.raw (.ref a)) M k := ⟨i, a, C, fs, rfl, hi, c, n, hl, h⟩
end
/-- the first n values of f -/
abbrev rowI (f : Nat → Int) (n : Nat) : List Int := (List.range n).map f
theorem rowI_len {f : Nat → Int} {n : Nat} : (rowI f n).length = n := by rw [List.length_map, List.length_range]
theorem rowI_get {f : Nat → Int} {n x : Nat} (h : x < n) : (rowI f n)[x]? = some (f x) := by rw [List.getElem?_map, List.getElem?_range h]; rfl
theorem atI_rowI {f : Nat → Int} {n : Nat} {z : Int} (h0 : 0 ≤ z) (h1 : z < n) : atI ((rowI f n).map DV.int) z = some (.int (f z.toNat)) := by
  have e : ((rowI f n).map DV.int)[z.toNat]? = some (.int (f z.toNat)) := by rw [List.getElem?_map, rowI_get (by omega)]; rfl
  have := atI_nat e
  rw [show ((z.toNat : Nat) : Int) = z by omega] at this
  exact this
theorem atI_lastI {f : Nat → Int} {n : Nat} : atI ((rowI f (n + 1)).map DV.int) (-1) = some (.int (f n)) := by
  unfold atI ixN
  rw [List.length_map, rowI_len, if_neg (by omega), if_pos (by omega)]
  show ((rowI f (n + 1)).map DV.int)[(-1 + ((n + 1 : Nat) : Int)).toNat]? = _
  rw [show (-1 + ((n + 1 : Nat) : Int)).toNat = n by omega, List.getElem?_map, rowI_get (by omega)]; rfl
theorem cut_lastI {f : Nat → Int} {n : Nat} : cutL ((rowI f (n + 1)).map DV.int) none (some (-1)) = (rowI f n).map DV.int := by
  unfold cutL
  have e0 : HT.sIx ((rowI f (n + 1)).map DV.int).length 0 none = 0 := rfl
  have e1 : HT.sIx ((rowI f (n + 1)).map DV.int).length ((rowI f (n + 1)).map DV.int).length (some (-1)) = n := by
    rw [List.length_map, rowI_len]
    show (if (-1 : Int) < 0 then ((-1 : Int) + ((n + 1 : Nat) : Int)).toNat else min (-1 : Int).toNat (n + 1)) = n
    rw [if_pos (by decide)]
    omega
  rw [e0, e1, List.drop_zero, Nat.sub_zero, ← List.map_take]
  show List.map DV.int (List.take n ((List.range (n + 1)).map f)) = _
  rw [← List.map_take, List.take_range, Nat.min_eq_left (by omega)]
theorem rowI_snoc {f : Nat → Int} {n : Nat} : (rowI f n).map DV.int ++ [.int (f n)] = (rowI f (n + 1)).map DV.int := by
  show _ = List.map DV.int ((List.range (n + 1)).map f)
  rw [List.range_succ, List.map_append, List.map_append]; rfl
theorem rowI_mem {f : Nat → Int} {n : Nat} {v : Int} (h : v ∈ rowI f n) : ∃ x, x < n ∧ v = f x := by
  obtain ⟨x, hx, rfl⟩ := List.mem_map.mp h
  exact ⟨x, List.mem_range.mp hx, rfl⟩
theorem rowI_contains {f : Nat → Int} {n : Nat} {v : Int} : (rowI f n).contains v = true ↔ ∃ x, x < n ∧ f x = v := by
  rw [List.contains_iff_mem]
  refine ⟨fun h => let ⟨x, h1, h2⟩ := rowI_mem h; ⟨x, h1, h2.symm⟩, fun ⟨x, h1, h2⟩ => List.mem_map.mpr ⟨x, List.mem_range.mpr h1, h2⟩⟩
/-- the first one of which p holds -/
theorem least_ix {p : Nat → Prop} : ∀ n, (∃ f, f < n ∧ p f) → ∃ f, f < n ∧ p f ∧ ∀ m, m < f → ¬ p m
  | 0, ⟨_, h, _⟩ => absurd h (Nat.not_lt_zero _)
  | n + 1, ⟨f, h1, h2⟩ => by
    by_cases h : ∃ g, g < n ∧ p g
    · obtain ⟨g, a, b, c⟩ := least_ix n h
      exact ⟨g, by omega, b, c⟩
    · have : f = n := Classical.byContradiction fun e => h ⟨f, by omega, h2⟩
      subst this
      exact ⟨f, h1, h2, fun m hm hp => h ⟨m, hm, hp⟩⟩
end DD

set_option Elab.async false
set_option linter.all false
set_option maxRecDepth 100000
set_option maxHeartbeats 4000000
/-! sets made of lists of ints, and sorted -/
namespace DS
open PySem PySem.Spec PyProof.Rows L2
/-- a set with nothing in it -/
abbrev emp (w : World) : Obj := { cls := .type "set", dict := none, data := .set #[] 0 (.fresh 0 0 (!w.params.followText "set-order")) }
/-- what the filling leaves -/
def Filled (w : World) (ns : List Int) (s s2 : Shared) : Prop := ∃ h' tk c, s2 = { s with heap := h', toks := tk } ∧ SetR w h' s.heap.objs.size (fun j => decide (j ∈ ns)) c ∧ c ≤ ns.length ∧ ∀ b o, s.heap.get? b = some o → h'.get? b = some o
section
variable {P : Program} {w : World} {A : Around} {E : Value → Shared → Prop} {s : Shared} {l : Addr} {items : Array Value} {ns : List Int}
theorem ints_val (hi : IntsAre items.toList ns) (hz : items.size = ns.length) (i : Nat) (v : Value) (hv : items[i]? = some v) : ∃ k t, ns[i]? = some k ∧ v = .int k t := by
  have hlt : i < ns.length := by rw [← hz]; exact (Array.getElem?_eq_some_iff.mp hv).1
  obtain ⟨t, e⟩ := PyProof.Rows.IntsAre.int_at hi i v (by rw [Array.getElem?_toList]; exact hv)
  refine ⟨ns[i], t, List.getElem?_eq_getElem hlt, ?_⟩
  rw [e, List.getD_eq_getElem?_getD, List.getElem?_eq_getElem hlt] <;> rfl
/-- set(xs) -/
theorem call_set {Q : Value → Shared → Prop} (hh : A.handled = none) (hl : s.heap.IsList l items) (hi : IntsAre items.toList ns) (hb : ns.length + 1 < scanBound) (k : ∀ s2, Filled w ns s s2 → Q (.ref s.heap.objs.size) s2) :
    wpAny (model P w) A (call (.type "set") [.ref l]) Q E s := by
  have hz : items.size = ns.length := by have q := IntsAre.length hi; rw [Array.length_toList] at q; exact q
  obtain ⟨cc, tl, hmro⟩ := F.called_set.mro
  have m0 := F.called_set.made; have m1 := F.called_set.sub; have m2 := F.called_set.notType; have m3 := F.called_set.canCreate; have m4 := F.typeCall_set_1 (.ref l)
  refine wpAny_call (codeAny_of_tree (show wpAny _ _ (callAny (.type "set") _) _ _ _ from wpAny_pure ⟨Code.quiet_builtin _ (by decide +kernel), codeAny_builtin F.entry_type_call ?_⟩))
  rw [Around.under_plain (weight_type_call_type "set" [.ref l] []) rfl]
  repeat (any_goals (first | assumption | wp_step))
  refine codeAny_mono (code_set_led1 (.ref l) (E := E) (Q₁ := fun ob t => ob = .ref s.heap.objs.size ∧ t = { s with heap := s.heap.push (emp w) }) ⟨rfl, rfl⟩) fun r s1 hr => ?_
  rcases r with e | fl
  · exact hr
  cases fl with
  | next => exact hr.elim
  | brk => exact hr.elim
  | cont => exact hr.elim
  | ret ob =>
    obtain ⟨rfl, rfl⟩ := hr
    have gS : (s.heap.push (emp w)).get? s.heap.objs.size = some (emp w) := Heap.get?_push_size _ rfl
    have tS : Shared.TypeIs { s with heap := s.heap.push (emp w) } (.ref s.heap.objs.size) "set" := ⟨_, gS, rfl⟩
    have b1 := F.called_set.init.lookup
    have b2 := F.called_set.init.bind (.ref s.heap.objs.size)
    repeat (any_goals (first | assumption | wp_step))
    refine codeAny_mono (codeAny_call_builtin (R := wants (fun r t => r = .none ∧ Filled w ns s t) E) F.called_set.init.plain F.entry_set_init (check_set_init_1 tS ?_)) fun r2 s2 hr2 => ?_
    · obtain ⟨ol, gl, c1, nl, c2⟩ := hl
      obtain ⟨oc, od, dat, osl⟩ := ol
      simp only at c1 c2
      subst c1 c2
      have gl2 : (s.heap.push (emp w)).get? l = some { cls := .type "list", dict := od, data := .seq items nl, slots := osl } := Heap.get?_push_of_some _ gl
      have il : (s.heap.push (emp w)).IsList l items := ⟨_, gl2, rfl, nl, rfl⟩
      have n1 := F.sub_list_set; have n2 := F.sub_list_frozenset
      have n3 : (Value.type "list" == Value.type "dict") = false := by decide
      unfold Builtin.«set.__init__» noKeywords Builtin.Frozenset.updateFrom
      generalize hit : pyIter = it
      wp_walk
      subst hit
      refine wpAny_pyIter_list il (wpAny_bind (wpAny_runValue ?_))
      have lt : l < s.heap.objs.size := Heap.lt_size gl
      have z1 : (s.heap.push (emp w)).objs.size = s.heap.objs.size + 1 := Heap.size_push ..
      have nI : l ≠ (s.heap.push (emp w)).objs.size := by rw [z1]; exact Nat.ne_of_lt (Nat.lt_succ_of_lt lt)
      have nS : s.heap.objs.size ∉ [(s.heap.push (emp w)).objs.size, l] := by
        rw [z1]
        intro hm
        rcases List.mem_cons.mp hm with e | hm
        · exact Nat.ne_of_lt (Nat.lt_succ_self _) e
        · exact Nat.ne_of_gt lt (List.mem_singleton.mp hm)
      refine set_update_ints ((Walks.list (show A.in1.in1.in1.handled = none by simp [hh]) _ l nI items).toS) s.heap.objs.size nS ns hz hb (ints_val hi hz) (items.size - 0) 0 _ (by omega) (Nat.zero_le _) ⟨⟨_, Heap.get?_push_size _ rfl, rfl, rfl⟩, il.push _⟩ ⟨0, Nat.le_refl 0, setR_new_at (Heap.get?_push_of_some _ gS)⟩ fun s' c hm hc hS => ?_
      obtain ⟨h', g2, d', tk', os'⟩ := s'
      have e1 : g2 = s.gens := hm.gens
      have e2 : d' = s.drawn := hm.drawn
      have e3 : os' = s.os := hm.os
      subst e1 e2 e3
      show wpAny _ _ _ _ _ _
      refine wpAny_pure (show wpAny _ _ (ret Value.none) _ _ _ from ?_)
      rw [hz] at hc
      refine wpAny_pure ⟨rfl, h', tk', c, rfl, hS, hc, fun b o e => ?_⟩
      have lb : b < s.heap.objs.size := Heap.lt_size e
      refine hm.heap b o (fun hmm => ?_) (Heap.get?_push_of_some _ (Heap.get?_push_of_some _ e))
      rcases List.mem_cons.mp hmm with q | q
      · exact Nat.ne_of_lt lb q
      · have q := List.mem_singleton.mp q
        rw [z1] at q
        exact absurd q (Nat.ne_of_lt (Nat.lt_succ_of_lt lb))
    · rcases r2 with e | fl2
      · exact hr2
      cases fl2 with
      | next => exact hr2.elim
      | brk => exact hr2.elim
      | cont => exact hr2.elim
      | ret r =>
        obtain ⟨rfl, hf⟩ := hr2
        repeat (any_goals (first | assumption | wp_step))
        exact k _ hf
end
end DS
namespace DD
open PySem PySem.Spec PyProof.Rows L2
/-- set(xs) of a list of ints -/
def rSetI (K : PySem.W.Frag) (w : World) : List V → Hp → VK → Prop := fun vs H Q => ∃ (l : Addr) (ns : List Int), vs = [.ref l] ∧ SqL K H l (ns.map V.int) ∧ ns.length ≤ 60 ∧ ∀ p c, H p = none → c ≤ ns.length → Q (.ref p) (upd H p (SetO w p (fun j => decide (j ∈ ns)) c))
theorem cr_setI {X : Cx} (hc : X.calm = true) : CallR X (.type "set") (rSetI X.K X.w) := by
  intro pins s σ H vs us Q I r h
  obtain ⟨l, ns, rfl, hs, hl, q⟩ := h
  obtain ⟨its, rv, pl, hz⟩ := I.list hs
  rw [Vals.ref1 r]
  refine DS.call_set (I.ok.hd hc) pl.isList (by simpa using rv.ints) (Nat.lt_of_le_of_lt (show ns.length + 1 ≤ 61 by omega) (by decide)) fun s2 hf => ?_
  obtain ⟨h', tk, c, rfl, hS, hcl, hk⟩ := hf
  have nw : H s.heap.objs.size = none := I.hok.fresh (Nat.le_refl _)
  exact ⟨.ref _, upd H s.heap.objs.size (SetO X.w s.heap.objs.size (fun j => decide (j ∈ ns)) c), I.laid (t' := tk) hk (Nat.le_refl _) (setO_new hS), rfl, q _ c nw hcl⟩
end DD
namespace DD
open PySem PySem.Spec PyProof.Rows L2
section
variable {X : Cx} (K : PySem.W.Frag) (hK : X.K = K)
include hK
theorem wSetI (hc : X.calm = true) : CallR X (.type "set") (rSetI K X.w) := hK ▸ cr_setI hc
end
theorem wSortedSet {X : Cx} (hc : X.calm = true) : CallR X (.builtin "sorted") (rSortedSet X.w) := cr_sortedSet hc
section
variable {K : PySem.W.Frag} {ρ : Rho} {M : Ms} {R : DV → Ms → Prop} {te : TE}
/-- sorted(set(xs)): the unlike ones, ascending -/
theorem w_sortedSet {w : World} (h : EvR K te ρ M fun d M1 => ∃ ns : List Int, d = .lst (ns.map .int) ∧ ns.length ≤ 60 ∧ ∀ ms : List Int, ms.Pairwise (· < ·) → (∀ k, k ∈ ms ↔ k ∈ ns) → R (.lst (ms.map .int)) M1) :
    EvR K (tCB (rSortedSet w) (tCons (tCB (rSetI K w) (tCons te tNil)) tNil)) ρ M R := fun N F σ H S Q q => h N F σ H S _ fun v d M1 F1 H1 e1 ⟨ns, hd, hl, hr⟩ w1 r1 => by
  subst hd
  obtain ⟨a, xs, rfl, ha, ra⟩ := r1.lst_of
  have hx := ra.ints_of
  subst hx
  refine ⟨a, ns, rfl, SqL.of (w1.fr _ _ ha), hl, fun p c hp hc => ?_⟩
  have hn := w1.fresh hp
  have w2 := w1.new hp (SetO w p (fun j => decide (j ∈ ns)) c)
  refine ⟨p, _, c, rfl, upd_same, by omega, fun ms p2 h1 h2 h3 hp2 => ?_⟩
  have hn2 := w2.fresh hp2
  have hmem : ∀ k, k ∈ ms ↔ k ∈ ns := fun k => by rw [h2 k]; exact decide_eq_true_iff
  exact q _ _ M1 _ _ ((e1.trans (ex_new hn)).trans (ex_new hn2)) (hr ms h1 hmem) (w2.new hp2 _) (.lst upd_same (RpA.ints ms))
/-! comprehensions with any target; over lists that are told -/
theorem w_lcTp {α : Type} {xs : List α} {f : α → DV} {g : TG} {vs : List Nat} {te0 : TE} (F : α → DV) (hn : xs.length ≤ 100000) (hI : EvR K te0 ρ M fun d M' => d = .tup (xs.map f) ∧ M' = M) (hb : BdW g vs)
    (hs : ∀ x, x ∈ xs → BdG K g (wipeD ρ vs) M (f x) fun ρ2 M2 => EvR K te ρ2 M2 fun d' M' => d' = F x ∧ M' = M) (kk : R (.lst (xs.map F)) M) : EvR K (tLc (iTup K te0) g tYes te vs) ρ M R := by
  have e : ∀ i, i < (xs.map f).length → ∃ x, xs[i]? = some x ∧ nth (xs.map f) i = f x := fun i hi => by
    rw [List.length_map] at hi
    exact ⟨xs[i], List.getElem?_eq_getElem hi, nth_of (by rw [List.getElem?_map, List.getElem?_eq_getElem hi]; rfl)⟩
  refine evr_lc (ei_tup hI) (by rw [List.length_map]; exact hn) (fun i acc M' => M' = M ∧ acc = (xs.take i).map F) (fun M' e => ⟨e, rfl⟩) (fun _ _ _ _ _ => nil_sub) hb (fun i acc M' hi ⟨hM, ha⟩ => ?_) fun acc M' _ ⟨hM, ha⟩ => ?_
  · subst hM ha
    obtain ⟨x, h1, h2⟩ := e i hi
    rw [h2]
    intro N F' σ H v Q S r q
    refine hs x (List.mem_of_getElem? h1) N F' σ H v Q S r fun σ' F2 H' ρ' M2 e1 he S1 => q σ' F2 H' ρ' M2 e1 (etr_yes ?_) S1
    refine he.mono fun d M3 ⟨h3, h4⟩ => ⟨h4, ?_⟩
    have hlt := (List.getElem?_eq_some_iff.mp h1)
    rw [List.take_succ_eq_append_getElem hlt.1, List.map_append, h3, hlt.2]; rfl
  · subst hM ha
    rw [List.length_map, List.take_length]
    exact kk
theorem w_lcLp {α : Type} {xs : List α} {f : α → DV} {g : TG} {vs : List Nat} {te0 : TE} (F : α → DV) (hn : xs.length ≤ 100000) (hI : EvR K te0 ρ M fun d M' => d = .lst (xs.map f) ∧ M' = M) (hb : BdW g vs)
    (hs : ∀ x, x ∈ xs → BdG K g (wipeD ρ vs) M (f x) fun ρ2 M2 => EvR K te ρ2 M2 fun d' M' => d' = F x ∧ M' = M) (kk : R (.lst (xs.map F)) M) : EvR K (tLc (iList K te0) g tYes te vs) ρ M R := by
  have e : ∀ i, i < (xs.map f).length → ∃ x, xs[i]? = some x ∧ nth (xs.map f) i = f x := fun i hi => by
    rw [List.length_map] at hi
    exact ⟨xs[i], List.getElem?_eq_getElem hi, nth_of (by rw [List.getElem?_map, List.getElem?_eq_getElem hi]; rfl)⟩
  refine evr_lc (ei_lst hI) (by rw [List.length_map]; exact hn) (fun i acc M' => M' = M ∧ acc = (xs.take i).map F) (fun M' e => ⟨e, rfl⟩) (fun _ _ _ _ _ => nil_sub) hb (fun i acc M' hi ⟨hM, ha⟩ => ?_) fun acc M' _ ⟨hM, ha⟩ => ?_
  · subst hM ha
    obtain ⟨x, h1, h2⟩ := e i hi
    rw [h2]
    intro N F' σ H v Q S r q
    refine hs x (List.mem_of_getElem? h1) N F' σ H v Q S r fun σ' F2 H' ρ' M2 e1 he S1 => q σ' F2 H' ρ' M2 e1 (etr_yes ?_) S1
    refine he.mono fun d M3 ⟨h3, h4⟩ => ⟨h4, ?_⟩
    have hlt := (List.getElem?_eq_some_iff.mp h1)
    rw [List.take_succ_eq_append_getElem hlt.1, List.map_append, h3, hlt.2]; rfl
  · subst hM ha
    rw [List.length_map, List.take_length]
    exact kk
end
end DD

set_option Elab.async false
set_option linter.all false
set_option maxRecDepth 100000
set_option maxHeartbeats 4000000
namespace DD
open PySem PySem.Spec PyProof.Rows L2
/-! xs.index(pair); comprehensions and loops with draws -/
def pairPy (x : Int × Int) : PyData := .tuple [.int x.1, .int x.2]
abbrev pairI (x : Int × Int) : DV := .tup [.int x.1, .int x.2]
theorem toPyA_pairs : ∀ ps : List (Int × Int), toPyA (ps.map pairI) = some (ps.map pairPy)
  | [] => rfl
  | p :: r => by
    show (match toPy (pairI p), toPyA (r.map pairI) with | some y, some ys => some (y :: ys) | _, _ => none) = _
    rw [toPyA_pairs r]; rfl
theorem eqv_pair (x y : Int × Int) : PyData.eqv (pairPy x) (pairPy y) = decide (x = y) := by
  obtain ⟨a, b⟩ := x
  obtain ⟨c, d⟩ := y
  show ((a == c) && ((b == d) && true)) = _
  by_cases h1 : a = c
  · by_cases h2 : b = d
    · subst h1 h2; simp
    · have : ¬ (a, b) = (c, d) := fun e => h2 (congrArg Prod.snd e)
      rw [decide_eq_false this, beq_false_of_ne h2]; simp
  · have : ¬ (a, b) = (c, d) := fun e => h1 (congrArg Prod.fst e)
    rw [decide_eq_false this, beq_false_of_ne h1]; simp
section
variable {K : PySem.W.Frag} {ρ : Rho} {M : Ms} {R : DV → Ms → Prop} {te to : TE} {ta : TA} {tt : TT} {wi : TI} {g : TG} {vs : List Nat} {tb : TS} {P : Post}
theorem w_indexP (h : EvR K to ρ M fun o M1 => ∃ ps : List (Int × Int), o = .lst (ps.map pairI) ∧ Fit (.lst (ps.map pairI)) ∧ EvAR K ta ρ M1 fun ds M2 => ∃ (x : Int × Int) (j : Nat), ds = [pairI x] ∧ Fit (pairI x) ∧ ps[j]? = some x ∧ (∀ m, m < j → ps[m]? ≠ some x) ∧ R (.int j) M2) :
    EvR K (tBM K "list" (rIndexD K) to ta) ρ M R := fun N F σ H S Q q => h N F σ H S _ fun v o M1 F1 H1 e1 ⟨ps, ho, hf, h1⟩ w1 r1 => by
  subst ho
  obtain ⟨a, xs, rfl, ha, ra⟩ := id r1.lst_of
  refine ⟨ty_list (F := F1) (w1.fr _ _ ha), h1 N F1 σ H1 ⟨w1, S.e.mono e1⟩ _ fun us ds M2 F2 H2 e2 ⟨x, j, hd, hx, hj, h0, hr⟩ w2 r2 => ?_⟩
  subst hd
  obtain ⟨u, rfl, ru⟩ := rpa1 r2
  obtain ⟨p, p1, _, _, _, _, p6⟩ := hf.py
  obtain ⟨p', p1', _, _, _, _, p6'⟩ := hx.py
  have e3 : toPy (.lst (ps.map pairI)) = some (.list (ps.map pairPy)) := by
    show (toPyA (ps.map pairI)).map PyData.list = _
    rw [toPyA_pairs]; rfl
  rw [e3] at p1
  cases p1
  have e4 : toPy (pairI x) = some (pairPy x) := rfl
  rw [e4] at p1'
  cases p1'
  refine ⟨a, u, pairPy x, ps.map pairPy, j, pairPy x, rfl, rfl, (r1.mono e2).dp w2.fr e3, ru.dp w2.fr e4, p6, p6', by rw [List.getElem?_map, hj]; rfl, by rw [eqv_pair]; exact decide_eq_true rfl, fun m z hm hz => ?_, q _ _ _ F2 H2 (e1.trans e2) hr w2 (.int _)⟩
  rw [List.getElem?_map] at hz
  cases e : ps[m]? with
  | none => rw [e] at hz; cases hz
  | some y =>
    rw [e] at hz
    cases hz
    rw [eqv_pair]
    exact decide_eq_false fun z => h0 m hm (by rw [e, z])
/-- a comprehension whose elements are drawn -/
theorem w_lcR {α : Type} {n : Nat} {y : Nat → DV} {f : α → DV} {ok : α → Prop} (hI : EvI K wi ρ M [] n y fun M' => M' = M) (hn : n ≤ 100000) (hb : BdW g vs)
    (hs : ∀ i, i < n → BdG K g (wipeD ρ vs) M (y i) fun ρ2 M2 => EvR K te ρ2 M2 fun d M' => M' = M ∧ ∃ x, d = f x ∧ ok x) (kk : ∀ xs : List α, xs.length = n → (∀ x ∈ xs, ok x) → R (.lst (xs.map f)) M) : EvR K (tLc wi g tYes te vs) ρ M R := by
  refine evr_lc hI hn (fun i acc M' => M' = M ∧ ∃ xs : List α, acc = xs.map f ∧ xs.length = i ∧ ∀ x ∈ xs, ok x) (fun M' e => ⟨e, [], rfl, rfl, fun x h => nomatch h⟩) (fun _ _ _ _ _ => nil_sub) hb (fun i acc M' hi ⟨hM, xs, ha, hl, hk⟩ => ?_) fun acc M' _ ⟨hM, xs, ha, hl, hk⟩ => ?_
  · subst hM ha
    intro N F' σ H v Q S r q
    refine hs i hi N F' σ H v Q S r fun σ' F2 H' ρ' M2 e1 he S1 => q σ' F2 H' ρ' M2 e1 (etr_yes ?_) S1
    refine he.mono fun d M3 ⟨h4, x, h3, hx⟩ => ⟨h4, xs ++ [x], by rw [List.map_append, h3]; rfl, by rw [List.length_append, hl]; rfl, fun z hz => ?_⟩
    rcases List.mem_append.mp hz with hz | hz
    · exact hk z hz
    · rw [List.mem_singleton.mp hz]; exact hx
  · subst hM ha
    exact kk xs hl hk
/-- .. the list is owned -/
theorem w_lcRC {α : Type} {n : Nat} {y : Nat → DV} {f : α → DV} {ok : α → Prop} (hI : EvI K wi ρ M [] n y fun M' => M' = M) (hn : n ≤ 100000) (hb : BdW g vs)
    (hs : ∀ i, i < n → BdG K g (wipeD ρ vs) M (y i) fun ρ2 M2 => EvR K te ρ2 M2 fun d M' => M' = M ∧ ∃ x, d = f x ∧ ok x) (kk : ∀ (D : Addr) (xs : List α), xs.length = n → (∀ x ∈ xs, ok x) → R (.raw (.ref D)) ((D, .lst (xs.map f)) :: M)) : EvR K (tLc wi g tYes te vs) ρ M R := by
  refine evr_lcC hI hn (fun i acc M' => M' = M ∧ ∃ xs : List α, acc = xs.map f ∧ xs.length = i ∧ ∀ x ∈ xs, ok x) (fun M' e => ⟨e, [], rfl, rfl, fun x h => nomatch h⟩) (fun _ _ _ _ _ => nil_sub) hb (fun i acc M' hi ⟨hM, xs, ha, hl, hk⟩ => ?_) fun D acc M' _ ⟨hM, xs, ha, hl, hk⟩ => ?_
  · subst hM ha
    intro N F' σ H v Q S r q
    refine hs i hi N F' σ H v Q S r fun σ' F2 H' ρ' M2 e1 he S1 => q σ' F2 H' ρ' M2 e1 (etr_yes ?_) S1
    refine he.mono fun d M3 ⟨h4, x, h3, hx⟩ => ⟨h4, xs ++ [x], by rw [List.map_append, h3]; rfl, by rw [List.length_append, hl]; rfl, fun z hz => ?_⟩
    rcases List.mem_append.mp hz with hz | hz
    · exact hk z hz
    · rw [List.mem_singleton.mp hz]; exact hx
  · subst hM ha
    exact kk D xs hl hk
/-- range(n), n drawn -/
theorem ei_rng1X {Φ : Nat → Ms → Prop} (h : EvAR K ta ρ M fun ds M' => ∃ n : Nat, ds = [.int n] ∧ n ≤ 1000000 ∧ Φ n M') : EvIX K (iRng1 ta) ρ M fun n y G M' => y = (fun i => .int (i : Nat)) ∧ G = [] ∧ Φ n M' := fun N F σ H S Q q =>
  h N F σ H S _ fun vs ds M1 F1 H1 e1 ⟨n, hd, hn, hr⟩ w1 r1 => by
    subst hd
    obtain ⟨u, rfl, ru⟩ := rpa1 r1
    cases ru.int_of
    refine ⟨n, rfl, by omega, by omega, q _ n _ _ M1 F1 H1 e1 ⟨rfl, rfl, hr⟩ w1 ⟨fun i _ _ _ hi _ _ _ => by show i < ((n : Int)).toNat; omega, fun _ _ _ _ _ _ => by show ((n : Int)).toNat ≤ n; omega, fun i F2 M2 H2 x H3 hi _ w2 _ hy => ?_⟩⟩
    obtain ⟨rfl, rfl⟩ := hy
    exact ⟨F2, Evl.Ex.refl _, w2, by rw [Int.zero_add]; exact .int _⟩
theorem w_for1X {k : Nat} (h : EvAR K ta ρ M fun ds M' => ∃ n : Nat, ds = [.int n] ∧ n ≤ 1000000 ∧ ∃ inv : Nat → Rho → Ms → Prop, inv 0 ρ M' ∧ (∀ i ρ' M', i < n → inv i ρ' M' → XS K tb (ρ'.set k (some (.int (i : Nat)))) M' { P with nx := inv (i + 1), ct := inv (i + 1), bk := P.nx }) ∧ (∀ ρ' M', inv n ρ' M' → P.nx ρ' M')) : XS K (tFor (iRng1 ta) (gName k) tb) ρ M P :=
  xs_forX (ei_rng1X h) fun n y G M' ⟨hy, hG, inv, h0, hs, hd⟩ => by
    subst hy hG
    exact ⟨inv, h0, fun _ _ _ _ _ => nil_sub, fun i ρ' M'' hi hv => bd_name (hs i ρ' M'' hi hv), hd⟩
/-- a comprehension over range(n), n and the elements drawn -/
theorem w_lc1X {α : Type} {f : α → DV} {ok : α → Prop} {k : Nat} (B : Nat) (hB : B ≤ 100000) (h : EvAR K ta ρ M fun ds M' => M' = M ∧ ∃ n : Nat, ds = [.int n] ∧ n ≤ B)
    (hs : ∀ i : Nat, i < B → EvR K te ((wipeD ρ vs).set k (some (.int i))) M fun d M' => M' = M ∧ ∃ x, d = f x ∧ ok x) (hk : k ∈ vs) (kk : ∀ xs : List α, xs.length ≤ B → (∀ x ∈ xs, ok x) → R (.lst (xs.map f)) M) : EvR K (tLc (iRng1 ta) (gName k) tYes te vs) ρ M R := fun N F σ H S Q q =>
  h N F σ H S _ fun us ds M1 F1 H1 e1 ⟨hM, n, hd, hn⟩ w1 r1 => by
    subst hd hM
    obtain ⟨u, rfl, ru⟩ := rpa1 r1
    cases ru.int_of
    have hI : EvI K (iRng1 (fun σ H (Q : List V → Hp → Prop) => Q [V.int (n : Nat)] H)) ρ M1 [] n (fun i => .int (i : Nat)) fun M' => M' = M1 := by
      have h2 : EvAR K (fun σ H (Q : List V → Hp → Prop) => Q [V.int (n : Nat)] H) ρ M1 fun ds M' => ds = [.int (n : Nat)] ∧ M' = M1 := fun N F σ H S Q q => q _ _ M1 F H (Evl.Ex.refl F) ⟨rfl, rfl⟩ S.w (.cons (.int _) .nil)
      have := ei_rng1 h2 (show -(2 ^ 62) ≤ (n : Int) ∧ (n : Int) < 2 ^ 62 by omega)
      rw [Int.toNat_natCast] at this
      exact this
    have := w_lcR (R := R) hI (by omega) (bdw_name hk) (fun i hi => bd_name (hs i (by omega))) (fun xs hl hx => kk xs (by omega) hx)
    exact this N F1 σ H1 ⟨w1, S.e.mono e1⟩ Q fun v d M' F' H' e2 => q v d M' F' H' (e1.trans e2)
end
end DD

set_option Elab.async false
set_option linter.all false
set_option maxRecDepth 100000
set_option maxHeartbeats 4000000
namespace My
open PySem PySem.Spec PyProof.Rows L2 DD
def topS (i : Nat) : Stmt := PySem.Challenge.pw_givenonce_k42_whole_clashes_judged.main.body.getD i (.Pass ⟨0, 0, 0, 0⟩)
abbrev s_is_between : Stmt := (topS 16)
theorem sc_is_between : FnScope ["value", "low", "high"] ["value", "low", "high"] (defScope s_is_between) := ⟨rfl, rfl, rfl, by decide +kernel, rfl, by decide +kernel, by decide +kernel⟩
abbrev s_is_entry : Stmt := (topS 17)
theorem sc_is_entry : FnScope ["value", "count"] ["value", "count"] (defScope s_is_entry) := ⟨rfl, rfl, rfl, by decide +kernel, rfl, by decide +kernel, by decide +kernel⟩
abbrev s_wrong_entry : Stmt := (topS 18)
theorem sc_wrong_entry : FnScope ["entries", "count", "index", "entry"] ["entries", "count"] (defScope s_wrong_entry) := ⟨rfl, rfl, rfl, by decide +kernel, rfl, by decide +kernel, by decide +kernel⟩
abbrev s_check_starts : Stmt := (topS 22)
theorem sc_check_starts : FnScope ["value", "count", "index"] ["value", "count"] (defScope s_check_starts) := ⟨rfl, rfl, rfl, by decide +kernel, rfl, by decide +kernel, by decide +kernel⟩
abbrev s_check_table : Stmt := (topS 23)
theorem sc_check_table : FnScope ["value", "count", "size", "index"] ["value", "count", "size"] (defScope s_check_table) := ⟨rfl, rfl, rfl, by decide +kernel, rfl, by decide +kernel, by decide +kernel⟩
abbrev s_place_in_table : Stmt := (topS 24)
theorem sc_place_in_table : FnScope ["count", "one", "other", "low", "high"] ["count", "one", "other"] (defScope s_place_in_table) := ⟨rfl, rfl, rfl, by decide +kernel, rfl, by decide +kernel, by decide +kernel⟩
abbrev s_arising : Stmt := (topS 25)
theorem sc_arising : FnScope ["count", "starts", "table", "found", "kind", "gift", "before", "one", "fresh", "other"] ["count", "starts", "table"] (defScope s_arising) := ⟨rfl, rfl, rfl, by decide +kernel, rfl, by decide +kernel, by decide +kernel⟩
abbrev s_Mixture_init : Stmt := (inClass (topS 26) 0)
theorem sc_Mixture_init : FnScope ["self", "count", "starts", "table"] ["self", "count", "starts", "table"] (defScope s_Mixture_init) := ⟨rfl, rfl, rfl, by decide +kernel, rfl, by decide +kernel, by decide +kernel⟩
abbrev s_Mixture_met : Stmt := (inClass (topS 26) 1)
theorem sc_Mixture_met : FnScope ["self", "one", "other"] ["self", "one", "other"] (defScope s_Mixture_met) := ⟨rfl, rfl, rfl, by decide +kernel, rfl, by decide +kernel, by decide +kernel⟩
abbrev s_is_triple : Stmt := (topS 54)
theorem sc_is_triple : FnScope ["value"] ["value"] (defScope s_is_triple) := ⟨rfl, rfl, rfl, by decide +kernel, rfl, by decide +kernel, by decide +kernel⟩
abbrev s_mixture_from : Stmt := (topS 55)
theorem sc_mixture_from : FnScope ["value", "found"] ["value"] (defScope s_mixture_from) := ⟨rfl, rfl, rfl, by decide +kernel, rfl, by decide +kernel, by decide +kernel⟩
abbrev s_both_ways : Stmt := (topS 41)
theorem sc_both_ways : FnScope ["mixture", "one", "other", "last", "first", "gift", "kind", "more", "second", "start", "mate", "rest"] ["mixture", "one", "other", "last"] (defScope s_both_ways) := ⟨rfl, rfl, rfl, by decide +kernel, rfl, by decide +kernel, by decide +kernel⟩
abbrev s_is_kind_there : Stmt := (topS 62)
theorem sc_is_kind_there : FnScope ["mixture", "value"] ["mixture", "value"] (defScope s_is_kind_there) := ⟨rfl, rfl, rfl, by decide +kernel, rfl, by decide +kernel, by decide +kernel⟩
abbrev s_gifts_along : Stmt := (topS 63)
theorem sc_gifts_along : FnScope ["mixture", "kind", "further", "total", "mate", "gift"] ["mixture", "kind", "further"] (defScope s_gifts_along) := ⟨rfl, rfl, rfl, by decide +kernel, rfl, by decide +kernel, by decide +kernel⟩
abbrev s_shows_clashes : Stmt := (topS 64)
theorem sc_shows_clashes : FnScope ["mixture", "paper", "kind", "left", "right"] ["mixture", "paper"] (defScope s_shows_clashes) := ⟨rfl, rfl, rfl, by decide +kernel, rfl, by decide +kernel, by decide +kernel⟩
abbrev s_holds_of_mixture : Stmt := (topS 72)
theorem sc_holds_of_mixture : FnScope ["claim", "paper", "mixture"] ["claim", "paper"] (defScope s_holds_of_mixture) := ⟨rfl, rfl, rfl, by decide +kernel, rfl, by decide +kernel, by decide +kernel⟩
abbrev s_holds : Stmt := (topS 75)
theorem sc_holds : FnScope ["claim", "paper"] ["claim", "paper"] (defScope s_holds) := ⟨rfl, rfl, rfl, by decide +kernel, rfl, by decide +kernel, by decide +kernel⟩
abbrev s__law_jug : Stmt := (topS 77)
theorem sc__law_jug : FnScope ["script", "k", "own", "mixed", "entry"] ["script", "k"] (defScope s__law_jug) := ⟨rfl, rfl, rfl, by decide +kernel, rfl, by decide +kernel, by decide +kernel⟩
abbrev s__law_pour : Stmt := (topS 78)
theorem sc__law_pour : FnScope ["jug", "many", "digit"] ["jug", "many"] (defScope s__law_pour) := ⟨rfl, rfl, rfl, by decide +kernel, rfl, by decide +kernel, by decide +kernel⟩
abbrev s__law_one : Stmt := (topS 79)
theorem sc__law_one : FnScope ["jug", "things"] ["jug", "things"] (defScope s__law_one) := ⟨rfl, rfl, rfl, by decide +kernel, rfl, by decide +kernel, by decide +kernel⟩
abbrev s__law_pairs : Stmt := (topS 80)
theorem sc__law_pairs : FnScope ["n", "found", "a", "b"] ["n"] (defScope s__law_pairs) := ⟨rfl, rfl, rfl, by decide +kernel, rfl, by decide +kernel, by decide +kernel⟩
abbrev s__law_plain_entry : Stmt := (topS 81)
theorem sc__law_plain_entry : FnScope ["way", "n", "a", "b", "c"] ["way", "n", "a", "b", "c"] (defScope s__law_plain_entry) := ⟨rfl, rfl, rfl, by decide +kernel, rfl, by decide +kernel, by decide +kernel⟩
abbrev s__law_sure : Stmt := (topS 83)
theorem sc__law_sure : FnScope ["jug", "most", "n", "c", "way", "starts_here", "k", "a", "b"] ["jug", "most"] (defScope s__law_sure) := ⟨rfl, rfl, rfl, by decide +kernel, rfl, by decide +kernel, by decide +kernel⟩
abbrev s__law_told : Stmt := (topS 82)
theorem sc__law_told : FnScope ["jug", "most", "n", "c", "way", "d", "starts_here", "k", "top", "pair", "table_here", "a", "b"] ["jug", "most"] (defScope s__law_told) := ⟨rfl, rfl, rfl, by decide +kernel, rfl, by decide +kernel, by decide +kernel⟩
abbrev s__law_any_mix : Stmt := (topS 84)
theorem sc__law_any_mix : FnScope ["jug", "most"] ["jug", "most"] (defScope s__law_any_mix) := ⟨rfl, rfl, rfl, by decide +kernel, rfl, by decide +kernel, by decide +kernel⟩
abbrev s__law_met : Stmt := (topS 85)
theorem sc__law_met : FnScope ["told", "a", "b", "low", "high"] ["told", "a", "b"] (defScope s__law_met) := ⟨rfl, rfl, rfl, by decide +kernel, rfl, by decide +kernel, by decide +kernel⟩
abbrev s__law_arising : Stmt := (topS 86)
theorem sc__law_arising : FnScope ["told", "found", "kind", "gift", "again", "fresh", "a", "b"] ["told"] (defScope s__law_arising) := ⟨rfl, rfl, rfl, by decide +kernel, rfl, by decide +kernel, by decide +kernel⟩
abbrev s__law_both_ways : Stmt := (topS 87)
theorem sc__law_both_ways : FnScope ["told", "a", "b", "c", "first", "gift", "left", "more", "second", "start", "right", "rest"] ["told", "a", "b", "c"] (defScope s__law_both_ways) := ⟨rfl, rfl, rfl, by decide +kernel, rfl, by decide +kernel, by decide +kernel⟩
abbrev s__law_sums : Stmt := (topS 88)
theorem sc__law_sums : FnScope ["told", "found", "a", "b", "c", "further", "left", "first", "right", "second", "kind", "gift", "other_gift"] ["told", "found"] (defScope s__law_sums) := ⟨rfl, rfl, rfl, by decide +kernel, rfl, by decide +kernel, by decide +kernel⟩
abbrev s__law_is_whole : Stmt := (topS 89)
theorem sc__law_is_whole : FnScope ["thing", "low", "high"] ["thing", "low", "high"] (defScope s__law_is_whole) := ⟨rfl, rfl, rfl, by decide +kernel, rfl, by decide +kernel, by decide +kernel⟩
abbrev s__law_clash_shown : Stmt := (topS 90)
theorem sc__law_clash_shown : FnScope ["told", "thing", "kinds_here", "kind", "first", "second"] ["told", "thing"] (defScope s__law_clash_shown) := ⟨rfl, rfl, rfl, by decide +kernel, rfl, by decide +kernel, by decide +kernel⟩
abbrev s__law_bent : Stmt := (topS 91)
theorem sc__law_bent : FnScope ["jug", "told", "thing", "way", "at", "further", "odd", "some", "spot"] ["jug", "told", "thing"] (defScope s__law_bent) := ⟨rfl, rfl, rfl, by decide +kernel, rfl, by decide +kernel, by decide +kernel⟩
abbrev s__law_right : Stmt := (topS 92)
theorem sc__law_right : FnScope ["jug", "again", "told", "kinds_here", "some", "a", "b", "c", "turn", "further", "k", "thing", "due"] ["jug"] (defScope s__law_right) := ⟨rfl, rfl, rfl, by decide +kernel, rfl, by decide +kernel, by decide +kernel⟩
abbrev s_law : Stmt := (topS 93)
theorem sc_law : FnScope ["script", "k"] ["script"] (defScope s_law) := ⟨rfl, rfl, rfl, by decide +kernel, rfl, by decide +kernel, by decide +kernel⟩
/-- where the defs and classes stand -/
structure Ad where
  f_is_between : Addr
  d_is_between : FuncData
  f_is_entry : Addr
  d_is_entry : FuncData
  f_wrong_entry : Addr
  d_wrong_entry : FuncData
  f_check_starts : Addr
  d_check_starts : FuncData
  f_check_table : Addr
  d_check_table : FuncData
  f_place_in_table : Addr
  d_place_in_table : FuncData
  f_arising : Addr
  d_arising : FuncData
  f_Mixture_init : Addr
  d_Mixture_init : FuncData
  f_Mixture_met : Addr
  d_Mixture_met : FuncData
  f_is_triple : Addr
  d_is_triple : FuncData
  f_mixture_from : Addr
  d_mixture_from : FuncData
  f_both_ways : Addr
  d_both_ways : FuncData
  f_is_kind_there : Addr
  d_is_kind_there : FuncData
  f_gifts_along : Addr
  d_gifts_along : FuncData
  f_shows_clashes : Addr
  d_shows_clashes : FuncData
  f_holds_of_mixture : Addr
  d_holds_of_mixture : FuncData
  f_holds : Addr
  d_holds : FuncData
  f__law_jug : Addr
  d__law_jug : FuncData
  f__law_pour : Addr
  d__law_pour : FuncData
  f__law_one : Addr
  d__law_one : FuncData
  f__law_pairs : Addr
  d__law_pairs : FuncData
  f__law_plain_entry : Addr
  d__law_plain_entry : FuncData
  f__law_sure : Addr
  d__law_sure : FuncData
  f__law_told : Addr
  d__law_told : FuncData
  f__law_any_mix : Addr
  d__law_any_mix : FuncData
  f__law_met : Addr
  d__law_met : FuncData
  f__law_arising : Addr
  d__law_arising : FuncData
  f__law_both_ways : Addr
  d__law_both_ways : FuncData
  f__law_sums : Addr
  d__law_sums : FuncData
  f__law_is_whole : Addr
  d__law_is_whole : FuncData
  f__law_clash_shown : Addr
  d__law_clash_shown : FuncData
  f__law_bent : Addr
  d__law_bent : FuncData
  f__law_right : Addr
  d__law_right : FuncData
  f_law : Addr
  d_law : FuncData
  C_Mixture : Addr
/-- what the top has left -/
structure Tx (K : PySem.W.Frag) (mg : Str → Option Value) (A : Ad) : Prop where
  F_is_between : Fun K "is_between" "is_between" s_is_between A.f_is_between A.d_is_between
  g_is_between : mg "is_between" = some (.ref A.f_is_between)
  F_is_entry : Fun K "is_entry" "is_entry" s_is_entry A.f_is_entry A.d_is_entry
  g_is_entry : mg "is_entry" = some (.ref A.f_is_entry)
  F_wrong_entry : Fun K "wrong_entry" "wrong_entry" s_wrong_entry A.f_wrong_entry A.d_wrong_entry
  g_wrong_entry : mg "wrong_entry" = some (.ref A.f_wrong_entry)
  F_check_starts : Fun K "check_starts" "check_starts" s_check_starts A.f_check_starts A.d_check_starts
  g_check_starts : mg "check_starts" = some (.ref A.f_check_starts)
  F_check_table : Fun K "check_table" "check_table" s_check_table A.f_check_table A.d_check_table
  g_check_table : mg "check_table" = some (.ref A.f_check_table)
  F_place_in_table : Fun K "place_in_table" "place_in_table" s_place_in_table A.f_place_in_table A.d_place_in_table
  g_place_in_table : mg "place_in_table" = some (.ref A.f_place_in_table)
  F_arising : Fun K "arising" "arising" s_arising A.f_arising A.d_arising
  g_arising : mg "arising" = some (.ref A.f_arising)
  F_Mixture_init : Fun K "__init__" "Mixture.__init__" s_Mixture_init A.f_Mixture_init A.d_Mixture_init
  mk_Mixture : Mk K A.C_Mixture A.f_Mixture_init
  F_Mixture_met : Fun K "met" "Mixture.met" s_Mixture_met A.f_Mixture_met A.d_Mixture_met
  m_Mixture_met : Meth K A.C_Mixture "met" A.f_Mixture_met
  F_is_triple : Fun K "is_triple" "is_triple" s_is_triple A.f_is_triple A.d_is_triple
  g_is_triple : mg "is_triple" = some (.ref A.f_is_triple)
  F_mixture_from : Fun K "mixture_from" "mixture_from" s_mixture_from A.f_mixture_from A.d_mixture_from
  g_mixture_from : mg "mixture_from" = some (.ref A.f_mixture_from)
  F_both_ways : Fun K "both_ways" "both_ways" s_both_ways A.f_both_ways A.d_both_ways
  g_both_ways : mg "both_ways" = some (.ref A.f_both_ways)
  F_is_kind_there : Fun K "is_kind_there" "is_kind_there" s_is_kind_there A.f_is_kind_there A.d_is_kind_there
  g_is_kind_there : mg "is_kind_there" = some (.ref A.f_is_kind_there)
  F_gifts_along : Fun K "gifts_along" "gifts_along" s_gifts_along A.f_gifts_along A.d_gifts_along
  g_gifts_along : mg "gifts_along" = some (.ref A.f_gifts_along)
  F_shows_clashes : Fun K "shows_clashes" "shows_clashes" s_shows_clashes A.f_shows_clashes A.d_shows_clashes
  g_shows_clashes : mg "shows_clashes" = some (.ref A.f_shows_clashes)
  F_holds_of_mixture : Fun K "holds_of_mixture" "holds_of_mixture" s_holds_of_mixture A.f_holds_of_mixture A.d_holds_of_mixture
  g_holds_of_mixture : mg "holds_of_mixture" = some (.ref A.f_holds_of_mixture)
  F_holds : Fun K "holds" "holds" s_holds A.f_holds A.d_holds
  g_holds : mg "holds" = some (.ref A.f_holds)
  F__law_jug : Fun K "_law_jug" "_law_jug" s__law_jug A.f__law_jug A.d__law_jug
  g__law_jug : mg "_law_jug" = some (.ref A.f__law_jug)
  F__law_pour : Fun K "_law_pour" "_law_pour" s__law_pour A.f__law_pour A.d__law_pour
  g__law_pour : mg "_law_pour" = some (.ref A.f__law_pour)
  F__law_one : Fun K "_law_one" "_law_one" s__law_one A.f__law_one A.d__law_one
  g__law_one : mg "_law_one" = some (.ref A.f__law_one)
  F__law_pairs : Fun K "_law_pairs" "_law_pairs" s__law_pairs A.f__law_pairs A.d__law_pairs
  g__law_pairs : mg "_law_pairs" = some (.ref A.f__law_pairs)
  F__law_plain_entry : Fun K "_law_plain_entry" "_law_plain_entry" s__law_plain_entry A.f__law_plain_entry A.d__law_plain_entry
  g__law_plain_entry : mg "_law_plain_entry" = some (.ref A.f__law_plain_entry)
  F__law_sure : Fun K "_law_sure" "_law_sure" s__law_sure A.f__law_sure A.d__law_sure
  g__law_sure : mg "_law_sure" = some (.ref A.f__law_sure)
  F__law_told : Fun K "_law_told" "_law_told" s__law_told A.f__law_told A.d__law_told
  g__law_told : mg "_law_told" = some (.ref A.f__law_told)
  F__law_any_mix : Fun K "_law_any_mix" "_law_any_mix" s__law_any_mix A.f__law_any_mix A.d__law_any_mix
  g__law_any_mix : mg "_law_any_mix" = some (.ref A.f__law_any_mix)
  F__law_met : Fun K "_law_met" "_law_met" s__law_met A.f__law_met A.d__law_met
  g__law_met : mg "_law_met" = some (.ref A.f__law_met)
  F__law_arising : Fun K "_law_arising" "_law_arising" s__law_arising A.f__law_arising A.d__law_arising
  g__law_arising : mg "_law_arising" = some (.ref A.f__law_arising)
  F__law_both_ways : Fun K "_law_both_ways" "_law_both_ways" s__law_both_ways A.f__law_both_ways A.d__law_both_ways
  g__law_both_ways : mg "_law_both_ways" = some (.ref A.f__law_both_ways)
  F__law_sums : Fun K "_law_sums" "_law_sums" s__law_sums A.f__law_sums A.d__law_sums
  g__law_sums : mg "_law_sums" = some (.ref A.f__law_sums)
  F__law_is_whole : Fun K "_law_is_whole" "_law_is_whole" s__law_is_whole A.f__law_is_whole A.d__law_is_whole
  g__law_is_whole : mg "_law_is_whole" = some (.ref A.f__law_is_whole)
  F__law_clash_shown : Fun K "_law_clash_shown" "_law_clash_shown" s__law_clash_shown A.f__law_clash_shown A.d__law_clash_shown
  g__law_clash_shown : mg "_law_clash_shown" = some (.ref A.f__law_clash_shown)
  F__law_bent : Fun K "_law_bent" "_law_bent" s__law_bent A.f__law_bent A.d__law_bent
  g__law_bent : mg "_law_bent" = some (.ref A.f__law_bent)
  F__law_right : Fun K "_law_right" "_law_right" s__law_right A.f__law_right A.d__law_right
  g__law_right : mg "_law_right" = some (.ref A.f__law_right)
  F_law : Fun K "law" "law" s_law A.f_law A.d_law
  g_law : mg "law" = some (.ref A.f_law)
  g_Mixture : mg "Mixture" = some (.ref A.C_Mixture)
  cl_Mixture : Cls K A.C_Mixture
  na_Mixture_count : NoAttr K A.C_Mixture "count"
  na_Mixture_starts : NoAttr K A.C_Mixture "starts"
  na_Mixture_table : NoAttr K A.C_Mixture "table"
  na_Mixture_told : NoAttr K A.C_Mixture "told"
  na_Mixture_kinds : NoAttr K A.C_Mixture "kinds"
  ty_Mixture : PySem.W.findIn K (.ref A.C_Mixture) "__class__" = some (some (.builtin "object.__class__")) ∧ PySem.W.specialIn K (.builtin "object.__class__") "__get__" = some (some (.builtin "getset_descriptor.__get__")) ∧ PySem.W.takesIn K (.builtin "object.__class__") = some true ∧ PySem.W.mroIn K A.C_Mixture (.type "object") = some true ∧ PySem.W.kitOne K (.ref A.C_Mixture) (.ref A.C_Mixture) = some true
  c_MOST_GIFT : ∃ t : Tok, mg "MOST_GIFT" = some (.int 1000000 t)
  c_MOST_INPUTS : ∃ t : Tok, mg "MOST_INPUTS" = some (.int 3 t)
  c_MOST_KINDS : ∃ t : Tok, mg "MOST_KINDS" = some (.int 8 t)
  n_abs : mg "abs" = none
  n_all : mg "all" = none
  n_bool : mg "bool" = none
  n_divmod : mg "divmod" = none
  n_enumerate : mg "enumerate" = none
  n_int : mg "int" = none
  n_isinstance : mg "isinstance" = none
  n_len : mg "len" = none
  n_list : mg "list" = none
  n_max : mg "max" = none
  n_min : mg "min" = none
  n_range : mg "range" = none
  n_repr : mg "repr" = none
  n_set : mg "set" = none
  n_sorted : mg "sorted" = none
  n_str : mg "str" = none
  n_tuple : mg "tuple" = none
section
variable {P : Program} {w : World} {K : PySem.W.Frag} {mg : Str → Option Value} {base : Heap} {A : Ad}
theorem b_is_between (T : Tx K mg A) : Binds K A.d_is_between ["value", "low", "high"] [] := T.F_is_between.binds (ps := ["value", "low", "high"]) fun _ _ _ _ _ _ us hl => match us, hl with | [_, _, _], _ => rfl
theorem b_is_entry (T : Tx K mg A) : Binds K A.d_is_entry ["value", "count"] [] := T.F_is_entry.binds (ps := ["value", "count"]) fun _ _ _ _ _ _ us hl => match us, hl with | [_, _], _ => rfl
theorem b_wrong_entry (T : Tx K mg A) : Binds K A.d_wrong_entry ["entries", "count"] [] := T.F_wrong_entry.binds (ps := ["entries", "count"]) fun _ _ _ _ _ _ us hl => match us, hl with | [_, _], _ => rfl
theorem b_check_starts (T : Tx K mg A) : Binds K A.d_check_starts ["value", "count"] [] := T.F_check_starts.binds (ps := ["value", "count"]) fun _ _ _ _ _ _ us hl => match us, hl with | [_, _], _ => rfl
theorem b_check_table (T : Tx K mg A) : Binds K A.d_check_table ["value", "count", "size"] [] := T.F_check_table.binds (ps := ["value", "count", "size"]) fun _ _ _ _ _ _ us hl => match us, hl with | [_, _, _], _ => rfl
theorem b_place_in_table (T : Tx K mg A) : Binds K A.d_place_in_table ["count", "one", "other"] [] := T.F_place_in_table.binds (ps := ["count", "one", "other"]) fun _ _ _ _ _ _ us hl => match us, hl with | [_, _, _], _ => rfl
theorem b_arising (T : Tx K mg A) : Binds K A.d_arising ["count", "starts", "table"] [] := T.F_arising.binds (ps := ["count", "starts", "table"]) fun _ _ _ _ _ _ us hl => match us, hl with | [_, _, _], _ => rfl
theorem b_Mixture_init (T : Tx K mg A) : Binds K A.d_Mixture_init ["self", "count", "starts", "table"] [] := T.F_Mixture_init.binds (ps := ["self", "count", "starts", "table"]) fun _ _ _ _ _ _ us hl => match us, hl with | [_, _, _, _], _ => rfl
theorem b_Mixture_met (T : Tx K mg A) : Binds K A.d_Mixture_met ["self", "one", "other"] [] := T.F_Mixture_met.binds (ps := ["self", "one", "other"]) fun _ _ _ _ _ _ us hl => match us, hl with | [_, _, _], _ => rfl
theorem b_is_triple (T : Tx K mg A) : Binds K A.d_is_triple ["value"] [] := T.F_is_triple.binds (ps := ["value"]) fun _ _ _ _ _ _ us hl => match us, hl with | [_], _ => rfl
theorem b_mixture_from (T : Tx K mg A) : Binds K A.d_mixture_from ["value"] [] := T.F_mixture_from.binds (ps := ["value"]) fun _ _ _ _ _ _ us hl => match us, hl with | [_], _ => rfl
theorem b_both_ways (T : Tx K mg A) : Binds K A.d_both_ways ["mixture", "one", "other", "last"] [] := T.F_both_ways.binds (ps := ["mixture", "one", "other", "last"]) fun _ _ _ _ _ _ us hl => match us, hl with | [_, _, _, _], _ => rfl
theorem b_is_kind_there (T : Tx K mg A) : Binds K A.d_is_kind_there ["mixture", "value"] [] := T.F_is_kind_there.binds (ps := ["mixture", "value"]) fun _ _ _ _ _ _ us hl => match us, hl with | [_, _], _ => rfl
theorem b_gifts_along (T : Tx K mg A) : Binds K A.d_gifts_along ["mixture", "kind", "further"] [] := T.F_gifts_along.binds (ps := ["mixture", "kind", "further"]) fun _ _ _ _ _ _ us hl => match us, hl with | [_, _, _], _ => rfl
theorem b_shows_clashes (T : Tx K mg A) : Binds K A.d_shows_clashes ["mixture", "paper"] [] := T.F_shows_clashes.binds (ps := ["mixture", "paper"]) fun _ _ _ _ _ _ us hl => match us, hl with | [_, _], _ => rfl
theorem b_holds_of_mixture (T : Tx K mg A) : Binds K A.d_holds_of_mixture ["claim", "paper"] [] := T.F_holds_of_mixture.binds (ps := ["claim", "paper"]) fun _ _ _ _ _ _ us hl => match us, hl with | [_, _], _ => rfl
theorem b_holds (T : Tx K mg A) : Binds K A.d_holds ["claim", "paper"] [] := T.F_holds.binds (ps := ["claim", "paper"]) fun _ _ _ _ _ _ us hl => match us, hl with | [_, _], _ => rfl
theorem b__law_jug (T : Tx K mg A) : Binds K A.d__law_jug ["script", "k"] [] := T.F__law_jug.binds (ps := ["script", "k"]) fun _ _ _ _ _ _ us hl => match us, hl with | [_, _], _ => rfl
theorem b__law_pour (T : Tx K mg A) : Binds K A.d__law_pour ["jug", "many"] [] := T.F__law_pour.binds (ps := ["jug", "many"]) fun _ _ _ _ _ _ us hl => match us, hl with | [_, _], _ => rfl
theorem b__law_one (T : Tx K mg A) : Binds K A.d__law_one ["jug", "things"] [] := T.F__law_one.binds (ps := ["jug", "things"]) fun _ _ _ _ _ _ us hl => match us, hl with | [_, _], _ => rfl
theorem b__law_pairs (T : Tx K mg A) : Binds K A.d__law_pairs ["n"] [] := T.F__law_pairs.binds (ps := ["n"]) fun _ _ _ _ _ _ us hl => match us, hl with | [_], _ => rfl
theorem b__law_plain_entry (T : Tx K mg A) : Binds K A.d__law_plain_entry ["way", "n", "a", "b", "c"] [] := T.F__law_plain_entry.binds (ps := ["way", "n", "a", "b", "c"]) fun _ _ _ _ _ _ us hl => match us, hl with | [_, _, _, _, _], _ => rfl
theorem b__law_sure (T : Tx K mg A) : Binds K A.d__law_sure ["jug", "most"] [] := T.F__law_sure.binds (ps := ["jug", "most"]) fun _ _ _ _ _ _ us hl => match us, hl with | [_, _], _ => rfl
theorem b__law_told (T : Tx K mg A) : Binds K A.d__law_told ["jug", "most"] [] := T.F__law_told.binds (ps := ["jug", "most"]) fun _ _ _ _ _ _ us hl => match us, hl with | [_, _], _ => rfl
theorem b__law_any_mix (T : Tx K mg A) : Binds K A.d__law_any_mix ["jug", "most"] [] := T.F__law_any_mix.binds (ps := ["jug", "most"]) fun _ _ _ _ _ _ us hl => match us, hl with | [_, _], _ => rfl
theorem b__law_met (T : Tx K mg A) : Binds K A.d__law_met ["told", "a", "b"] [] := T.F__law_met.binds (ps := ["told", "a", "b"]) fun _ _ _ _ _ _ us hl => match us, hl with | [_, _, _], _ => rfl
theorem b__law_arising (T : Tx K mg A) : Binds K A.d__law_arising ["told"] [] := T.F__law_arising.binds (ps := ["told"]) fun _ _ _ _ _ _ us hl => match us, hl with | [_], _ => rfl
theorem b__law_both_ways (T : Tx K mg A) : Binds K A.d__law_both_ways ["told", "a", "b", "c"] [] := T.F__law_both_ways.binds (ps := ["told", "a", "b", "c"]) fun _ _ _ _ _ _ us hl => match us, hl with | [_, _, _, _], _ => rfl
theorem b__law_sums (T : Tx K mg A) : Binds K A.d__law_sums ["told", "found"] [] := T.F__law_sums.binds (ps := ["told", "found"]) fun _ _ _ _ _ _ us hl => match us, hl with | [_, _], _ => rfl
theorem b__law_is_whole (T : Tx K mg A) : Binds K A.d__law_is_whole ["thing", "low", "high"] [] := T.F__law_is_whole.binds (ps := ["thing", "low", "high"]) fun _ _ _ _ _ _ us hl => match us, hl with | [_, _, _], _ => rfl
theorem b__law_clash_shown (T : Tx K mg A) : Binds K A.d__law_clash_shown ["told", "thing"] [] := T.F__law_clash_shown.binds (ps := ["told", "thing"]) fun _ _ _ _ _ _ us hl => match us, hl with | [_, _], _ => rfl
theorem b__law_bent (T : Tx K mg A) : Binds K A.d__law_bent ["jug", "told", "thing"] [] := T.F__law_bent.binds (ps := ["jug", "told", "thing"]) fun _ _ _ _ _ _ us hl => match us, hl with | [_, _, _], _ => rfl
theorem b__law_right (T : Tx K mg A) : Binds K A.d__law_right ["jug"] [] := T.F__law_right.binds (ps := ["jug"]) fun _ _ _ _ _ _ us hl => match us, hl with | [_], _ => rfl
theorem b_law (T : Tx K mg A) : Binds K A.d_law ["script"] [] := T.F_law.binds (ps := ["script"]) fun _ _ _ _ _ _ us hl => match us, hl with | [_], _ => rfl
end
section
variable {P : Program} {w : World} {K : PySem.W.Frag} {mg : Str → Option Value} {base : Heap} {A : Ad}
/-! ### short ways for readings -/
local macro_rules | `(tactic| walk_at "lk") => `(tactic| first | rfl | assumption)
local macro_rules | `(tactic| walk_at "ln") => `(tactic| first | (simp; done) | (simp only [List.length_cons, List.length_nil, List.length_append, List.length_map, List.length_range, List.length_replicate]; omega) | assumption)
local macro_rules | `(tactic| walk_at "rv") => `(tactic| first
  | exact rv_add | exact rv_I0 | exact rv_B0 | exact rv_eqI | exact rv_neI | exact rv_isN | exact rv_notN
  | exact rv_ixT (by walk_at "lk") | exact rv_ixL (by walk_at "lk") | exact rv_ixC (by assumption) (by walk_at "lk") | exact rv_ixR (by walk_at "lk")
  | exact rv_mul (.inr (by decide)) | exact rv_mul (.inl (by decide)) | exact rv_mul (.inr (by omega)) | exact rv_mul (.inl (by omega))
  | exact rv_I (by show CPow _ _; exact ⟨by decide, by decide, by decide⟩) | exact rv_I (by show CDiv _ _; exact ⟨by omega, by omega⟩) | exact rv_I (by omega) | exact rv_I (by decide))
local macro_rules | `(tactic| walk_at "rc") => `(tactic| first
  | exact rc_lenT | exact rc_lenL | exact rc_lenR | exact rc_lenC (by assumption) | exact rc_int | exact rc_abs | exact rc_max2 | exact rc_min2 | exact rc_tupL | exact rc_tupC (by assumption)
  | exact rc_isiInt (by walk_at "lk") | exact rc_isiBool (by walk_at "lk") | exact rc_isiTup (by walk_at "lk") | exact rc_isiStr (by walk_at "lk") | exact rc_isiLst (by walk_at "lk")
  | exact rc_divmod (by omega) | exact rc_sumL | exact rc_allL | exact rc_anyL)
local macro_rules | `(tactic| walk_at "sp") => `(tactic| fail)
local macro_rules | `(tactic| walk_at "ev") => `(tactic| first
  | exact ev_var rfl | exact ev_cI | exact ev_cN | exact ev_cB | exact ev_cS | exact ev_cT | exact ev_cR
  | (refine' ev_op ?aa ?bb ?cc; (case aa => walk_at "ev"); (case bb => walk_at "ev"); (case cc => walk_at "rv"))
  | (refine' ev_un ?aa ?cc; (case aa => walk_at "ev"); (case cc => exact ru_neg))
  | (refine' ev_cb ?aa ?cc; (case aa => walk_at "ea"); (case cc => walk_at "rc"))
  | (refine' ev_tup ?aa ?bb; (case aa => walk_at "ea"); (case bb => walk_at "ln"))
  | (refine' ev_lst ?aa ?bb; (case aa => walk_at "ea"); (case bb => walk_at "ln"))
  | (refine' ev_call ?aa ?cc; (case aa => walk_at "ea"); (case cc => walk_at "sp"))
  | (refine' ev_callK ?aa ?bb ?cc; (case aa => walk_at "ea"); (case bb => walk_at "ea"); (case cc => walk_at "sp"))
  | (refine' ev_fld ?aa ?bb ?cc ?dd; (case aa => walk_at "ev"); (case bb => walk_at "cl"); (case cc => walk_at "na"); (case dd => walk_at "fl"))
  | (refine' ev_meth ?aa ?dd ?bb ?cc; (case aa => walk_at "ev"); (case dd => walk_at "fl"); (case bb => walk_at "ea"); (case cc => walk_at "sp"))
  | (refine' ev_slT ?aa ?bb ?cc; (case aa => walk_at "ev"); (case bb => walk_at "eo"); (case cc => walk_at "eo"))
  | (refine' ev_slL ?aa ?bb ?cc; (case aa => walk_at "ev"); (case bb => walk_at "eo"); (case cc => walk_at "eo"))
  | (refine' ev_slR ?aa ?bb ?cc; (case aa => walk_at "ev"); (case bb => walk_at "eo"); (case cc => walk_at "eo"))
  | (refine' ev_notV ?aa; (case aa => walk_at "ev")))
local macro_rules | `(tactic| walk_at "eo") => `(tactic| first | exact eo_none | (refine' eo_some ?aa; (case aa => walk_at "ev")))
local macro_rules | `(tactic| walk_at "ea") => `(tactic| first | exact ea_nil | (refine' ea_cons ?aa ?bb; (case aa => walk_at "ev"); (case bb => walk_at "ea")))
local macro_rules | `(tactic| walk_at "et") => `(tactic| first
  | (refine' et_test ?aa; (case aa => walk_at "ev"))
  | (refine' et_B ?aa; (case aa => walk_at "ev"))
  | (refine' et_not ?aa; (case aa => walk_at "et")))

/-! ### walks by word: «st» a step, «go» steps as far as they go -/
local macro_rules | `(tactic| walk_at "ar") => `(tactic| first
  | assumption | omega | (simp only [List.length_map, List.length_append, List.length_cons, List.length_nil, List.length_range, List.length_replicate, List.length_set]; omega))
local macro_rules | `(tactic| walk_at "mu") => `(tactic| first
  | exact .inr ⟨by decide, by decide⟩ | exact .inl ⟨by decide, by decide⟩ | exact .inr (by omega) | exact .inl (by omega))
local macro_rules | `(tactic| walk_at "mem") => `(tactic| first | assumption | exact List.mem_cons_self | exact List.mem_cons_of_mem _ (by first | assumption | exact List.mem_cons_self | exact List.mem_cons_of_mem _ (by first | assumption | exact List.mem_cons_self)))
local macro_rules | `(tactic| walk_at "cpow") => `(tactic| (show CPow _ _; exact ⟨by decide, by decide, by decide⟩))
local macro_rules | `(tactic| walk_at "cdiv") => `(tactic| (show CDiv _ _; exact ⟨by omega, by omega⟩))
local macro_rules | `(tactic| walk_at "cmod") => `(tactic| (show (0 : Int) < _; omega))
local macro_rules | `(tactic| walk_at "spc") => `(tactic| fail)
local macro_rules | `(tactic| walk_at "ix") => `(tactic| first | rfl | assumption | ((with_reducible show atI (List.map DV.int _) _ = _); exact atI_ints (by omega) (by omega)) | ((with_reducible show atI (List.map DV.int (List.map _ (List.range _))) _ = _); exact atI_rowI (by omega) (by omega)) | ((with_reducible show atI (List.map DV.int (List.map _ (List.range (_ + 1)))) (-1) = _); exact atI_lastI))
local macro_rules | `(tactic| walk_at "fit2") => `(tactic| assumption)
local macro_rules | `(tactic| walk_at "fit1") => `(tactic| first
  | ((with_reducible show Fs _ _ _); (first | exact Fs.non | exact Fs.bl | ((with_reducible refine' Fs.int ?_); omega) | (with_reducible refine' Fs.tup ?_) | (with_reducible refine' Fs.lst ?_) | exact Fs.str (by decide +kernel) (by decide +kernel) | walk_at "fit2"))
  | ((with_reducible show FsA _ _ _); (first | exact FsA.nil | (with_reducible refine' FsA.cons ?_ ?_) | walk_at "fit2")))
local macro_rules | `(tactic| walk_at "fit") => `(tactic| repeat' (walk_at "fit1"))
local macro_rules | `(tactic| walk_at "fitA") => `(tactic| first | assumption | exact Fs.fit (by walk_at "fit") (by exact Nat.le_of_ble_eq_true rfl) (by exact Nat.le_of_ble_eq_true rfl))
local macro_rules | `(tactic| walk_at "st_rv") => `(tactic| first
  | (with_reducible refine' RV.go rv_add ?_) | (with_reducible refine' RV.go rv_I0 ?_) | (with_reducible refine' RV.go rv_B0 ?_)
  | (with_reducible refine' RV.go rv_eqI ?_) | (with_reducible refine' RV.go rv_neI ?_) | (with_reducible refine' RV.go rv_eqB ?_) | (with_reducible refine' RV.go rv_neB ?_)
  | (with_reducible refine' RV.go rv_eqS ?_) | (with_reducible refine' RV.go rv_neS ?_)
  | (with_reducible refine' RV.go rv_isN ?_) | (with_reducible refine' RV.go rv_notN ?_) | (with_reducible refine' RV.go rv_notB ?_)
  | ((with_reducible refine' RV.go (rv_neNilL ?ff) ?_); (case' ff => try walk_at "fitA"))
  | ((with_reducible refine' RV.go (rv_eqNilL ?ff) ?_); (case' ff => try walk_at "fitA"))
  | ((with_reducible refine' RV.go (rv_neNilT ?ff) ?_); (case' ff => try walk_at "fitA"))
  | ((with_reducible refine' RV.go (rv_eqNilT ?ff) ?_); (case' ff => try walk_at "fitA"))
  | ((with_reducible refine' RV.go (rv_neSelf ?ff) ?_); (case' ff => try walk_at "fitA"))
  | ((with_reducible refine' RV.go (rv_eqSelf ?ff) ?_); (case' ff => try walk_at "fitA"))
  | (with_reducible refine' RV.go rv_x2 ?_)
  | ((with_reducible refine' RV.go (rv_xn ?aa ?bb) ?_); (case' aa => try omega); (case' bb => try omega))
  | (with_reducible refine' RV.go rv_inLI ?_) | (with_reducible refine' RV.go rv_ninLI ?_) | (with_reducible refine' RV.go rv_inTI ?_) | (with_reducible refine' RV.go rv_ninTI ?_)
  | ((with_reducible refine' RV.go (rv_mul ?aa) ?_); (case' aa => try walk_at "mu"))
  | ((with_reducible refine' RV.go (rv_addT ?aa) ?_); (case' aa => try walk_at "ar"))
  | ((with_reducible refine' RV.go (rv_addL ?aa) ?_); (case' aa => try walk_at "ar"))
  | ((with_reducible refine' RV.go (rv_addC ?bb ?aa) ?_); (case' aa => try walk_at "ar"); (case' bb => try walk_at "mem"))
  | ((with_reducible refine' RV.go (rv_mulL ?bb ?aa) ?_); (case' aa => try walk_at "ar"); (case' bb => try exact ⟨by decide, by decide⟩))
  | ((with_reducible refine' RV.go (rv_ixT ?aa) ?_); (case' aa => try walk_at "ix"))
  | ((with_reducible refine' RV.go (rv_ixL ?aa) ?_); (case' aa => try walk_at "ix"))
  | ((with_reducible refine' RV.go (rv_ixR ?aa) ?_); (case' aa => try walk_at "ix"))
  | ((with_reducible refine' RV.go (rv_ixC ?bb ?aa) ?_); (case' bb => try walk_at "mem"); (case' aa => try walk_at "ix"))
  | (with_reducible refine' RV.go rv_p6 ?_) | (with_reducible refine' RV.go rv_p12 ?_) | (with_reducible refine' RV.go rv_p14 ?_) | (with_reducible refine' RV.go rv_p18 ?_) | (with_reducible refine' RV.go rv_p19 ?_) | (with_reducible refine' RV.go rv_p20 ?_)
  | ((with_reducible refine' RV.go (rv_I ?aa) ?_); (case' aa => first | walk_at "cpow" | walk_at "cdiv" | walk_at "cmod" | skip)))
local macro_rules | `(tactic| walk_at "st_rc") => `(tactic| first
  | (with_reducible refine' RC.go w_lenTm ?_) | (with_reducible refine' RC.go w_lenLm ?_)
  | (with_reducible refine' RC.go rc_lenT ?_) | (with_reducible refine' RC.go rc_lenL ?_) | (with_reducible refine' RC.go rc_lenR ?_)
  | ((with_reducible refine' RC.go (rc_lenC ?aa) ?_); (case' aa => try walk_at "mem"))
  | (with_reducible refine' RC.go rc_listT ?_) | (with_reducible refine' RC.go rc_listL ?_)
  | (with_reducible refine' RC.go rc_int ?_) | (with_reducible refine' RC.go rc_abs ?_) | (with_reducible refine' RC.go rc_max2 ?_) | (with_reducible refine' RC.go rc_min2 ?_)
  | ((with_reducible refine' RC.go (rc_show ?ff) ?_); (case' ff => try walk_at "fitA"))
  | ((with_reducible refine' RC.go (rc_showU ?ff) ?_); (case' ff => try walk_at "fitA"))
  | (with_reducible refine' RC.go rc_tupL ?_) | ((with_reducible refine' RC.go (rc_tupC ?aa) ?_); (case' aa => try walk_at "mem"))
  | ((with_reducible refine' RC.go (rc_isiInt ?aa) ?_); (case' aa => first | rfl | assumption | skip)) | ((with_reducible refine' RC.go (rc_isiBool ?aa) ?_); (case' aa => first | rfl | assumption | skip))
  | ((with_reducible refine' RC.go (rc_isiTup ?aa) ?_); (case' aa => first | rfl | assumption | skip)) | ((with_reducible refine' RC.go (rc_isiStr ?aa) ?_); (case' aa => first | rfl | assumption | skip))
  | ((with_reducible refine' RC.go (rc_isiLst ?aa) ?_); (case' aa => first | rfl | assumption | skip))
  | ((with_reducible refine' RC.go (rc_divmod ?aa) ?_); (case' aa => try exact ⟨by omega, by omega⟩))
  | (with_reducible refine' RC.go rc_allM ?_) | (with_reducible refine' RC.go rc_anyM ?_) | (with_reducible refine' RC.go rc_sumL ?_) | (with_reducible refine' RC.go rc_allL ?_) | (with_reducible refine' RC.go rc_anyL ?_))
local macro_rules | `(tactic| walk_at "st_evr") => `(tactic| first
  | ((with_reducible refine' w_var ?aa ?_); (case aa => exact rfl))
  | (with_reducible refine' w_cI ?_) | (with_reducible refine' w_cN ?_) | (with_reducible refine' w_cB ?_) | (with_reducible refine' w_cS ?_) | (with_reducible refine' w_cT ?_) | (with_reducible refine' w_cR ?_)
  | (with_reducible refine' w_sortedSet ?_)
  | (with_reducible refine' evr_op ?_) | (with_reducible refine' evr_un ?_) | (with_reducible refine' evr_cb ?_) | (with_reducible refine' evr_tup ?_) | (with_reducible refine' evr_lst ?_)
  | (with_reducible refine' evr_if ?_) | (with_reducible refine' evr_andV ?_) | (with_reducible refine' evr_orV ?_) | (with_reducible refine' evr_notV ?_) | (with_reducible refine' evr_chain ?_)
  | (with_reducible refine' w_fld ?_) | ((with_reducible show EvR _ (tMeth _ _ _ _ _ _ _) _ _ _); refine' w_meth ?_) | (with_reducible refine' w_append ?_) | ((with_reducible show EvR _ (tCall _ _ _ _) _ _ _); refine' evr_call ?_) | ((with_reducible show EvR _ (tCallK _ _ _ _ _) _ _ _); refine' evr_callK ?_)
  | ((with_reducible refine' Ev.go (ev_slT ?aa ?bb ?cc) ?_); (case aa => walk_at "ev"); (case bb => walk_at "eo"); (case cc => walk_at "eo"))
  | ((with_reducible refine' Ev.go (ev_slL ?aa ?bb ?cc) ?_); (case aa => walk_at "ev"); (case bb => walk_at "eo"); (case cc => walk_at "eo"))
  | ((with_reducible refine' Ev.go (ev_slC ?dd ?aa ?bb ?cc) ?_); (case aa => walk_at "ev"); (case dd => walk_at "mem"); (case bb => walk_at "eo"); (case cc => walk_at "eo"))
  | ((with_reducible refine' Ev.go (ev_slR ?aa ?bb ?cc) ?_); (case aa => walk_at "ev"); (case bb => walk_at "eo"); (case cc => walk_at "eo")))
local macro_rules | `(tactic| walk_at "st_xs") => `(tactic| first
  | (with_reducible refine' xs_seq ?_) | (with_reducible refine' xs_asg ?_) | (with_reducible refine' xs_ret ?_) | (with_reducible refine' xs_retN ?_) | (with_reducible refine' xs_if ?_)
  | (with_reducible refine' xs_drop ?_) | (with_reducible refine' xs_next ?_) | (with_reducible refine' w_par ?_) | (with_reducible refine' w_par3 ?_)
  | ((with_reducible refine' w_aug ?aa ?_); (case aa => exact rfl)) | (with_reducible refine' w_putF ?_) | (with_reducible refine' xs_brk ?_) | (with_reducible refine' xs_cont ?_))
local macro_rules | `(tactic| walk_at "st_et") => `(tactic| first
  | (with_reducible refine' etr_test ?_) | (with_reducible refine' etr_B ?_) | (with_reducible refine' etr_and ?_) | (with_reducible refine' etr_or ?_) | (with_reducible refine' etr_not ?_) | (with_reducible refine' etr_yes ?_))
local macro_rules | `(tactic| walk_at "st_if") => `(tactic| first
  | (with_reducible refine' w_same ?_) | (with_reducible refine' w_sameT ?_) | (with_reducible refine' w_not ?_)
  | ((with_reducible refine' w_T ?aa ?_); (case aa => with_reducible rfl)) | ((with_reducible refine' w_F ?aa ?_); (case aa => with_reducible rfl))
  | ((with_reducible refine' w_decT ?aa ?_); (case aa => omega)) | ((with_reducible refine' w_decF ?aa ?_); (case aa => omega))
  | ((with_reducible refine' w_T ?aa ?_); (case aa => exact rfl)) | ((with_reducible refine' w_F ?aa ?_); (case aa => exact rfl))
  | (with_reducible refine' w_dec (fun hh => ?_) (fun hh => ?_))
  | (with_reducible refine' w_bool (fun hh => ?_) (fun hh => ?_)))
local macro_rules | `(tactic| walk_at "st") => `(tactic| first
  | ((with_reducible show EvR _ _ _ _ _); walk_at "st_evr")
  | ((with_reducible show EvAR _ _ _ _ _); (first | (with_reducible refine' ear_nil ?_) | (with_reducible refine' ear_cons ?_)))
  | ((with_reducible show RVR _ _ _ _ _ _); walk_at "st_rv")
  | ((with_reducible show RCR _ _ _ _ _); walk_at "st_rc")
  | ((with_reducible show RUR _ _ _ _ _); with_reducible refine' w_neg ?_)
  | ((with_reducible show XS _ _ _ _ _); walk_at "st_xs")
  | ((with_reducible show EvTR _ _ _ _ _); walk_at "st_et")
  | ((with_reducible show BdG _ _ _ _ _ _); (first | (with_reducible refine' bd_name ?_) | ((with_reducible refine' bd_tup ?_ ?aa); (case aa => exact rfl))))
  | ((with_reducible show BdGs _ _ _ _ _ _); (first | (with_reducible refine' bds_nil ?_) | (with_reducible refine' bds_cons ?_)))
  | ((with_reducible show FldR _ _ _ _ _); (first | ((with_reducible refine' FldR.ins ?aa ?bb ?cc ?_); (case aa => walk_at "cl"); (case bb => walk_at "na"); (case cc => walk_at "fl")) | ((with_reducible refine' FldR.own ?dd ?aa ?bb ?cc ?_); (case dd => walk_at "mem"); (case aa => walk_at "cl"); (case bb => walk_at "na"); (case cc => exact rfl))))
  | ((with_reducible show PutR _ _ _ _ _ _); (first | ((with_reducible refine' PutR.at 0 ?aa ?bb ?cc ?dd ?_); (case aa => exact rfl); (case bb => walk_at "cl"); (case cc => walk_at "na"); (case dd => exact Nat.le_of_ble_eq_true rfl)) | ((with_reducible refine' PutR.at 1 ?aa ?bb ?cc ?dd ?_); (case aa => exact rfl); (case bb => walk_at "cl"); (case cc => walk_at "na"); (case dd => exact Nat.le_of_ble_eq_true rfl))))
  | ((with_reducible show MethR _ _ _ _ _ _ _ _ _); (first | ((with_reducible refine' MethR.ins ?aa ?_); (case aa => exact rfl)) | ((with_reducible refine' MethR.own ?bb ?aa ?_); (case bb => walk_at "mem"); (case aa => exact rfl))))
  | ((with_reducible show AppR _ _ _ _ _ _); (first | ((with_reducible refine' AppR.at 0 ?aa ?bb ?_); (case aa => exact rfl); (case' bb => try walk_at "ar")) | ((with_reducible refine' AppR.at 1 ?aa ?bb ?_); (case aa => exact rfl); (case' bb => try walk_at "ar")) | ((with_reducible refine' AppR.at 2 ?aa ?bb ?_); (case aa => exact rfl); (case' bb => try walk_at "ar")) | ((with_reducible refine' AppR.at 3 ?aa ?bb ?_); (case aa => exact rfl); (case' bb => try walk_at "ar"))))
  | ((with_reducible refine' AppR.fin ?aa ?_); (case aa => exact rfl))
  | (with_reducible refine' w_bl ?_) | (with_reducible refine' w_int ?_) | (with_reducible refine' w_2 ?_) | (with_reducible refine' w_3 ?_)
  | ((with_reducible refine' w_le ?aa ?_); (case aa => exact rfl))
  | ((with_reducible show ite _ _ _); walk_at "st_if")
  | (walk_at "spc"))
local macro_rules | `(tactic| walk_at "go") => `(tactic| repeat' (walk_at "st"))

/-! ### numbers -/
def betw : DV → Int → Int → Bool
  | .int i, lo, hi => decide (lo ≤ i) && decide (i ≤ hi)
  | _, _, _ => false
def S_is_between : SpecD := fun ds M R => ∃ (v : DV) (lo hi : Int), ds = [v, .int lo, .int hi] ∧ (tyN v).isSome = true ∧ R (.bl (betw v lo hi)) M
theorem ok_is_between (T : Tx K mg A) : FnOk P w K mg base CX0 1 A.f_is_between A.d_is_between ["value", "low", "high"] (spD K S_is_between) := by
  refine fnD T.F_is_between sc_is_between (fun ds M R h => by obtain ⟨v, lo, hi, rfl, _⟩ := h; rfl) fun cdv B up z H E hr ds M R h => ?_
  obtain ⟨v, lo, hi, rfl, hv, hR⟩ := h
  refine ⟨_, (pss_one (ps_ret (pe_and (pe_callB (wIsi K rfl) (by rfl) T.n_isinstance (by decide +kernel) (pa_cons (pv 0) (pa_cons (pe_bltn (v := .ty "int") (by rfl) T.n_int (by decide +kernel) rfl) pa_nil))) (pe_and (pe_not (pe_callB (wIsi K rfl) (by rfl) T.n_isinstance (by decide +kernel) (pa_cons (pv 0) (pa_cons (pe_bltn (v := .ty "bool") (by rfl) T.n_bool (by decide +kernel) rfl) pa_nil)))) (pe_one (pe_chain op_le op_le (pv 1) (pv 0) (pv 2))))))), ?_⟩
  have h1 : Ev K (tCB (rIsi K) (tCons (tVar 0) (tCons (tC (.ty "int")) tNil))) (rho0 ["value", "low", "high"] [v, .int lo, .int hi]) M (.bl (isIntD v)) := by walk_at "ev"
  have h2 : Ev K (tNotV (tCB (rIsi K) (tCons (tVar 0) (tCons (tC (.ty "bool")) tNil)))) (rho0 ["value", "low", "high"] [v, .int lo, .int hi]) M (.bl (!isBoolD v)) := by walk_at "ev"
  cases v with
  | int i => exact xs_retE (ev_andTr h1 (ev_andTr h2 (ev_chain (ev_var rfl) (ev_var rfl) rv_B0 (fun _ => ev_var rfl) (fun _ => rv_B0)))) hR
  | bl b => exact xs_retE (ev_andTr h1 (ev_andF h2)) hR
  | _ => first | exact xs_retE (ev_andF h1) hR | cases hv
theorem sp_is_between {v : DV} {lo hi : Int} {M : Ms} (h : (tyN v).isSome = true) : S_is_between [v, .int lo, .int hi] M fun d' M' => d' = .bl (betw v lo hi) ∧ M' = M := ⟨v, lo, hi, rfl, h, rfl, rfl⟩
local macro_rules | `(tactic| walk_at "sp") => `(tactic| exact sp_is_between (by walk_at "lk"))
/-- where the first number stands that is none from 0 to hi -/
def optD : Option Nat → DV
  | none => .non
  | some i => .int i
def wrongIx (xs : List DV) (hi : Int) : Option Nat := xs.findIdx? fun d => !betw d 0 hi
theorem nth_mem {xs : List DV} {i : Nat} (h : i < xs.length) : nth xs i ∈ xs := List.mem_of_getElem? (nth_get h)
theorem findIdx_some {xs : List DV} {p : DV → Bool} {i : Nat} (hi : i < xs.length) (h0 : ∀ j, j < i → p (nth xs j) = false) (h1 : p (nth xs i) = true) : xs.findIdx? p = some i := by
  rw [List.findIdx?_eq_some_iff_getElem]
  refine ⟨hi, ?_, fun j hj => ?_⟩
  · have := nth_get hi
    rw [List.getElem?_eq_getElem hi] at this
    rw [Option.some.inj this]; exact h1
  · have hl : j < xs.length := by omega
    have := nth_get hl
    rw [List.getElem?_eq_getElem hl] at this
    rw [Option.some.inj this, h0 j hj]; decide
theorem findIdx_none {xs : List DV} {p : DV → Bool} (h0 : ∀ j, j < xs.length → p (nth xs j) = false) : xs.findIdx? p = none := by
  rw [List.findIdx?_eq_none_iff]
  intro x hx
  obtain ⟨j, hj, e⟩ := List.mem_iff_getElem.mp hx
  have := nth_get hj
  rw [List.getElem?_eq_getElem hj, e] at this
  rw [Option.some.inj this]; exact h0 j hj
def S_wrong_number : SpecD := fun ds M R => ∃ (xs : List DV) (hi : Int), ds = [.tup xs, .int hi] ∧ (∀ x ∈ xs, (tyN x).isSome = true) ∧ R (optD (wrongIx xs hi)) M
theorem sp_wrong_number {xs : List DV} {hi : Int} {M : Ms} (h : ∀ x ∈ xs, (tyN x).isSome = true) : S_wrong_number [.tup xs, .int hi] M fun d' M' => d' = optD (wrongIx xs hi) ∧ M' = M := ⟨xs, hi, rfl, h, rfl, rfl⟩
theorem ints_ty {ns : List Int} : ∀ x ∈ ns.map DV.int, (tyN x).isSome = true := fun x hx => by
  obtain ⟨n, _, rfl⟩ := List.mem_map.mp hx; rfl
theorem wrongIx_ints {ns : List Int} {hi : Int} (h : ∀ n ∈ ns, 0 ≤ n ∧ n ≤ hi) : wrongIx (ns.map DV.int) hi = none := by
  unfold wrongIx
  rw [List.findIdx?_eq_none_iff]
  intro x hx
  obtain ⟨n, hn, rfl⟩ := List.mem_map.mp hx
  have := h n hn
  simp [betw, this.1, this.2]
/-- an amount that is let -/
def S_check_amount : SpecD := fun ds M R => ∃ (i hi : Int), ds = [.int i, .int hi] ∧ 0 ≤ i ∧ i ≤ hi ∧ R .non M
theorem sp_check_amount {i hi : Int} {M : Ms} (h0 : 0 ≤ i) (h1 : i ≤ hi) : S_check_amount [.int i, .int hi] M fun d' M' => d' = .non ∧ M' = M := ⟨i, hi, rfl, h0, h1, rfl, rfl⟩

theorem w_betwT {M : Ms} {R : DV → Ms → Prop} {i lo hi : Int} (h : lo ≤ i ∧ i ≤ hi) (k : R (.bl true) M) : S_is_between [.int i, .int lo, .int hi] M R := ⟨.int i, lo, hi, rfl, rfl, by show R (.bl (decide (lo ≤ i) && decide (i ≤ hi))) M; rw [decide_eq_true h.1, decide_eq_true h.2]; exact k⟩
theorem w_betwF {M : Ms} {R : DV → Ms → Prop} {i lo hi : Int} (h : ¬ (lo ≤ i ∧ i ≤ hi)) (k : R (.bl false) M) : S_is_between [.int i, .int lo, .int hi] M R := ⟨.int i, lo, hi, rfl, rfl, by
  show R (.bl (decide (lo ≤ i) && decide (i ≤ hi))) M
  rw [show (decide (lo ≤ i) && decide (i ≤ hi)) = false by
    rw [← Bool.decide_and]; exact decide_eq_false h]
  exact k⟩
theorem w_betw {M : Ms} {R : DV → Ms → Prop} {v : DV} {lo hi : Int} (h : (tyN v).isSome = true) (k : R (.bl (betw v lo hi)) M) : S_is_between [v, .int lo, .int hi] M R := ⟨v, lo, hi, rfl, h, k⟩
theorem w_amount {M : Ms} {R : DV → Ms → Prop} {i hi : Int} (h : 0 ≤ i ∧ i ≤ hi) (k : R .non M) : S_check_amount [.int i, .int hi] M R := ⟨i, hi, rfl, h.1, h.2, k⟩
local macro_rules | `(tactic| walk_at "spc") => `(tactic| first
  | ((with_reducible refine' w_betwT ?aa ?_); (case aa => omega)) | ((with_reducible refine' w_betwF ?aa ?_); (case aa => omega)) | ((with_reducible refine' w_betw ?aa ?_); (case aa => first | rfl | assumption))
  | ((with_reducible refine' w_amount ?aa ?_); (case' aa => try omega)))

/-! ### ints by their place -/
theorem getD_get {vs : List Int} {n : Nat} (h : n < vs.length) : vs[n]? = some (vs.getD n 0) := by
  rw [List.getD_eq_getElem?_getD, List.getElem?_eq_getElem h]; rfl
theorem atI_ints {vs : List Int} {x : Int} (h0 : 0 ≤ x) (h1 : x < vs.length) : atI (vs.map DV.int) x = some (.int (vs.getD x.toNat 0)) := by
  have e : atI (vs.map DV.int) ((x.toNat : Nat) : Int) = some (.int (vs.getD x.toNat 0)) := atI_nat (by rw [List.getElem?_map, getD_get (show x.toNat < vs.length by omega)]; rfl)
  rw [show ((x.toNat : Nat) : Int) = x by omega] at e
  exact e

/-! ### the law's jug -/
def JugOk (ds : List DV) : Prop := ∃ a b c : Int, ds = [.int a, .int b, .int c] ∧ 0 ≤ b ∧ 0 ≤ c
abbrev jugO : MO := .lstP JugOk
theorem mem_ix {α : Type} {l : List α} {x : α} (h : x ∈ l) : ∃ i : Nat, l[i]? = some x := List.mem_iff_getElem?.mp h
theorem set_get {i : Nat} {M : Ms} {c x : Addr × MO} (h : M[i]? = some c) : (M.set i x)[i]? = some x := List.getElem?_set_self (List.getElem?_eq_some_iff.mp h).1
theorem set_back {i : Nat} {M : Ms} {c x : Addr × MO} (h : M[i]? = some c) : (M.set i x).set i c = M := by
  rw [List.set_set]
  refine List.ext_getElem? fun j => ?_
  rw [List.getElem?_set]
  split
  · rename_i e; subst e; rw [if_pos (List.getElem?_eq_some_iff.mp h).1, h]
  · rfl
/-- many, from 1 on: a number below many -/
def S_pour : SpecD := fun ds M R => ∃ (j : Addr) (n : Int), ds = [.raw (.ref j), .int n] ∧ (j, jugO) ∈ M ∧ 0 < n ∧ n < 1073741824 ∧ ∀ r : Int, 0 ≤ r → r < n → R (.int r) M
theorem ok__law_pour (T : Tx K mg A) : FnOk P w K mg base CX0 1 A.f__law_pour A.d__law_pour ["jug", "many"] (spD K S_pour) := by
  refine fnD T.F__law_pour sc__law_pour (fun ds M R h => by obtain ⟨j, n, rfl, _⟩ := h; rfl) fun cdv B up z H E hr ds M R h => ?_
  obtain ⟨j, n, rfl, hm, h0, h1, hR⟩ := h
  obtain ⟨i, hi⟩ := mem_ix hm
  refine ⟨_, (pss_cons (ps_asg (pe_op (wAdd K rfl) (pe_ix (wIx K rfl) (pv 0) pe_int (fun _ _ => rfl)) pe_int) (pg_sub (pv 0) pe_int set_list)) (pss_cons (ps_if (pt_cmpR op_gt (pe_ix (wIx K rfl) (pv 0) pe_int (fun _ _ => rfl)) pe_int (nomark _)) (pss_cons (ps_asg (pe_callB wDivmod (by rfl) T.n_divmod (by decide +kernel) (pa_cons (pe_callTy wInt (by rfl) T.n_int (by decide +kernel) (pa_cons (pe_ix (wIx K rfl) (pv 0) pe_int (fun _ _ => rfl)) pa_nil)) (pa_cons (pv 1) pa_nil))) (wTupG K rfl (pg_tup rfl (pgs_cons (pg_sub (pv 0) pe_int set_list) (pgs_cons (pg_name (i := 2) sc__law_pour.nd rfl (.inl rfl)) pgs_nil))))) (pss_one (ps_ret (pv 2)))) pss_nil) (pss_cons (ps_asg (pe_op op_mod (pe_callTy wInt (by rfl) T.n_int (by decide +kernel) (pa_cons (pe_op (wAdd K rfl) (pe_op (wAdd K rfl) (pe_op (wMul K rfl) (pe_ix (wIx K rfl) (pv 0) pe_int (fun _ _ => rfl)) pe_int) (pe_op (wMul K rfl) (pe_ix (wIx K rfl) (pv 0) pe_int (fun _ _ => rfl)) pe_int)) (pe_op (wMul K rfl) (pe_op op_fdiv (pe_ix (wIx K rfl) (pv 0) pe_int (fun _ _ => rfl)) pe_int) pe_int)) pa_nil)) pe_int) (pg_sub (pv 0) pe_int set_list)) (pss_one (ps_ret (pe_op op_mod (pe_callTy wInt (by rfl) T.n_int (by decide +kernel) (pa_cons (pe_op op_fdiv (pe_ix (wIx K rfl) (pv 0) pe_int (fun _ _ => rfl)) pe_int) pa_nil)) (pv 1))))))), ?_⟩
  refine xs_op hi fun ds hp => ?_
  obtain ⟨a, b, c, rfl, hb, hc⟩ := hp
  have hg : ∀ o, (M.set i (j, o))[i]? = some (j, o) := fun o => set_get hi
  have hmm : ∀ o, (j, o) ∈ M.set i (j, o) := fun o => List.mem_of_getElem? (hg o)
  have fin : ∀ (r : Int) (ds : List DV), JugOk ds → 0 ≤ r → r < n → ∃ ds', (M.set i (j, MO.lst ds))[i]? = some (j, MO.lst ds') ∧ JugOk ds' ∧ R (.int r) ((M.set i (j, MO.lst ds)).set i (j, jugO)) := fun r ds hd r0 r1 => ⟨ds, hg _, hd, by rw [set_back hi]; exact hR r r0 r1⟩
  -- jug[0] = jug[0] + 2
  refine xs_seq (xs_asg ((ev_op (ev_op (ev_var rfl) ev_cI (rv_ixC (ds := [.int a, .int b, .int c]) (hmm _) rfl)) ev_cI rv_add).go (bd_subL (i := i) (a := j) (xs := [.int a, .int b, .int c]) (Ev.go (ev_var rfl) ⟨rfl, Ev.go ev_cI ⟨0, 0, rfl, hg _, rfl, ?_⟩⟩))))
  rw [List.set_set]
  show XS K _ _ (M.set i (j, MO.lst [.int (a + 2), .int b, .int c])) _
  have rd : ∀ k : Int, ∀ d, atI [DV.int (a + 2), .int b, .int c] k = some d → ∀ {ρ : Rho}, ρ[0]? = some (some (.raw (.ref j))) → Ev K (tOp (rIx K) (tVar 0) (tC (.int k))) ρ (M.set i (j, MO.lst [.int (a + 2), .int b, .int c])) d := fun k d h ρ hρ => ev_op (ev_var hρ) ev_cI (rv_ixC (hmm _) h)
  refine xs_whenE (et_test (ev_op (rd 1 (.int b) rfl rfl) ev_cI rv_B0)) (fun hb' => ?_) fun _ => ?_
  · -- jug[1], digit = divmod(..); return digit
    refine xs_seq (xs_asg ((ev_cb (ea_cons (ev_cb (ea_cons (rd 1 (.int b) rfl rfl) ea_nil) rc_int) (ea_cons (ev_var rfl) ea_nil)) (rc_divmod ⟨h0, h1⟩)).go (bd_tup (bds_cons (bd_subL (i := i) (a := j) (xs := [.int (a + 2), .int b, .int c]) (Ev.go (ev_var rfl) ⟨rfl, Ev.go ev_cI ⟨1, 1, rfl, hg _, rfl, bds_nm (bds_nil ?_)⟩⟩))) rfl)))
    rw [List.set_set]
    refine xs_ret (evr_cl (i := i) (a := j) (p := JugOk) (Ev.go (ev_var rfl) (fin _ _ ⟨_, _, _, rfl, ?_, hc⟩ ?_ ?_)))
    · exact Int.ediv_nonneg hb (by omega)
    · exact Int.emod_nonneg b (by omega)
    · exact Int.emod_lt_of_pos b h0
  · -- jug[2] = ..
    refine xs_seq (xs_asg (Ev.go (ev_op (ev_cb (ea_cons (ev_op (ev_op (ev_op (rd 2 (.int c) rfl rfl) ev_cI (rv_mul (.inr (by decide)))) (ev_op (rd 0 (.int (a + 2)) rfl rfl) ev_cI (rv_mul (.inr (by decide)))) rv_add) (ev_op (ev_op (rd 2 (.int c) rfl rfl) ev_cI (rv_I (by show CDiv _ _; exact ⟨by decide, by decide⟩))) ev_cI (rv_mul (.inr (by decide)))) rv_add) ea_nil) rc_int) ev_cI (rv_I (by decide)))
      (bd_subL (i := i) (a := j) (xs := [.int (a + 2), .int b, .int c]) (Ev.go (ev_var rfl) ⟨rfl, Ev.go ev_cI ⟨2, 2, rfl, hg _, rfl, ?_⟩⟩))))
    rw [List.set_set]
    generalize hc' : (c * 48029 + (a + 2) * 70003 + c / 9001 * 61) % 1999999529 = c'
    have hc0 : 0 ≤ c' := by rw [← hc']; exact Int.emod_nonneg _ (by decide)
    show XS K _ _ (M.set i (j, MO.lst [.int (a + 2), .int b, .int c'])) _
    refine xs_ret (evr_cl (i := i) (a := j) (p := JugOk) (Ev.go (ev_op (ev_cb (ea_cons (ev_op (ev_op (ev_var rfl) ev_cI (rv_ixC (hmm _) rfl)) ev_cI (rv_I (by show CDiv _ _; exact ⟨by decide, by decide⟩))) ea_nil) rc_int) (ev_var rfl) (rv_I h0)) (fin _ _ ⟨_, _, _, rfl, hb, hc0⟩ ?_ ?_)))
    · exact Int.emod_nonneg _ (by omega)
    · exact Int.emod_lt_of_pos _ h0
section
variable {ρ : Rho} {M : Ms} {i : Nat} {j : Addr} {te : TE} {R : DV → Ms → Prop}
theorem evr_pour {n : Int} (hj : ρ[i]? = some (some (.raw (.ref j)))) (hm : (j, jugO) ∈ M) (he : Ev K te ρ M (.int n)) (h0 : 0 < n) (h1 : n < 1073741824) (k : ∀ r : Int, 0 ≤ r → r < n → R (.int r) M) : EvR K (tCall (spD K S_pour) [] E0 (tCons (tVar i) (tCons te tNil))) ρ M R :=
  evr_call ((ea_cons (ev_var hj) (ea_cons he ea_nil)).go ⟨j, n, rfl, hm, h0, h1, k⟩)
/-- any one of the things -/
def S_one : SpecD := fun ds M R => ∃ (j : Addr) (xs : List DV), ds = [.raw (.ref j), .lst xs] ∧ (j, jugO) ∈ M ∧ 0 < xs.length ∧ xs.length < 1000 ∧ ∀ d, d ∈ xs → R d M
theorem ok__law_one (T : Tx K mg A) : FnOk P w K mg base CX0 2 A.f__law_one A.d__law_one ["jug", "things"] (spD K S_one) := by
  refine fnD T.F__law_one sc__law_one (fun ds M R h => by obtain ⟨j, xs, rfl, _⟩ := h; rfl) fun cdv B up z H E hr ds M R h => ?_
  obtain ⟨j, xs, rfl, hm, h0, h1, hR⟩ := h
  refine ⟨_, (pss_one (ps_ret (pe_ix (wIx K rfl) (pv 1) (pe_call (ok__law_pour T) (hr.mono (by decide)) (by rfl) T.g__law_pour T.F__law_pour.kp (b__law_pour T) .nil pass0 (pa_cons (pv 0) (pa_cons (pe_callB (wLen K rfl) (by rfl) T.n_len PySem.boot_len (pa_cons (pv 1) pa_nil)) pa_nil))) (fun _ _ => rfl)))), ?_⟩
  refine xs_ret (evr_op (Ev.go (ev_var rfl) (evr_pour rfl hm (n := xs.length) (by walk_at "ev") (by omega) (by omega) fun r r0 r1 => ?_)))
  obtain ⟨d, hd⟩ : ∃ d, xs[r.toNat]? = some d := ⟨_, List.getElem?_eq_getElem (show r.toNat < xs.length by omega)⟩
  have e : atI xs ((r.toNat : Nat) : Int) = some d := atI_nat hd
  rw [show ((r.toNat : Nat) : Int) = r by omega] at e
  exact (rv_ixL e).go (hR d (List.mem_of_getElem? hd))
theorem evr_one {xs : List DV} (hj : ρ[i]? = some (some (.raw (.ref j)))) (hm : (j, jugO) ∈ M) (he : Ev K te ρ M (.lst xs)) (h0 : 0 < xs.length) (h1 : xs.length < 1000) (k : ∀ d, d ∈ xs → R d M) : EvR K (tCall (spD K S_one) [] E0 (tCons (tVar i) (tCons te tNil))) ρ M R :=
  evr_call ((ea_cons (ev_var hj) (ea_cons he ea_nil)).go ⟨j, xs, rfl, hm, h0, h1, k⟩)
end
/-- a new jug -/
def S_jug : SpecD := fun ds M R => ∃ (ns : List Int) (k : Int), ds = [.rd (ns.map .int), .int k] ∧ 0 ≤ k ∧ ns.length ≤ 63 ∧ ∀ p : Addr, R (.raw (.ref p)) ((p, jugO) :: M)
theorem cut_ints {ns : List Int} {lo hi : Option Int} : ∃ ms : List Int, cutL (ns.map DV.int) lo hi = ms.map .int := by
  unfold cutL
  rw [← List.map_drop, ← List.map_take]
  exact ⟨_, rfl⟩
theorem ok__law_jug (T : Tx K mg A) : FnOk P w K mg base CX0 1 A.f__law_jug A.d__law_jug ["script", "k"] (spD K S_jug) := by
  refine fnD T.F__law_jug sc__law_jug (fun ds M R h => by obtain ⟨ns, k, rfl, _⟩ := h; rfl) fun cdv B up z H E hr ds M R h => ?_
  obtain ⟨ns, k, rfl, h0, h1, hR⟩ := h
  refine ⟨_, (pss_cons (ps_set (i := 2) sc__law_jug.nd rfl (.inl rfl) (pe_ifExp (pt_cmpR op_lt (pv 1) (pe_callB (wLen K rfl) (by rfl) T.n_len PySem.boot_len (pa_cons (pv 0) pa_nil)) (nomark _)) (pe_callTy wInt (by rfl) T.n_int (by decide +kernel) (pa_cons (pe_ix (wIx K rfl) (pv 0) (pv 1) (fun _ _ => rfl)) pa_nil)) (pe_op (wAdd K rfl) (pe_op (wMul K rfl) pe_int (pv 1)) pe_int))) (pss_cons (ps_set (i := 3) sc__law_jug.nd rfl (.inl rfl) (pe_op (wAdd K rfl) pe_int (pe_op (wMul K rfl) pe_int (pv 1)))) (pss_cons (ps_for PassesOwn.never rfl (wList K rfl (pe_slice (wSl K rfl) (pv 0) po_none (po_some pe_int))) (pg_name (i := 4) sc__law_jug.nd rfl (.inl rfl)) (pss_one (ps_set (i := 3) sc__law_jug.nd rfl (.inl rfl) (pe_op op_mod (pe_callTy wInt (by rfl) T.n_int (by decide +kernel) (pa_cons (pe_op (wAdd K rfl) (pe_op (wMul K rfl) (pv 3) pe_int) (pe_op op_mod (pe_callTy wInt (by rfl) T.n_int (by decide +kernel) (pa_cons (pv 4) pa_nil)) pe_int)) pa_nil)) pe_int)))) (pss_one (ps_ret (pe_lst (pa_cons pe_int (pa_cons (pe_ifExp (PW.pt (pw_or (pt_cmpR op_lt (pv 2) pe_int (nomark _)) (pw_or1 (pt_cmpR op_ge (pv 2) (pe_op op_pow pe_int pe_int) (nomark _))))) (pe_callB wAbs (by rfl) T.n_abs (by decide +kernel) (pa_cons (pv 2) pa_nil)) pe_int) (pa_cons (pe_op op_mod (pe_callTy wInt (by rfl) T.n_int (by decide +kernel) (pa_cons (pe_op (wAdd K rfl) (pe_op (wMul K rfl) (pv 3) pe_int) (pe_op op_mod (pv 2) pe_int)) pa_nil)) pe_int) pa_nil))))))))), ?_⟩
  refine xs_cut (fun ρ' M' => M' = M ∧ ∃ o : Int, ρ' = [some (.rd (ns.map .int)), some (.int k), some (.int o), none, none]) (xs_asg (evr_if (EvT.go (et_test (ev_op (ev_var rfl) (by walk_at "ev") rv_B0)) ?_))) fun ρ' M' h => ?_
  · split
    · rename_i hb
      have hk : k < ns.length := by have := of_decide_eq_true hb; rw [List.length_map] at this; exact this
      exact Ev.go (ev_cb (ea_cons (ev_op (ev_var rfl) (ev_var rfl) (rv_ixR (atI_ints h0 hk))) ea_nil) rc_int) (bd_name ⟨rfl, _, rfl⟩)
    · exact Ev.go (by walk_at "ev") (bd_name ⟨rfl, _, rfl⟩)
  obtain ⟨rfl, o, rfl⟩ := h
  refine xs_setE (by walk_at "ev") ?_
  obtain ⟨ms, hms⟩ := cut_ints (ns := ns) (lo := none) (hi := some 15)
  refine xs_seq (xs_for (ei_lst (ds := ms.map .int) (RM := fun M'' => M'' = M') (Ev.go (Ev.is (by walk_at "ev") (congrArg DV.lst hms)) ⟨rfl, rfl⟩)) (fun i ρ M'' => M'' = M' ∧ ∃ (m : Int) (e : Option DV), ρ = [some (.rd (ns.map .int)), some (.int k), some (.int o), some (.int m), e])
    (fun M'' e => ⟨e, _, none, rfl⟩) (fun _ _ _ _ _ c hc => nomatch hc) (fun i ρ M'' hlt hinv => ?_) fun ρ M'' hinv => ?_)
  · obtain ⟨rfl, m, e, rfl⟩ := hinv
    obtain ⟨v, hv⟩ : ∃ v, nth (ms.map DV.int) i = .int v := by
      rw [List.length_map] at hlt
      exact ⟨_, nth_of (by rw [List.getElem?_map, List.getElem?_eq_getElem hlt]; rfl)⟩
    rw [hv]
    refine bd_name (xs_set (by walk_at "ev") ⟨rfl, _, _, rfl⟩)
  · obtain ⟨rfl, m, e, rfl⟩ := hinv
    have hor : ∀ {ρ : Rho}, ρ[2]? = some (some (.int o)) → ∃ b : Bool, EvT K (tOr (tTest (tOp (rI0 fun i j => .bl (decide (i < j))) (tVar 2) (tC (.int 0)))) (tTest (tOp (rI0 fun i j => .bl (decide (j ≤ i))) (tVar 2) (tOp (rI CPow fun i j => .int (i ^ j.toNat)) (tC (.int 10)) (tC (.int 14)))))) ρ M'' b := fun {ρ} h2 =>
      ⟨_, et_or (et_test (ev_op (ev_var h2) ev_cI rv_B0)) fun _ => et_test (ev_op (ev_var h2) (ev_op ev_cI ev_cI (rv_I (by show CPow 10 14; exact ⟨by decide, by decide, by decide⟩))) rv_B0)⟩
    obtain ⟨b, hb⟩ := hor (ρ := [some (.rd (ns.map .int)), some (.int k), some (.int o), some (.int m), e]) rfl
    refine xs_ret (evr_clN (p := JugOk) (evr_lstC (ear_cons (Ev.go ev_cI (ear_cons (evr_if (hb.go ?_)))))))
    have last : ∀ c : Int, 0 ≤ c → EvAR K (tCons (tOp (rI (fun _ j => 0 < j) fun i j => .int (i % j)) (tCB rInt1 (tCons (tOp (rAddU K) (tOp (rMulU K) (tVar 3) (tC (.int 41))) (tOp (rI (fun _ j => 0 < j) fun i j => .int (i % j)) (tVar 2) (tC (.int 1999999529)))) tNil)) (tC (.int 1999999529))) tNil) [some (.rd (ns.map .int)), some (.int k), some (.int o), some (.int m), e] M'' fun ds M2 => (DV.int 3 :: DV.int c :: ds).length ≤ 100000 ∧ ∀ p : Addr, ∃ (a : Addr) (ds' : List DV) (M3 : Ms), ((p, MO.lst (DV.int 3 :: DV.int c :: ds)) :: M2) = (a, .lst ds') :: M3 ∧ JugOk ds' ∧ R (.raw (.ref p)) ((a, jugO) :: M3) := fun c hc =>
      EvA.go (by walk_at "ea") ⟨by simp, fun p => ⟨p, _, _, rfl, ⟨_, _, _, rfl, hc, Int.emod_nonneg _ (by decide)⟩, hR p⟩⟩
    split
    · exact Ev.go (ev_cb (ea_cons (ev_var rfl) ea_nil) rc_abs) (last _ (by split <;> omega))
    · exact Ev.go ev_cI (last _ (by omega))

theorem w_pour {M : Ms} {R : DV → Ms → Prop} {j : Addr} {n : Int} (hm : (j, jugO) ∈ M) (h0 : 0 < n) (h1 : n < 1073741824) (k : ∀ r : Int, 0 ≤ r → r < n → R (.int r) M) : S_pour [.raw (.ref j), .int n] M R := ⟨j, n, rfl, hm, h0, h1, k⟩
theorem w_one {M : Ms} {R : DV → Ms → Prop} {j : Addr} {xs : List DV} (hm : (j, jugO) ∈ M) (h0 : 0 < xs.length) (h1 : xs.length < 1000) (k : ∀ d, d ∈ xs → R d M) : S_one [.raw (.ref j), .lst xs] M R := ⟨j, xs, rfl, hm, h0, h1, k⟩

/-! ### owned ones are let go at the return -/
theorem Wd.dropL {K : PySem.W.Frag} {F H : Hp} {N M2 : Ms} : ∀ (C : Ms), Wd K F (N ++ (C ++ M2)) H → Wd K F (N ++ M2) H
  | [], w => w
  | c :: C, w => Wd.dropL C (w.perm (List.perm_middle.symm)).drop
theorem xs_out {K : PySem.W.Frag} {ρ : Rho} {M : Ms} {t : TS} {P : Post} (h : XS K t ρ M { P with rt := fun d M' => ∃ C M2, M' = C ++ M2 ∧ P.rt d M2 }) : XS K t ρ M P := fun N F σ H D S e => h N F σ H D S ⟨e.nx, fun v F' H' d M' e1 ⟨C, M2, hm, hr⟩ w r => by
  subst hm
  exact e.rt v F' H' d M2 e1 hr (Wd.dropL C w) r, e.bk, e.ct⟩
/-- an owned list that is returned stays from then on -/
theorem xs_outL {K : PySem.W.Frag} {ρ : Rho} {M : Ms} {t : TS} {P : Post} (h : XS K t ρ M { P with rt := fun d M' => ∃ a ds C M2, d = .raw (.ref a) ∧ M' = (a, MO.lst ds) :: (C ++ M2) ∧ P.rt (.lst ds) M2 }) : XS K t ρ M P := fun N F σ H D S e => h N F σ H D S ⟨e.nx, fun v F' H' d M' e1 ⟨a, ds, C, M2, hd, hm, hr⟩ w r => by
  subst hd hm
  cases r.raw_of
  obtain ⟨F2, e2, w2, r2⟩ := (w.perm (List.perm_middle.symm)).freeze
  exact e.rt _ F2 H' _ M2 (e1.trans e2) hr (Wd.dropL C w2) r2, e.bk, e.ct⟩
/-! loops in which owned ones change; x = [] is owned -/
section
variable {K : PySem.W.Frag} {ρ : Rho} {M : Ms} {te : TE} {ta : TA} {t : TS} {P : Post} {k : Nat}
theorem w_asgNil {i : Nat} (h : ∀ a, P.nx (ρ.set i (some (.raw (.ref a)))) ((a, .lst []) :: M)) : XS K (tAsg (tLst tNil) (gName i)) ρ M P := xs_asg (evr_lstC (ear_nil ⟨by decide, fun a => bd_name (h a)⟩))
theorem w_for1M (n : Nat) (hn : n ≤ 1000000) (hI : EvAR K ta ρ M fun ds M' => ds = [.int n] ∧ M' = M) (inv : Nat → Rho → Ms → Prop) (h0 : inv 0 ρ M)
    (hs : ∀ i ρ' M', i < n → inv i ρ' M' → XS K t (ρ'.set k (some (.int i))) M' { P with nx := inv (i + 1), ct := inv (i + 1), bk := P.nx })
    (hd : ∀ ρ' M', inv n ρ' M' → P.nx ρ' M') : XS K (tFor (iRng1 ta) (gName k) t) ρ M P := by
  have := ei_rng1 hI (show -(2 ^ 62) ≤ (n : Int) ∧ (n : Int) < 2 ^ 62 by omega)
  rw [Int.toNat_natCast] at this
  exact xs_for this inv (fun M' e => by rw [e]; exact h0) (fun _ _ _ _ _ => nil_sub) (fun i ρ' M' hi hv => bd_name (hs i ρ' M' hi hv)) hd
theorem w_for2M (lo : Int) (n : Nat) (hl : -1000000 ≤ lo ∧ lo ≤ 1000000) (hn : n ≤ 1000000) (hI : EvAR K ta ρ M fun ds M' => ds = [.int lo, .int (lo + n)] ∧ M' = M) (inv : Nat → Rho → Ms → Prop) (h0 : inv 0 ρ M)
    (hs : ∀ i ρ' M', i < n → inv i ρ' M' → XS K t (ρ'.set k (some (.int (lo + i)))) M' { P with nx := inv (i + 1), ct := inv (i + 1), bk := P.nx })
    (hd : ∀ ρ' M', inv n ρ' M' → P.nx ρ' M') : XS K (tFor (iRng2 ta) (gName k) t) ρ M P := by
  have := ei_rng2 hI (show -(2 ^ 62) ≤ lo ∧ lo < 2 ^ 62 ∧ -(2 ^ 62) ≤ lo + (n : Int) ∧ lo + (n : Int) < 2 ^ 62 by omega)
  rw [show (lo + (n : Int) - lo).toNat = n by omega] at this
  exact xs_for this inv (fun M' e => by rw [e]; exact h0) (fun _ _ _ _ _ => nil_sub) (fun i ρ' M' hi hv => bd_name (hs i ρ' M' hi hv)) hd
theorem w_forTM {ds : List DV} {g : TG} (hI : EvR K te ρ M fun d M' => d = .tup ds ∧ M' = M) (inv : Nat → Rho → Ms → Prop) (h0 : inv 0 ρ M)
    (hs : ∀ i ρ' M' d, ds[i]? = some d → inv i ρ' M' → BdG K g ρ' M' d fun ρ2 M2 => XS K t ρ2 M2 { P with nx := inv (i + 1), ct := inv (i + 1), bk := P.nx })
    (hd : ∀ ρ' M', inv ds.length ρ' M' → P.nx ρ' M') : XS K (tFor (iTup K te) g t) ρ M P :=
  xs_for (ei_tup hI) inv (fun M' e => by rw [e]; exact h0) (fun _ _ _ _ _ => nil_sub) (fun i ρ' M' hi hv => hs i ρ' M' _ (nth_get hi) hv) hd
theorem w_forLM {ds : List DV} {g : TG} (hI : EvR K te ρ M fun d M' => d = .lst ds ∧ M' = M) (inv : Nat → Rho → Ms → Prop) (h0 : inv 0 ρ M)
    (hs : ∀ i ρ' M' d, ds[i]? = some d → inv i ρ' M' → BdG K g ρ' M' d fun ρ2 M2 => XS K t ρ2 M2 { P with nx := inv (i + 1), ct := inv (i + 1), bk := P.nx })
    (hd : ∀ ρ' M', inv ds.length ρ' M' → P.nx ρ' M') : XS K (tFor (iList K te) g t) ρ M P :=
  xs_for (ei_lst hI) inv (fun M' e => by rw [e]; exact h0) (fun _ _ _ _ _ => nil_sub) (fun i ρ' M' hi hv => hs i ρ' M' _ (nth_get hi) hv) hd
end
section
variable {K : PySem.W.Frag} {M : Ms}
theorem w_lenRT {f : Nat → Int} {n : Nat} : RC K (DD.rLen K) [.tup ((rowI f n).map .int)] M (.int n) := by
  have := rc_lenT (K := K) (M := M) (ds := (rowI f n).map .int)
  rw [List.length_map, rowI_len] at this; exact this
theorem w_lenRL {f : Nat → Int} {n : Nat} : RC K (DD.rLen K) [.lst ((rowI f n).map .int)] M (.int n) := by
  have := rc_lenL (K := K) (M := M) (ds := (rowI f n).map .int)
  rw [List.length_map, rowI_len] at this; exact this
end
local macro_rules | `(tactic| walk_at "st_rc") => `(tactic| first | (with_reducible refine' RC.go w_lenRT ?_) | (with_reducible refine' RC.go w_lenRL ?_))
local macro_rules | `(tactic| walk_at "st_xs") => `(tactic| (with_reducible refine' w_asgNil (fun acc => ?_)))
theorem rv_inS3 {K : PySem.W.Frag} {M : Ms} {s a b c : Str} : RV K (rIn K false) (.str s) (.tup [.str a, .str b, .str c]) M (.bl ([a, b, c].any fun t => t == s)) := rv_inS (ss := [a, b, c])
local macro_rules | `(tactic| walk_at "st_rv") => `(tactic| (with_reducible refine' RV.go rv_inS3 ?_))
local macro_rules | `(tactic| walk_at "st_if") => `(tactic| first | ((with_reducible refine' w_T ?aa ?_); (case aa => decide +kernel)) | ((with_reducible refine' w_F ?aa ?_); (case aa => decide +kernel)))

/-! ### pairs of a number and a gift -/
abbrev entD (e : Int × Int) : DV := .tup [.int e.1, .int e.2]
theorem ents_get {tab : List (Int × Int)} {i : Nat} {d : DV} (h : (tab.map entD)[i]? = some d) : ∃ e, tab[i]? = some e ∧ e ∈ tab ∧ d = entD e := by
  rw [List.getElem?_map] at h
  cases e : tab[i]? with
  | none => rw [e] at h; cases h
  | some x => rw [e] at h; cases h; exact ⟨x, rfl, List.mem_of_getElem? e, rfl⟩
theorem atI_ents {tab : List (Int × Int)} {i : Int} (h0 : 0 ≤ i) (h1 : i < tab.length) : atI (tab.map entD) i = some (entD (tab.getD i.toNat (0, 0))) := by
  have hl : i.toNat < tab.length := by omega
  have e : (tab.map entD)[i.toNat]? = some (entD (tab.getD i.toNat (0, 0))) := by
    rw [List.getElem?_map, List.getD_eq_getElem?_getD, List.getElem?_eq_getElem hl]; rfl
  have := atI_nat e
  rw [show ((i.toNat : Nat) : Int) = i by omega] at this
  exact this
local macro_rules | `(tactic| walk_at "ix") => `(tactic| ((with_reducible show atI (List.map entD _) _ = _); exact atI_ents (by omega) (by omega)))
/-- a pair that is let -/
def S_is_entry : SpecD := fun ds M R => ∃ (e : Int × Int) (n : Int), ds = [entD e, .int n] ∧ (0 ≤ e.1 ∧ e.1 < n) ∧ (0 ≤ e.2 ∧ e.2 ≤ 1000000) ∧ R (.bl true) M
theorem ok_is_entry (T : Tx K mg A) : FnOk P w K mg base CX0 2 A.f_is_entry A.d_is_entry ["value", "count"] (spD K S_is_entry) := by
  refine fnD T.F_is_entry sc_is_entry (fun ds M R h => by obtain ⟨e, n, rfl, _⟩ := h; rfl) fun cdv B up z H E hr ds M R h => ?_
  obtain ⟨⟨e1, e2⟩, n, rfl, h1, h2, hR⟩ := h
  refine ⟨_, (pss_cons (ps_if (PW.pt (pw_or (pt_not (pt_val (pe_callB (wIsi K rfl) (by rfl) T.n_isinstance (by decide +kernel) (pa_cons (pv 0) (pa_cons (pe_bltn (v := .ty "tuple") (by rfl) T.n_tuple (by decide +kernel) rfl) pa_nil))))) (pw_or1 (pt_cmpR (wNe K rfl hr) (pe_callB (wLen K rfl) (by rfl) T.n_len PySem.boot_len (pa_cons (pv 0) pa_nil)) pe_int (nomark _))))) (pss_one (ps_ret pe_bl)) pss_nil) (pss_one (ps_ret (pe_and (pe_call (ok_is_between T) (hr.mono (by decide)) (by rfl) T.g_is_between T.F_is_between.kp (b_is_between T) .nil pass0 (pa_cons (pe_ix (wIx K rfl) (pv 0) pe_int (fun _ _ => rfl)) (pa_cons pe_int (pa_cons (pe_op op_sub (pv 1) pe_int) pa_nil)))) (pe_one (pe_call (ok_is_between T) (hr.mono (by decide)) (by rfl) T.g_is_between T.F_is_between.kp (b_is_between T) .nil pass0 (pa_cons (pe_ix (wIx K rfl) (pv 0) pe_int (fun _ _ => rfl)) (pa_cons pe_int (pa_cons (pe_glob (v := .int 1000000) (by rfl) (Classical.choose_spec T.c_MOST_GIFT) ⟨_, rfl⟩) pa_nil))))))))), ?_⟩
  walk_at "go"
  exact hR
def S_wrong_entry : SpecD := fun ds M R => ∃ (tab : List (Int × Int)) (n : Int), ds = [.tup (tab.map entD), .int n] ∧ (∀ e ∈ tab, (0 ≤ e.1 ∧ e.1 < n) ∧ 0 ≤ e.2 ∧ e.2 ≤ 1000000) ∧ R .non M
theorem ok_wrong_entry (T : Tx K mg A) : FnOk P w K mg base CX0 3 A.f_wrong_entry A.d_wrong_entry ["entries", "count"] (spD K S_wrong_entry) := by
  refine fnD T.F_wrong_entry sc_wrong_entry (fun ds M R h => by obtain ⟨tab, n, rfl, _⟩ := h; rfl) fun cdv B up z H E hr ds M R h => ?_
  obtain ⟨tab, n, rfl, he, hR⟩ := h
  refine ⟨_, (pss_cons (ps_for PassesOwn.never rfl (wEnumT K rfl rfl T.n_enumerate (pa_cons (pv 0) pa_nil)) (wTupG K rfl (pg_tup rfl (pgs_cons (pg_name (i := 2) sc_wrong_entry.nd rfl (.inl rfl)) (pgs_cons (pg_name (i := 3) sc_wrong_entry.nd rfl (.inl rfl)) pgs_nil)))) (pss_one (ps_if (pt_not (pt_val (pe_call (ok_is_entry T) (hr.mono (by decide)) (by rfl) T.g_is_entry T.F_is_entry.kp (b_is_entry T) .nil pass0 (pa_cons (pv 3) (pa_cons (pv 1) pa_nil))))) (pss_one (ps_ret (pv 2))) pss_nil))) (pss_one (ps_ret pe_non))), ?_⟩
  walk_at "go"
  refine w_forE (ds := tab.map entD) ?_ (fun i ρ => ∃ a b, ρ = [some (.tup (tab.map entD)), some (.int n), a, b]) ⟨none, none, rfl⟩ (fun i ρ' d hd hinv => ?_) fun ρ' hinv => ?_
  · walk_at "go"
    exact ⟨rfl, rfl⟩
  · obtain ⟨a, b, rfl⟩ := hinv
    obtain ⟨e, _, hm, rfl⟩ := ents_get hd
    walk_at "go"
    refine ⟨e, n, rfl, (he e hm).1, (he e hm).2, ?_⟩
    walk_at "go"
    exact ⟨rfl, _, _, rfl⟩
  · obtain ⟨a, b, rfl⟩ := hinv
    walk_at "go"
    exact hR

/-! ### mixtures: mathematics -/
def plc (n a b : Nat) : Nat := min a b * n - min a b * (min a b - 1) / 2 + max a b - min a b
theorem plc_lt : ∀ n, n < 9 → ∀ a, a < n → ∀ b, b < n → plc n a b < n * (n + 1) / 2 := by decide +kernel
theorem plc_int : ∀ n : Nat, n < 9 → ∀ a : Nat, a < n → ∀ b : Nat, b < n → ((if (b : Int) < (a : Int) then (b : Int) else a) * (n : Int) - (if (b : Int) < (a : Int) then (b : Int) else a) * ((if (b : Int) < (a : Int) then (b : Int) else a) - 1) / 2 + (if (b : Int) > (a : Int) then (b : Int) else a) - (if (b : Int) < (a : Int) then (b : Int) else a)) = (plc n a b : Int) := by decide +kernel
theorem plc_comm {n a b : Nat} : plc n a b = plc n b a := by unfold plc; rw [Nat.min_comm, Nat.max_comm]
/-- the pair for two kinds -/
def metI (n : Int) (tab : List (Int × Int)) (a b : Int) : Int × Int := tab.getD (plc n.toNat a.toNat b.toNat) (0, 0)
theorem metI_comm {n : Int} {tab : List (Int × Int)} {a b : Int} : metI n tab a b = metI n tab b a := by unfold metI; rw [plc_comm]
structure MixOk (n : Int) (st tab : List (Int × Int)) : Prop where
  n1 : 1 ≤ n
  n2 : n ≤ 8
  s1 : 1 ≤ st.length
  s2 : st.length ≤ 3
  hs : ∀ e ∈ st, (0 ≤ e.1 ∧ e.1 < n) ∧ 0 ≤ e.2 ∧ e.2 ≤ 1000000
  l : (tab.length : Int) = n * (n + 1) / 2
  ht : ∀ e ∈ tab, (0 ≤ e.1 ∧ e.1 < n) ∧ 0 ≤ e.2 ∧ e.2 ≤ 1000000
theorem tri_nat {n : Int} (h1 : 1 ≤ n) (h2 : n ≤ 8) : n * (n + 1) / 2 = ((n.toNat * (n.toNat + 1) / 2 : Nat) : Int) ∧ n * (n + 1) / 2 ≤ 36 := by
  have : n = 1 ∨ n = 2 ∨ n = 3 ∨ n = 4 ∨ n = 5 ∨ n = 6 ∨ n = 7 ∨ n = 8 := by omega
  rcases this with rfl | rfl | rfl | rfl | rfl | rfl | rfl | rfl <;> decide
theorem getD_mem3 {tab : List (Int × Int)} {i : Nat} (h : i < tab.length) : tab.getD i (0, 0) ∈ tab := by
  rw [List.getD_eq_getElem?_getD, List.getElem?_eq_getElem h]
  exact List.getElem_mem h
section
variable {n : Int} {st tab : List (Int × Int)}
theorem MixOk.plc (h : MixOk n st tab) {a b : Int} (ha : 0 ≤ a ∧ a < n) (hb : 0 ≤ b ∧ b < n) : plc n.toNat a.toNat b.toNat < tab.length := by
  have n1 := h.n1; have n2 := h.n2; have hl := h.l
  have := plc_lt n.toNat (by omega) a.toNat (by omega) b.toNat (by omega)
  have t := (tri_nat n1 n2).1
  omega
theorem MixOk.met (h : MixOk n st tab) {a b : Int} (ha : 0 ≤ a ∧ a < n) (hb : 0 ≤ b ∧ b < n) : (0 ≤ (metI n tab a b).1 ∧ (metI n tab a b).1 < n) ∧ 0 ≤ (metI n tab a b).2 ∧ (metI n tab a b).2 ≤ 1000000 := h.ht _ (getD_mem3 (h.plc ha hb))
end
/-- the kinds that arise -/
inductive Aris (n : Int) (st tab : List (Int × Int)) : Int → Prop
  | start {e : Int × Int} (h : e ∈ st) : Aris n st tab e.1
  | meet {a b : Int} (ha : Aris n st tab a) (hb : Aris n st tab b) : Aris n st tab (metI n tab a b).1
theorem Aris.ok {n : Int} {st tab : List (Int × Int)} (h : MixOk n st tab) {k : Int} (ha : Aris n st tab k) : 0 ≤ k ∧ k < n := by
  induction ha with
  | start he => exact (h.hs _ he).1
  | meet _ _ ia ib => exact (h.met ia ib).1
structure Kinds (n : Int) (st tab : List (Int × Int)) (ks : List Int) : Prop where
  asc : ks.Pairwise (· < ·)
  mem : ∀ k, k ∈ ks ↔ Aris n st tab k
theorem asc_unique : ∀ {l m : List Int}, l.Pairwise (· < ·) → m.Pairwise (· < ·) → (∀ k, k ∈ l ↔ k ∈ m) → l = m
  | [], [], _, _, _ => rfl
  | [], y :: m, _, _, h => absurd ((h y).mpr List.mem_cons_self) (List.not_mem_nil)
  | x :: l, [], _, _, h => absurd ((h x).mp List.mem_cons_self) (List.not_mem_nil)
  | x :: l, y :: m, hl, hm, h => by
    have hl' := List.pairwise_cons.mp hl
    have hm' := List.pairwise_cons.mp hm
    have e : x = y := by
      rcases List.mem_cons.mp ((h x).mp List.mem_cons_self) with e | hx
      · exact e
      · rcases List.mem_cons.mp ((h y).mpr List.mem_cons_self) with e | hy
        · exact e.symm
        · have a := hm'.1 x hx
          have b := hl'.1 y hy
          omega
    subst e
    rw [asc_unique hl'.2 hm'.2 fun k => ⟨fun hk => by
      rcases List.mem_cons.mp ((h k).mp (List.mem_cons_of_mem _ hk)) with e | e
      · have := hl'.1 k hk; omega
      · exact e, fun hk => by
      rcases List.mem_cons.mp ((h k).mpr (List.mem_cons_of_mem _ hk)) with e | e
      · have := hm'.1 k hk; omega
      · exact e⟩]
theorem Kinds.unique {n : Int} {st tab : List (Int × Int)} {ks ls : List Int} (h : Kinds n st tab ks) (g : Kinds n st tab ls) : ks = ls := asc_unique h.asc g.asc fun k => (h.mem k).trans (g.mem k).symm
/-- ascending ones below n are n at most -/
theorem asc_len {n : Int} {l : List Int} (h : l.Pairwise (· < ·)) (hb : ∀ k ∈ l, 0 ≤ k ∧ k < n) : (l.length : Int) ≤ n ∨ (n < 0 ∧ l = []) := by
  by_cases hn : 0 ≤ n
  · left
    have := nodup_below n.toNat (l.map Int.toNat) (List.pairwise_map.mpr (h.imp_of_mem fun {x y} hx hy hxy e => by
      have a := hb x hx
      have b := hb y hy
      omega)) (fun x hx => by
      obtain ⟨y, hy, rfl⟩ := List.mem_map.mp hx
      have := hb y hy
      omega)
    rw [List.length_map] at this
    omega
  · right
    refine ⟨by omega, ?_⟩
    cases l with
    | nil => rfl
    | cons x r => have := hb x List.mem_cons_self; omega
/-- ascending ones of which as many more are as many are the same -/
theorem asc_sub : ∀ {l m : List Int}, l.Pairwise (· < ·) → m.Pairwise (· < ·) → (∀ k ∈ l, k ∈ m) → l.length ≤ m.length ∧ (l.length = m.length → l = m)
  | [], m, _, _, _ => ⟨Nat.zero_le _, fun h => (List.eq_nil_of_length_eq_zero h.symm).symm⟩
  | x :: l, [], _, _, h => absurd (h x List.mem_cons_self) (List.not_mem_nil)
  | x :: l, y :: m, hl, hm, h => by
    have hl' := List.pairwise_cons.mp hl
    have hm' := List.pairwise_cons.mp hm
    by_cases e : x = y
    · subst e
      have ih := asc_sub hl'.2 hm'.2 fun k hk => by
        rcases List.mem_cons.mp (h k (List.mem_cons_of_mem _ hk)) with e | e
        · have := hl'.1 k hk; omega
        · exact e
      refine ⟨by simp only [List.length_cons]; omega, fun hh => ?_⟩
      rw [ih.2 (by simpa using hh)]
    · have hx : x ∈ m := (List.mem_cons.mp (h x List.mem_cons_self)).resolve_left e
      have hyx := hm'.1 x hx
      have ih := asc_sub hl hm'.2 fun k hk => by
        rcases List.mem_cons.mp (h k hk) with e2 | e2
        · rcases List.mem_cons.mp hk with e3 | e3
          · omega
          · have := hl'.1 k e3; omega
        · exact e2
      have h3 : (x :: l).length ≤ m.length := ih.1
      refine ⟨by simp only [List.length_cons] at h3 ⊢; omega, fun hh => ?_⟩
      simp only [List.length_cons] at h3 hh
      omega
  termination_by l m => l.length + m.length

/-! ### mixtures: the code -/
def mixTold (n : Int) (st tab : List (Int × Int)) : DV := .tup [.int n, .tup (st.map entD), .tup (tab.map entD)]
def mixF (n : Int) (st tab : List (Int × Int)) (ks : List Int) : List (Str × DV) := [("count", .int n), ("starts", .tup (st.map entD)), ("table", .tup (tab.map entD)), ("told", mixTold n st tab), ("kinds", .tup (ks.map .int))]
abbrev mixD (A : Ad) (n : Int) (st tab : List (Int × Int)) (ks : List Int) : DV := .ins A.C_Mixture (mixF n st tab ks)
section
variable {n : Int} {st tab : List (Int × Int)} {ks : List Int}
theorem mix_count : (mixF n st tab ks).lookup ("count" : Str) = some (.int n) := rfl
theorem mix_starts : (mixF n st tab ks).lookup ("starts" : Str) = some (.tup (st.map entD)) := rfl
theorem mix_table : (mixF n st tab ks).lookup ("table" : Str) = some (.tup (tab.map entD)) := rfl
theorem mix_told : (mixF n st tab ks).lookup ("told" : Str) = some (mixTold n st tab) := rfl
theorem mix_kinds : (mixF n st tab ks).lookup ("kinds" : Str) = some (.tup (ks.map .int)) := rfl
end
local macro_rules | `(tactic| walk_at "fl") => `(tactic| first | exact mix_count | exact mix_starts | exact mix_table | exact mix_told | exact mix_kinds)
local macro_rules | `(tactic| walk_at "cl") => `(tactic| exact Tx.cl_Mixture (by assumption))
local macro_rules | `(tactic| walk_at "na") => `(tactic| first | exact Tx.na_Mixture_count (by assumption) | exact Tx.na_Mixture_starts (by assumption) | exact Tx.na_Mixture_table (by assumption) | exact Tx.na_Mixture_told (by assumption) | exact Tx.na_Mixture_kinds (by assumption))
def S_place : SpecD := fun ds M R => ∃ (n a b : Int), ds = [.int n, .int a, .int b] ∧ n ≤ 8 ∧ (0 ≤ a ∧ a < n) ∧ (0 ≤ b ∧ b < n) ∧ R (.int (plc n.toNat a.toNat b.toNat : Nat)) M
theorem ok_place_in_table (T : Tx K mg A) : FnOk P w K mg base CX0 1 A.f_place_in_table A.d_place_in_table ["count", "one", "other"] (spD K S_place) := by
  refine fnD T.F_place_in_table sc_place_in_table (fun ds M R h => by obtain ⟨n, a, b, rfl, _⟩ := h; rfl) fun cdv B up z H E hr ds M R h => ?_
  obtain ⟨n, a, b, rfl, hn, ha, hb, hR⟩ := h
  refine ⟨_, (pss_cons (ps_par (i := 3) (j := 4) rfl sc_place_in_table.nd rfl rfl (by decide) rfl rfl (pa_cons (pe_callB (wMin2 rfl) (by rfl) T.n_min (by decide +kernel) (pa_cons (pv 1) (pa_cons (pv 2) pa_nil))) (pa_cons (pe_callB (wMax2 rfl) (by rfl) T.n_max (by decide +kernel) (pa_cons (pv 1) (pa_cons (pv 2) pa_nil))) pa_nil)) rfl) (pss_one (ps_ret (pe_op op_sub (pe_op (wAdd K rfl) (pe_op op_sub (pe_op (wMul K rfl) (pv 3) (pv 0)) (pe_op op_fdiv (pe_op (wMul K rfl) (pv 3) (pe_op op_sub (pv 3) pe_int)) pe_int)) (pv 4)) (pv 3))))), ?_⟩
  have e := plc_int n.toNat (by omega) a.toNat (by omega) b.toNat (by omega)
  rw [show ((n.toNat : Nat) : Int) = n by omega, show ((a.toNat : Nat) : Int) = a by omega, show ((b.toNat : Nat) : Int) = b by omega] at e
  rw [← e] at hR
  have s1 : 0 ≤ (if b < a then b else a) ∧ (if b < a then b else a) < 8 := by split <;> omega
  walk_at "go"
  exact hR
theorem w_place {M : Ms} {R : DV → Ms → Prop} {n a b : Int} (hn : n ≤ 8) (ha : 0 ≤ a ∧ a < n) (hb : 0 ≤ b ∧ b < n) (k : R (.int (plc n.toNat a.toNat b.toNat : Nat)) M) : S_place [.int n, .int a, .int b] M R := ⟨n, a, b, rfl, hn, ha, hb, k⟩
theorem atI_plc {n : Int} {st tab : List (Int × Int)} {a b : Int} (h : MixOk n st tab) (ha : 0 ≤ a ∧ a < n) (hb : 0 ≤ b ∧ b < n) : atI (tab.map entD) ((plc n.toNat a.toNat b.toNat : Nat) : Int) = some (entD (metI n tab a b)) := by
  have := atI_ents (tab := tab) (i := ((plc n.toNat a.toNat b.toNat : Nat) : Int)) (by omega) (by have := h.plc ha hb; omega)
  rw [Int.toNat_natCast] at this
  exact this
local macro_rules | `(tactic| walk_at "ix") => `(tactic| ((with_reducible show atI (List.map entD _) (Nat.cast (plc _ _ _)) = _); exact atI_plc (by assumption) (by assumption) (by assumption)))
local macro_rules | `(tactic| walk_at "spc") => `(tactic| ((with_reducible refine' w_place ?aa ?bb ?cc ?_); (case' aa => try omega); (case' bb => try assumption); (case' cc => try assumption)))
def S_arising : SpecD := fun ds M R => ∃ (n : Int) (st tab : List (Int × Int)), ds = [.int n, .tup (st.map entD), .tup (tab.map entD)] ∧ MixOk n st tab ∧ ∀ ks, Kinds n st tab ks → R (.tup (ks.map .int)) M
theorem ok_arising (T : Tx K mg A) : FnOk P w K mg base CX0 2 A.f_arising A.d_arising ["count", "starts", "table"] (spD K S_arising) := by
  refine fnD T.F_arising sc_arising (fun ds M R h => by obtain ⟨n, st, tab, rfl, _⟩ := h; rfl) fun cdv B up z H E hr ds M R h => ?_
  obtain ⟨n, st, tab, rfl, hw, hR⟩ := h
  have n1 := hw.n1; have n2 := hw.n2; have s2 := hw.s2
  refine ⟨_, (pss_cons (ps_set (i := 3) sc_arising.nd rfl (.inl rfl) (pe_callB (wSortedSet rfl) (by rfl) T.n_sorted (by decide +kernel) (pa_cons (pe_callTy (wSetI K rfl rfl) (by rfl) T.n_set (by decide +kernel) (pa_cons (pe_lc (own := [("kind", 4), ("gift", 5)]) (g := (gTup K 2 (gCons (gName 4) (gCons (gName 5) gNil)))) rfl sc_arising.nd (wTup K rfl (pv 1)) (blkOk_by (own := [("kind", 4), ("gift", 5)]) (N := ["count", "starts", "table", "found", "kind", "gift", "before", "one", "fresh", "other"]) (sc := defScope s_arising) (by decide +kernel)) (fun _ _ _ _ _ => (wTupG K rfl (pg_tup rfl (pgs_cons (pg_name (i := 4) sc_arising.nd rfl (.inl rfl)) (pgs_cons (pg_name (i := 5) sc_arising.nd rfl (.inl rfl)) pgs_nil))))) (fun _ _ _ _ _ => pts_nil) (fun _ _ _ _ _ => (pv 4))) pa_nil)) pa_nil))) (pss_cons (ps_set (i := 6) sc_arising.nd rfl (.inl rfl) pe_int) (pss_cons (ps_while PassesOwn.never (pt_cmpR (wNe K rfl hr) (pv 6) (pe_callB (wLen K rfl) (by rfl) T.n_len PySem.boot_len (pa_cons (pv 3) pa_nil)) (nomark _)) (pss_cons (ps_set (i := 6) sc_arising.nd rfl (.inl rfl) (pe_callB (wLen K rfl) (by rfl) T.n_len PySem.boot_len (pa_cons (pv 3) pa_nil))) (pss_one (ps_for PassesOwn.never rfl (wList K rfl (pe_callTy (wListOf K rfl) (by rfl) T.n_list (by decide +kernel) (pa_cons (pv 3) pa_nil))) (pg_name (i := 7) sc_arising.nd rfl (.inr rfl)) (pss_cons (ps_setLc (i := 8) (own := [("other", 9)]) rfl sc_arising.nd rfl rfl (sw_true rfl rfl rfl (by decide +kernel)) (wList K rfl (pv 3)) (blkOk_by (own := [("other", 9)]) (N := ["count", "starts", "table", "found", "kind", "gift", "before", "one", "fresh", "other"]) (sc := defScope s_arising) (by decide +kernel)) (fun _ _ _ _ _ => (pg_name (i := 9) sc_arising.nd rfl (.inl rfl))) (fun _ _ _ _ _ => pts_nil) (fun _ _ _ _ _ => (pe_ix (wIx K rfl) (pe_ix (wIx K rfl) (pv 2) (pe_call (ok_place_in_table T) (hr.mono (by decide)) (by rfl) T.g_place_in_table T.F_place_in_table.kp (b_place_in_table T) .nil pass0 (pa_cons (pv 0) (pa_cons (pv 7) (pa_cons (pv 9) pa_nil)))) (fun _ _ => rfl)) pe_int (fun _ _ => rfl)))) (pss_one (ps_set (i := 3) sc_arising.nd rfl (.inl rfl) (pe_callB (wSortedSet rfl) (by rfl) T.n_sorted (by decide +kernel) (pa_cons (pe_callTy (wSetI K rfl rfl) (by rfl) T.n_set (by decide +kernel) (pa_cons (pe_op (wAdd K rfl) (pv 3) (pv 8)) pa_nil)) pa_nil))))))))) (pss_one (ps_ret (pe_callTy (wTupOf K rfl) (by rfl) T.n_tuple (by decide +kernel) (pa_cons (pv 3) pa_nil))))))), ?_⟩
  walk_at "go"
  refine w_lcTp (xs := st) (f := entD) (fun e : Int × Int => .int e.1) (by omega) ?_ (bdw_tup (bdws_name (by simp) (bdws_name (by simp) bdws_nil))) (fun e he => ?_) ?_
  · walk_at "go"
    exact ⟨rfl, rfl⟩
  · walk_at "go"
    exact ⟨rfl, rfl⟩
  refine ⟨st.map (·.1), by rw [List.map_map]; rfl, by rw [List.length_map]; omega, fun f0 hf0 hm0 => ?_⟩
  have a0 : ∀ k ∈ f0, Aris n st tab k := fun k hk => by
    obtain ⟨e, he, rfl⟩ := List.mem_map.mp ((hm0 k).mp hk)
    exact .start he
  have c0 : ∀ e ∈ st, e.1 ∈ f0 := fun e he => (hm0 _).mpr (List.mem_map.mpr ⟨e, he, rfl⟩)
  walk_at "go"
  refine xs_while (fun m ρ M' => M' = M ∧ ∃ (f : List Int) (bf : Int) (a b c d e : Option DV), ρ = [some (.int n), some (.tup (st.map entD)), some (.tup (tab.map entD)), some (.lst (f.map .int)), a, b, some (.int bf), c, d, e] ∧ f.Pairwise (· < ·) ∧ (∀ k ∈ f, Aris n st tab k) ∧ (∀ e ∈ st, e.1 ∈ f) ∧ 0 ≤ bf ∧ bf ≤ f.length ∧ (bf = f.length → ∀ a ∈ f, ∀ b ∈ f, (metI n tab a b).1 ∈ f) ∧ (m : Int) + bf = n) (m := n.toNat) ⟨rfl, f0, 0, none, none, none, none, none, ?_, hf0, a0, c0, by omega, by omega, fun h => ?_, by omega⟩ fun m ρ M' hinv => ?_
  · rfl
  · have := c0 _ (List.getElem_mem (show 0 < st.length from hw.s1))
    have hl := List.length_pos_of_mem this
    omega
  obtain ⟨rfl, f, bf, a, b, c, d, e, rfl, hasc, har, hst, hb0, hbl, hcl, hmb⟩ := hinv
  have hok : ∀ k ∈ f, 0 ≤ k ∧ k < n := fun k hk => (har k hk).ok hw
  have hlen := (asc_len hasc hok).resolve_right fun h => by omega
  walk_at "go"
  · refine hR f ⟨hasc, fun k => ⟨har k, fun hk => ?_⟩⟩
    have hcl := hcl (by omega)
    induction hk with
    | start he => exact hst _ he
    | meet _ _ ia ib => exact hcl _ ia _ ib
  refine w_forL (ds := f.map .int) ?_ (fun i ρ' => ∃ (g : List Int) (x y z : Option DV), ρ' = [some (.int n), some (.tup (st.map entD)), some (.tup (tab.map entD)), some (.lst (g.map .int)), a, b, some (.int (f.length : Nat)), x, y, z] ∧ g.Pairwise (· < ·) ∧ (∀ k ∈ g, Aris n st tab k) ∧ (∀ k ∈ f, k ∈ g) ∧ ∀ j one, j < i → f[j]? = some one → ∀ other ∈ f, (metI n tab one other).1 ∈ g)
    ⟨f, _, _, _, rfl, hasc, har, fun k h => h, fun j one h => absurd h (Nat.not_lt_zero _)⟩ (fun i ρ' d hd hinv => ?_) fun ρ' hinv => ?_
  · walk_at "go"
    exact ⟨rfl, rfl⟩
  · obtain ⟨g, x, y, z, rfl, gasc, gar, gsub, gcl⟩ := hinv
    obtain ⟨one, hone, rfl⟩ : ∃ one, f[i]? = some one ∧ d = .int one := by
      rw [List.getElem?_map] at hd
      cases e : f[i]? with
      | none => rw [e] at hd; cases hd
      | some v => rw [e] at hd; cases hd; exact ⟨v, rfl, rfl⟩
    have hone2 := hok _ (List.mem_of_getElem? hone)
    have gok : ∀ k ∈ g, 0 ≤ k ∧ k < n := fun k hk => (gar k hk).ok hw
    have glen := (asc_len gasc gok).resolve_right fun h => by omega
    walk_at "go"
    refine w_lcLp (xs := g) (f := DV.int) (fun o => .int (metI n tab one o).1) (by omega) ?_ (bdw_name (by simp)) (fun o ho => ?_) ?_
    · walk_at "go"
      exact ⟨rfl, rfl⟩
    · have ho2 := gok o ho
      walk_at "go"
      exact ⟨rfl, rfl⟩
    walk_at "go"
    refine ⟨g ++ g.map fun o => (metI n tab one o).1, by rw [List.map_append, List.map_map]; rfl, by rw [List.length_append, List.length_map]; omega, fun ms hms hmem => ?_⟩
    walk_at "go"
    refine ⟨rfl, ms, _, _, _, rfl, hms, fun k hk => ?_, fun k hk => (hmem k).mpr (List.mem_append_left _ (gsub k hk)), fun j o hj ho o2 ho2 => ?_⟩
    · rcases List.mem_append.mp ((hmem k).mp hk) with h | h
      · exact gar k h
      · obtain ⟨o, ho, rfl⟩ := List.mem_map.mp h
        exact .meet (har _ (List.mem_of_getElem? hone)) (gar o ho)
    · refine (hmem _).mpr ?_
      by_cases e : j = i
      · subst e
        rw [hone] at ho
        cases ho
        exact List.mem_append_right _ (List.mem_map.mpr ⟨o2, gsub _ ho2, rfl⟩)
      · exact List.mem_append_left _ (gcl j o (by omega) ho o2 ho2)
  · obtain ⟨g, x, y, z, rfl, gasc, gar, gsub, gcl⟩ := hinv
    have hs := asc_sub hasc gasc gsub
    refine ⟨(n - f.length).toNat, by omega, rfl, g, f.length, _, _, _, _, _, rfl, gasc, gar, fun e he => gsub _ (hst e he), by omega, by omega, fun h a ha b hb => ?_, by omega⟩
    have hfg := hs.2 (by omega)
    subst hfg
    obtain ⟨j, hj⟩ := List.mem_iff_getElem?.mp ha
    have hjl := (List.getElem?_eq_some_iff.mp hj).1
    exact gcl j a (by rw [List.length_map]; exact hjl) hj b hb
/-- starts and tables that are let -/
def S_check_starts : SpecD := fun ds M R => ∃ (n : Int) (st : List (Int × Int)), ds = [.tup (st.map entD), .int n] ∧ 1 ≤ st.length ∧ st.length ≤ 3 ∧ (∀ e ∈ st, (0 ≤ e.1 ∧ e.1 < n) ∧ 0 ≤ e.2 ∧ e.2 ≤ 1000000) ∧ R .non M
theorem ok_check_starts (T : Tx K mg A) : FnOk P w K mg base CX0 4 A.f_check_starts A.d_check_starts ["value", "count"] (spD K S_check_starts) := by
  refine fnD T.F_check_starts sc_check_starts (fun ds M R h => by obtain ⟨n, st, rfl, _⟩ := h; rfl) fun cdv B up z H E hr ds M R h => ?_
  obtain ⟨n, st, rfl, s1, s2, hs, hR⟩ := h
  refine ⟨_, (pss_cons (ps_if (PW.pt (pw_or (pt_not (pt_val (pe_callB (wIsi K rfl) (by rfl) T.n_isinstance (by decide +kernel) (pa_cons (pv 0) (pa_cons (pe_bltn (v := .ty "tuple") (by rfl) T.n_tuple (by decide +kernel) rfl) pa_nil))))) (pw_or1 (pt_not (pt_chain op_le op_le pe_int (pe_callB (wLen K rfl) (by rfl) T.n_len PySem.boot_len (pa_cons (pv 0) pa_nil)) (pe_glob (v := .int 3) (by rfl) (Classical.choose_spec T.c_MOST_INPUTS) ⟨_, rfl⟩)))))) (pss_one ps_never) pss_nil) (pss_cons (ps_set (i := 2) sc_check_starts.nd rfl (.inl rfl) (pe_call (ok_wrong_entry T) (hr.mono (by decide)) (by rfl) T.g_wrong_entry T.F_wrong_entry.kp (b_wrong_entry T) .nil pass0 (pa_cons (pv 0) (pa_cons (pv 1) pa_nil)))) (pss_one (ps_if (pt_cmpR op_notN' (pv 2) pe_non (nomark _)) (pss_one ps_never) pss_nil)))), ?_⟩
  walk_at "go"
  refine ⟨st, n, rfl, hs, ?_⟩
  walk_at "go"
  exact hR
def S_check_table : SpecD := fun ds M R => ∃ (n m : Int) (st : List (Int × Int)), ds = [.tup (st.map entD), .int n, .int m] ∧ (st.length : Int) = m ∧ (∀ e ∈ st, (0 ≤ e.1 ∧ e.1 < n) ∧ 0 ≤ e.2 ∧ e.2 ≤ 1000000) ∧ R .non M
theorem ok_check_table (T : Tx K mg A) : FnOk P w K mg base CX0 4 A.f_check_table A.d_check_table ["value", "count", "size"] (spD K S_check_table) := by
  refine fnD T.F_check_table sc_check_table (fun ds M R h => by obtain ⟨n, m, st, rfl, _⟩ := h; rfl) fun cdv B up z H E hr ds M R h => ?_
  obtain ⟨n, m, st, rfl, hl, hs, hR⟩ := h
  refine ⟨_, (pss_cons (ps_if (PW.pt (pw_or (pt_not (pt_val (pe_callB (wIsi K rfl) (by rfl) T.n_isinstance (by decide +kernel) (pa_cons (pv 0) (pa_cons (pe_bltn (v := .ty "tuple") (by rfl) T.n_tuple (by decide +kernel) rfl) pa_nil))))) (pw_or1 (pt_cmpR (wNe K rfl hr) (pe_callB (wLen K rfl) (by rfl) T.n_len PySem.boot_len (pa_cons (pv 0) pa_nil)) (pv 2) (nomark _))))) (pss_one ps_never) pss_nil) (pss_cons (ps_set (i := 3) sc_check_table.nd rfl (.inl rfl) (pe_call (ok_wrong_entry T) (hr.mono (by decide)) (by rfl) T.g_wrong_entry T.F_wrong_entry.kp (b_wrong_entry T) .nil pass0 (pa_cons (pv 0) (pa_cons (pv 1) pa_nil)))) (pss_one (ps_if (pt_cmpR op_notN' (pv 3) pe_non (nomark _)) (pss_one ps_never) pss_nil)))), ?_⟩
  walk_at "go"
  refine ⟨st, n, rfl, hs, ?_⟩
  walk_at "go"
  exact hR
def S_Mixture_init (A : Ad) : SpecD := fun ds M R => ∃ (x : Addr) (n : Int) (st tab : List (Int × Int)) (M' : Ms), ds = [.raw (.ref x), .int n, .tup (st.map entD), .tup (tab.map entD)] ∧ M = (x, MO.ins A.C_Mixture []) :: M' ∧ MixOk n st tab ∧ ∀ ks, Kinds n st tab ks → R .non ((x, MO.ins A.C_Mixture (mixF n st tab ks)) :: M')
theorem ok_Mixture_init (T : Tx K mg A) : FnOk P w K mg base CX0 5 A.f_Mixture_init A.d_Mixture_init ["self", "count", "starts", "table"] (spD K (S_Mixture_init A)) := by
  refine fnD T.F_Mixture_init sc_Mixture_init (fun ds M R h => by obtain ⟨x, n, st, tab, M', rfl, _⟩ := h; rfl) fun cdv B up z H E hr ds M R h => ?_
  obtain ⟨x, n, st, tab, M', rfl, rfl, hw, hR⟩ := h
  have n1 := hw.n1; have n2 := hw.n2
  refine ⟨_, (pss_cons (ps_if (pt_not (pt_val (pe_call (ok_is_between T) (hr.mono (by decide)) (by rfl) T.g_is_between T.F_is_between.kp (b_is_between T) .nil pass0 (pa_cons (pv 1) (pa_cons pe_int (pa_cons (pe_glob (v := .int 8) (by rfl) (Classical.choose_spec T.c_MOST_KINDS) ⟨_, rfl⟩) pa_nil)))))) (pss_one ps_never) pss_nil) (pss_cons (ps_expr (pe_call (ok_check_starts T) (hr.mono (by decide)) (by rfl) T.g_check_starts T.F_check_starts.kp (b_check_starts T) .nil pass0 (pa_cons (pv 2) (pa_cons (pv 1) pa_nil)))) (pss_cons (ps_expr (pe_call (ok_check_table T) (hr.mono (by decide)) (by rfl) T.g_check_table T.F_check_table.kp (b_check_table T) .nil pass0 (pa_cons (pv 3) (pa_cons (pv 1) (pa_cons (pe_op op_fdiv (pe_op (wMul K rfl) (pv 1) (pe_op (wAdd K rfl) (pv 1) pe_int)) pe_int) pa_nil))))) (pss_cons (wPutF K rfl (pv 0) (pv 1) rfl) (pss_cons (wPutF K rfl (pv 0) (pv 2) rfl) (pss_cons (wPutF K rfl (pv 0) (pv 3) rfl) (pss_cons (wPutF K rfl (pv 0) (pe_tup (pa_cons (pv 1) (pa_cons (pv 2) (pa_cons (pv 3) pa_nil)))) rfl) (pss_one (wPutF K rfl (pv 0) (pe_call (ok_arising T) (hr.mono (by decide)) (by rfl) T.g_arising T.F_arising.kp (b_arising T) .nil pass0 (pa_cons (pv 1) (pa_cons (pv 2) (pa_cons (pv 3) pa_nil)))) rfl))))))))), ?_⟩
  walk_at "go"
  refine ⟨n, st, rfl, hw.s1, hw.s2, hw.hs, ?_⟩
  walk_at "go"
  refine ⟨n, _, tab, rfl, hw.l, hw.ht, ?_⟩
  walk_at "go"
  refine ⟨n, st, tab, rfl, hw, fun ks hks => ?_⟩
  walk_at "go"
  exact hR ks hks
def MkMix (A : Ad) (ds : List DV) (M : Ms) (R : DV → Ms → Prop) : Prop := ∃ n st tab, ds = [.int n, .tup (st.map entD), .tup (tab.map entD)] ∧ MixOk n st tab ∧ ∀ ks, Kinds n st tab ks → R (mixD A n st tab ks) M
theorem evr_mkmix {t : TA} {ρ : Rho} {M : Ms} {R : DV → Ms → Prop} (h : EvAR K t ρ M fun ds M1 => MkMix A ds M1 R) : EvR K (tMake A.C_Mixture (spD K (S_Mixture_init A)) [] E0 t) ρ M R := by
  refine evr_freezeI (evr_make ?_)
  intro N F σ H S Q q
  refine h N F σ H S Q fun us ds M1 F1 H1 e1 ⟨n, st, tab, hd, hp, hR⟩ w1 r1 => q us ds M1 F1 H1 e1 (fun x => ?_) w1 r1
  subst hd
  exact ⟨x, n, st, tab, M1, rfl, rfl, hp, fun ks hks => ⟨rfl, x, A.C_Mixture, _, M1, rfl, rfl, hR ks hks⟩⟩
local macro_rules | `(tactic| walk_at "st_evr") => `(tactic| ((with_reducible show EvR _ (tMake (Ad.C_Mixture _) _ _ _ _) _ _ _); refine' evr_mkmix ?_))
def S_met (A : Ad) : SpecD := fun ds M R => ∃ (n : Int) (st tab : List (Int × Int)) (ks : List Int) (a b : Int), ds = [mixD A n st tab ks, .int a, .int b] ∧ MixOk n st tab ∧ (0 ≤ a ∧ a < n) ∧ (0 ≤ b ∧ b < n) ∧ R (entD (metI n tab a b)) M
theorem ok_Mixture_met (T : Tx K mg A) : FnOk P w K mg base CX0 2 A.f_Mixture_met A.d_Mixture_met ["self", "one", "other"] (spD K (S_met A)) := by
  refine fnD T.F_Mixture_met sc_Mixture_met (fun ds M R h => by obtain ⟨n, st, tab, ks, a, b, rfl, _⟩ := h; rfl) fun cdv B up z H E hr ds M R h => ?_
  obtain ⟨n, st, tab, ks, a, b, rfl, hw, ha, hb, hR⟩ := h
  have n2 := hw.n2
  refine ⟨_, (pss_one (ps_ret (pe_ix (wIx K rfl) (wFld K rfl (pv 0) rfl) (pe_call (ok_place_in_table T) (hr.mono (by decide)) (by rfl) T.g_place_in_table T.F_place_in_table.kp (b_place_in_table T) .nil pass0 (pa_cons (wFld K rfl (pv 0) rfl) (pa_cons (pv 1) (pa_cons (pv 2) pa_nil)))) (fun _ _ => rfl)))), ?_⟩
  walk_at "go"
  exact hR
theorem w_met {M : Ms} {R : DV → Ms → Prop} {n : Int} {st tab : List (Int × Int)} {ks : List Int} {a b : Int} (hw : MixOk n st tab) (ha : 0 ≤ a ∧ a < n) (hb : 0 ≤ b ∧ b < n) (k : R (entD (metI n tab a b)) M) : S_met A [mixD A n st tab ks, .int a, .int b] M R := ⟨n, st, tab, ks, a, b, rfl, hw, ha, hb, k⟩
def S_check_mixture (A : Ad) : SpecD := fun ds M R => ∃ (n : Int) (st tab : List (Int × Int)) (ks : List Int), ds = [mixD A n st tab ks] ∧ R .non M
theorem w_check_mixture {M : Ms} {R : DV → Ms → Prop} {n : Int} {st tab : List (Int × Int)} {ks : List Int} (k : R .non M) : S_check_mixture A [mixD A n st tab ks] M R := ⟨n, st, tab, ks, rfl, k⟩
local macro_rules | `(tactic| walk_at "spc") => `(tactic| first
  | ((with_reducible refine' w_met ?aa ?bb ?cc ?_); (case' aa => try assumption); (case' bb => first | assumption | omega | skip); (case' cc => first | assumption | omega | skip))
  | (with_reducible refine' w_check_mixture ?_))

/-! ### slices of rows of ints -/
theorem cut_to {α : Type} {g : α → DV} {xs : List α} {i : Int} (h : 0 ≤ i ∧ i ≤ xs.length) : cutL (xs.map g) none (some i) = (xs.take i.toNat).map g := by
  unfold cutL
  have e0 : HT.sIx (xs.map g).length 0 none = 0 := rfl
  have e1 : HT.sIx (xs.map g).length (xs.map g).length (some i) = i.toNat := by
    rw [List.length_map]
    show (if i < 0 then (i + xs.length).toNat else min i.toNat xs.length) = _
    rw [if_neg (by omega)]; omega
  rw [e0, e1, List.drop_zero, Nat.sub_zero, List.map_take]
theorem cut_from {α : Type} {g : α → DV} {xs : List α} {i : Int} (h : 0 ≤ i ∧ i ≤ xs.length) : cutL (xs.map g) (some i) none = (xs.drop i.toNat).map g := by
  unfold cutL
  have e0 : HT.sIx (xs.map g).length 0 (some i) = i.toNat := by
    rw [List.length_map]
    show (if i < 0 then (i + xs.length).toNat else min i.toNat xs.length) = _
    rw [if_neg (by omega)]; omega
  have e1 : HT.sIx (xs.map g).length (xs.map g).length none = xs.length := by rw [List.length_map]; rfl
  rw [e0, e1, List.map_drop]
  refine List.take_of_length_le ?_
  rw [List.length_drop, List.length_map]; omega
theorem cut_mid {α : Type} {g : α → DV} {xs : List α} {i j : Int} (h : 0 ≤ i ∧ i ≤ j ∧ j ≤ xs.length) : cutL (xs.map g) (some i) (some j) = ((xs.take j.toNat).drop i.toNat).map g := by
  unfold cutL
  have e0 : HT.sIx (xs.map g).length 0 (some i) = i.toNat := by
    rw [List.length_map]
    show (if i < 0 then (i + xs.length).toNat else min i.toNat xs.length) = _
    rw [if_neg (by omega)]; omega
  have e1 : HT.sIx (xs.map g).length (xs.map g).length (some j) = j.toNat := by
    rw [List.length_map]
    show (if j < 0 then (j + xs.length).toNat else min j.toNat xs.length) = _
    rw [if_neg (by omega)]; omega
  rw [e0, e1, ← List.map_drop, ← List.map_take, List.drop_take]
section
variable {α : Type} {g : α → DV} {xs : List α} {ρ : Rho} {M : Ms} {R : DV → Ms → Prop} {te tl th : TE} {i j : Int}
theorem w_slTto (h : Ev K te ρ M (.tup (xs.map g))) (h1 : Ev K th ρ M (.int i)) (hb : 0 ≤ i ∧ i ≤ xs.length) (k : R (.tup ((xs.take i.toNat).map g)) M) : EvR K (tSl (rSlU K) te tNoPart (tPart th)) ρ M R := (Ev.is (ev_slT h eo_none (eo_some h1)) (by rw [cut_to hb])).go k
theorem w_slTfrom (h : Ev K te ρ M (.tup (xs.map g))) (h1 : Ev K tl ρ M (.int i)) (hb : 0 ≤ i ∧ i ≤ xs.length) (k : R (.tup ((xs.drop i.toNat).map g)) M) : EvR K (tSl (rSlU K) te (tPart tl) tNoPart) ρ M R := (Ev.is (ev_slT h (eo_some h1) eo_none) (by rw [cut_from hb])).go k
theorem w_slTmid (h : Ev K te ρ M (.tup (xs.map g))) (h0 : Ev K tl ρ M (.int i)) (h1 : Ev K th ρ M (.int j)) (hb : 0 ≤ i ∧ i ≤ j ∧ j ≤ xs.length) (k : R (.tup (((xs.take j.toNat).drop i.toNat).map g)) M) : EvR K (tSl (rSlU K) te (tPart tl) (tPart th)) ρ M R := (Ev.is (ev_slT h (eo_some h0) (eo_some h1)) (by rw [cut_mid hb])).go k
theorem w_slLto (h : Ev K te ρ M (.lst (xs.map g))) (h1 : Ev K th ρ M (.int i)) (hb : 0 ≤ i ∧ i ≤ xs.length) (k : R (.lst ((xs.take i.toNat).map g)) M) : EvR K (tSl (rSlU K) te tNoPart (tPart th)) ρ M R := (Ev.is (ev_slL h eo_none (eo_some h1)) (by rw [cut_to hb])).go k
theorem w_slLfrom (h : Ev K te ρ M (.lst (xs.map g))) (h1 : Ev K tl ρ M (.int i)) (hb : 0 ≤ i ∧ i ≤ xs.length) (k : R (.lst ((xs.drop i.toNat).map g)) M) : EvR K (tSl (rSlU K) te (tPart tl) tNoPart) ρ M R := (Ev.is (ev_slL h (eo_some h1) eo_none) (by rw [cut_from hb])).go k
theorem w_slLmid (h : Ev K te ρ M (.lst (xs.map g))) (h0 : Ev K tl ρ M (.int i)) (h1 : Ev K th ρ M (.int j)) (hb : 0 ≤ i ∧ i ≤ j ∧ j ≤ xs.length) (k : R (.lst (((xs.take j.toNat).drop i.toNat).map g)) M) : EvR K (tSl (rSlU K) te (tPart tl) (tPart th)) ρ M R := (Ev.is (ev_slL h (eo_some h0) (eo_some h1)) (by rw [cut_mid hb])).go k
end
local macro_rules | `(tactic| walk_at "st_evr") => `(tactic| first
  | ((with_reducible refine' w_slTto ?aa ?bb ?cc ?_); (case aa => walk_at "ev"); (case bb => walk_at "ev"); (case cc => omega))
  | ((with_reducible refine' w_slTfrom ?aa ?bb ?cc ?_); (case aa => walk_at "ev"); (case bb => walk_at "ev"); (case cc => omega))
  | ((with_reducible refine' w_slTmid ?aa ?bb ?dd ?cc ?_); (case aa => walk_at "ev"); (case bb => walk_at "ev"); (case dd => walk_at "ev"); (case cc => omega))
  | ((with_reducible refine' w_slLto ?aa ?bb ?cc ?_); (case aa => walk_at "ev"); (case bb => walk_at "ev"); (case cc => omega))
  | ((with_reducible refine' w_slLfrom ?aa ?bb ?cc ?_); (case aa => walk_at "ev"); (case bb => walk_at "ev"); (case cc => omega))
  | ((with_reducible refine' w_slLmid ?aa ?bb ?dd ?cc ?_); (case aa => walk_at "ev"); (case bb => walk_at "ev"); (case dd => walk_at "ev"); (case cc => omega)))
local macro_rules | `(tactic| walk_at "ar") => `(tactic| (simp only [List.length_map, List.length_append, List.length_cons, List.length_nil, List.length_range, List.length_replicate, List.length_set, List.length_take, List.length_drop]; omega))

/-! ### what is told of mixtures -/
theorem rv_mix0 {M : Ms} {n : Int} {st tab : List (Int × Int)} : RV K (rIx K) (mixTold n st tab) (.int 0) M (.int n) := rv_ixT rfl
theorem rv_mix1 {M : Ms} {n : Int} {st tab : List (Int × Int)} : RV K (rIx K) (mixTold n st tab) (.int 1) M (.tup (st.map entD)) := rv_ixT rfl
theorem rv_mix2 {M : Ms} {n : Int} {st tab : List (Int × Int)} : RV K (rIx K) (mixTold n st tab) (.int 2) M (.tup (tab.map entD)) := rv_ixT rfl
local macro_rules | `(tactic| walk_at "st_rv") => `(tactic| first | (with_reducible refine' RV.go rv_mix0 ?_) | (with_reducible refine' RV.go rv_mix1 ?_) | (with_reducible refine' RV.go rv_mix2 ?_))
theorem drop_at {α : Type} {l : List α} {i : Nat} {x : α} (h : l[i]? = some x) : l.drop i = x :: l.drop (i + 1) := by
  obtain ⟨h1, h2⟩ := List.getElem?_eq_some_iff.mp h
  rw [List.drop_eq_getElem_cons h1, h2]
theorem ints_get {ts : List Int} {i : Nat} {d : DV} (h : (ts.map DV.int)[i]? = some d) : ∃ t, ts[i]? = some t ∧ t ∈ ts ∧ d = .int t := by
  rw [List.getElem?_map] at h
  cases e : ts[i]? with
  | none => rw [e] at h; cases h
  | some x => rw [e] at h; cases h; exact ⟨x, rfl, List.mem_of_getElem? e, rfl⟩

/-! ### the law's own mixtures -/
def pairsN (n : Nat) : List (Int × Int) := (List.range n).flatMap fun a => (List.range (n - a)).map fun k => ((a : Int), ((a + k : Nat) : Int))
theorem pairsN_get1 : ∀ n : Nat, n < 9 → ∀ a : Nat, a < n → ∀ b : Nat, b < n → (pairsN n)[plc n a b]? = some (((min a b : Nat) : Int), ((max a b : Nat) : Int)) := by decide +kernel
theorem pairsN_get2 : ∀ n : Nat, n < 9 → ∀ a : Nat, a < n → ∀ b : Nat, b < n → ((List.range (plc n a b)).all fun m => decide ((pairsN n)[m]? ≠ some (((min a b : Nat) : Int), ((max a b : Nat) : Int)))) = true := by decide +kernel
theorem pairsN_get (n : Nat) (hn : n < 9) (a : Nat) (ha : a < n) (b : Nat) (hb : b < n) : (pairsN n)[plc n a b]? = some (((min a b : Nat) : Int), ((max a b : Nat) : Int)) ∧ ∀ m : Nat, m < plc n a b → (pairsN n)[m]? ≠ some (((min a b : Nat) : Int), ((max a b : Nat) : Int)) :=
  ⟨pairsN_get1 n hn a ha b hb, fun m hm => of_decide_eq_true (List.all_eq_true.mp (pairsN_get2 n hn a ha b hb) m (List.mem_range.mpr hm))⟩
theorem pairsN_len : ∀ n : Nat, n < 9 → (pairsN n).length = n * (n + 1) / 2 := by decide +kernel
theorem pairsN_mem {n : Nat} {x : Int × Int} (h : x ∈ pairsN n) : (0 ≤ x.1 ∧ x.1 < n) ∧ 0 ≤ x.2 ∧ x.2 < n := by
  obtain ⟨a, ha, h⟩ := List.mem_flatMap.mp h
  obtain ⟨k, hk, rfl⟩ := List.mem_map.mp h
  have := List.mem_range.mp ha
  have := List.mem_range.mp hk
  exact ⟨⟨by show (0 : Int) ≤ (a : Int); omega, by show (a : Int) < n; omega⟩, by show (0 : Int) ≤ ((a + k : Nat) : Int); omega, by show ((a + k : Nat) : Int) < n; omega⟩
theorem pairsN_fit {n : Nat} (h : n < 9) : Fit (.lst ((pairsN n).map pairI)) := by
  have hl := pairsN_len n h
  have hb : n * (n + 1) / 2 ≤ 36 := by
    have : ∀ n : Nat, n < 9 → n * (n + 1) / 2 ≤ 36 := by decide
    exact this n h
  refine (Fs.lst (FsA.all (p := 1) (b := 2) (n := 36) (fun d hd => ?_) (by rw [List.length_map]; omega))).fit (by decide) (by decide)
  obtain ⟨x, hx, rfl⟩ := List.mem_map.mp hd
  have := pairsN_mem hx
  exact (Fs.tup (FsA.cons (Fs.int ⟨by omega, by omega⟩) (FsA.cons (Fs.int ⟨by omega, by omega⟩) FsA.nil))).le (by decide) (by decide)
def S_pairs : SpecD := fun ds M R => ∃ n : Nat, ds = [.int n] ∧ n ≤ 8 ∧ R (.lst ((pairsN n).map pairI)) M
theorem ok__law_pairs (T : Tx K mg A) : FnOk P w K mg base CX0 1 A.f__law_pairs A.d__law_pairs ["n"] (spD K S_pairs) := by
  refine fnD T.F__law_pairs sc__law_pairs (fun ds M R h => by obtain ⟨n, rfl, _⟩ := h; rfl) fun cdv B up z H E hr ds M R h => ?_
  obtain ⟨n, rfl, hn, hR⟩ := h
  refine ⟨_, (pss_cons (ps_set (i := 1) sc__law_pairs.nd rfl (.inl rfl) (pe_lst pa_nil)) (pss_cons (ps_for PassesOwn.never rfl (pi_range1 rfl T.n_range (pa_cons (pv 0) pa_nil)) (pg_name (i := 2) sc__law_pairs.nd rfl (.inr rfl)) (pss_one (ps_set (i := 1) sc__law_pairs.nd rfl (.inl rfl) (pe_op (wAdd K rfl) (pv 1) (pe_lc (own := [("b", 3)]) rfl sc__law_pairs.nd (pi_range2 rfl T.n_range (pa_cons (pv 2) (pa_cons (pv 0) pa_nil))) (blkOk_by (own := [("b", 3)]) (N := ["n", "found", "a", "b"]) (sc := defScope s__law_pairs) (by decide +kernel)) (fun _ _ _ _ _ => (pg_name (i := 3) sc__law_pairs.nd rfl (.inl rfl))) (fun _ _ _ _ _ => pts_nil) (fun _ _ _ _ _ => (pe_tup (pa_cons (pv 2) (pa_cons (pv 3) pa_nil))))))))) (pss_one (ps_ret (pv 1))))), ?_⟩
  refine xs_seq (xs_asg (Ev.go (ev_lst (ds := []) ea_nil) (bd_name ?_)))
  walk_at "go"
  refine w_for1 n (by omega) ?_ (fun i ρ => ∃ a b, ρ = [some (.int n), some (.lst (((List.range i).flatMap fun a => (List.range (n - a)).map fun k => ((a : Int), ((a + k : Nat) : Int))).map pairI)), a, b]) ⟨none, none, rfl⟩ (fun i ρ' hi hinv => ?_) fun ρ' hinv => ?_
  · walk_at "go"
    exact ⟨rfl, rfl⟩
  · obtain ⟨a, b, rfl⟩ := hinv
    have hlen : ((List.range i).flatMap fun a => (List.range (n - a)).map fun k => ((a : Int), ((a + k : Nat) : Int))).length ≤ i * 8 := by
      have : ∀ i, ((List.range i).flatMap fun a => (List.range (n - a)).map fun k => ((a : Int), ((a + k : Nat) : Int))).length ≤ i * 8 := fun i => by
        induction i with
        | zero => exact Nat.le_refl _
        | succ i ih =>
          rw [List.range_succ, List.flatMap_append, List.length_append]
          have : (List.flatMap (fun a => (List.range (n - a)).map fun k => ((a : Int), ((a + k : Nat) : Int))) [i]).length ≤ 8 := by
            simp; omega
          omega
      exact this i
    walk_at "go"
    refine w_lc2 (i : Int) (n - i) (fun k => .tup [.int i, .int ((i : Int) + k)]) (by omega) (by omega) ?_ (fun k hk => ?_) ?_
    · walk_at "go"
      exact w_rg2 rfl (by omega)
    · walk_at "go"
      exact ⟨rfl, rfl⟩
    walk_at "go"
    have hl : ((List.range (i + 1)).flatMap fun a => (List.range (n - a)).map fun k => ((a : Int), ((a + k : Nat) : Int))).map pairI = ((List.range i).flatMap fun a => (List.range (n - a)).map fun k => ((a : Int), ((a + k : Nat) : Int))).map pairI ++ (List.range (n - i)).map (fun k : Nat => DV.tup [.int i, .int ((i : Int) + k)]) := by
      rw [List.range_succ, List.flatMap_append, List.map_append]
      congr 1
      show List.map pairI ((((List.range (n - i)).map fun k => ((i : Int), ((i + k : Nat) : Int))) ++ [])) = _
      rw [List.append_nil, List.map_map]
      rfl
    rw [hl]
    exact ⟨rfl, _, _, rfl⟩
  · obtain ⟨a, b, rfl⟩ := hinv
    walk_at "go"
    exact hR
theorem w_pairs {M : Ms} {R : DV → Ms → Prop} {n : Int} (hn : 0 ≤ n ∧ n ≤ 8) (k : R (.lst ((pairsN n.toNat).map pairI)) M) : S_pairs [.int n] M R := ⟨n.toNat, by rw [show ((n.toNat : Nat) : Int) = n by omega], by omega, k⟩
local macro_rules | `(tactic| walk_at "spc") => `(tactic| ((with_reducible refine' w_pairs ?aa ?_); (case' aa => try omega)))
def S_plain_entry : SpecD := fun ds M R => ∃ (way n a b c : Int), ds = [.int way, .int n, .int a, .int b, .int c] ∧ (0 ≤ way ∧ way ≤ 2) ∧ (1 ≤ n ∧ n ≤ 8) ∧ (0 ≤ a ∧ a < n) ∧ (0 ≤ b ∧ b < n) ∧ (0 ≤ c ∧ c ≤ 3) ∧ ∀ e : Int × Int, (0 ≤ e.1 ∧ e.1 < n) ∧ 0 ≤ e.2 ∧ e.2 ≤ 1000 → R (entD e) M
theorem ok__law_plain_entry (T : Tx K mg A) : FnOk P w K mg base CX0 1 A.f__law_plain_entry A.d__law_plain_entry ["way", "n", "a", "b", "c"] (spD K S_plain_entry) := by
  refine fnD T.F__law_plain_entry sc__law_plain_entry (fun ds M R h => by obtain ⟨way, n, a, b, c, rfl, _⟩ := h; rfl) fun cdv B up z H E hr ds M R h => ?_
  obtain ⟨way, n, a, b, c, rfl, hway, hn, ha, hb, hc, hR⟩ := h
  refine ⟨_, (pss_cons (ps_if (pt_cmpR (wEq K rfl hr) (pv 0) pe_int (nomark _)) (pss_one (ps_ret (pe_tup (pa_cons (pe_op op_mod (pe_callTy wInt (by rfl) T.n_int (by decide +kernel) (pa_cons (pe_op (wAdd K rfl) (pv 2) (pv 3)) pa_nil)) (pv 1)) (pa_cons (pe_ifExp (pt_cmpR op_ge (pe_op (wAdd K rfl) (pv 2) (pv 3)) (pv 1) (nomark _)) (pv 4) pe_int) pa_nil))))) pss_nil) (pss_cons (ps_if (pt_cmpR (wEq K rfl hr) (pv 0) pe_int (nomark _)) (pss_one (ps_ret (pe_tup (pa_cons (pe_callB (wMin2 rfl) (by rfl) T.n_min (by decide +kernel) (pa_cons (pe_op (wAdd K rfl) (pe_op (wAdd K rfl) (pv 2) (pv 3)) pe_int) (pa_cons (pe_op op_sub (pv 1) pe_int) pa_nil))) (pa_cons (pe_op (wMul K rfl) (pe_callB (wMax2 rfl) (by rfl) T.n_max (by decide +kernel) (pa_cons pe_int (pa_cons (pe_op op_sub (pe_op (wAdd K rfl) (pe_op (wAdd K rfl) (pv 2) (pv 3)) pe_int) (pv 1)) pa_nil))) (pv 4)) pa_nil))))) pss_nil) (pss_one (ps_ret (pe_tup (pa_cons (pe_callB (wMax2 rfl) (by rfl) T.n_max (by decide +kernel) (pa_cons (pv 2) (pa_cons (pv 3) pa_nil))) (pa_cons (pv 4) pa_nil))))))), ?_⟩
  have hc3 : c = 0 ∨ c = 1 ∨ c = 2 ∨ c = 3 := by omega
  walk_at "go"
  · exact hR ((a + b) % n, c) ⟨⟨Int.emod_nonneg _ (by omega), Int.emod_lt_of_pos _ (by omega)⟩, by show 0 ≤ c; omega, by show c ≤ 1000; omega⟩
  · exact hR ((a + b) % n, 0) ⟨⟨Int.emod_nonneg _ (by omega), Int.emod_lt_of_pos _ (by omega)⟩, by show (0 : Int) ≤ 0; omega, by show (0 : Int) ≤ 1000; omega⟩
  · refine hR (_, _) ⟨?_, ?_⟩
    · show 0 ≤ (if n - 1 < a + b + 1 then n - 1 else a + b + 1) ∧ (if n - 1 < a + b + 1 then n - 1 else a + b + 1) < n
      split <;> omega
    · show 0 ≤ (if a + b + 2 - n > 0 then a + b + 2 - n else 0) * c ∧ (if a + b + 2 - n > 0 then a + b + 2 - n else 0) * c ≤ 1000
      rcases hc3 with rfl | rfl | rfl | rfl <;> split <;> omega
  · refine hR (_, c) ⟨?_, by show 0 ≤ c; omega, by show c ≤ 1000; omega⟩
    show 0 ≤ (if b > a then b else a) ∧ (if b > a then b else a) < n
    split <;> omega
/-- what is told of a drawn mixture -/
def S_told : SpecD := fun ds M R => ∃ (j : Addr) (most : Int), ds = [.raw (.ref j), .int most] ∧ (j, jugO) ∈ M ∧ 1 ≤ most ∧ most ≤ 8 ∧ ∀ (n : Int) (st tab : List (Int × Int)), MixOk n st tab → n ≤ most → (∀ e ∈ st, e.2 ≤ 2) → (∀ e ∈ tab, e.2 ≤ 1000) → R (mixTold n st tab) M
theorem ok__law_told (T : Tx K mg A) : FnOk P w K mg base CX0 3 A.f__law_told A.d__law_told ["jug", "most"] (spD K S_told) := by
  refine fnD T.F__law_told sc__law_told (fun ds M R h => by obtain ⟨j, most, rfl, _⟩ := h; rfl) fun cdv B up z H E hr ds M R h => ?_
  obtain ⟨j, most, rfl, hm, m1, m2, hR⟩ := h
  refine ⟨_, (pss_cons (ps_asg (pe_tup (pa_cons (pe_op (wAdd K rfl) pe_int (pe_call (ok__law_pour T) (hr.mono (by decide)) (by rfl) T.g__law_pour T.F__law_pour.kp (b__law_pour T) .nil pass0 (pa_cons (pv 0) (pa_cons (pv 1) pa_nil)))) (pa_cons (pe_call (ok__law_pour T) (hr.mono (by decide)) (by rfl) T.g__law_pour T.F__law_pour.kp (b__law_pour T) .nil pass0 (pa_cons (pv 0) (pa_cons pe_int pa_nil))) (pa_cons (pe_call (ok__law_pour T) (hr.mono (by decide)) (by rfl) T.g__law_pour T.F__law_pour.kp (b__law_pour T) .nil pass0 (pa_cons (pv 0) (pa_cons pe_int pa_nil))) pa_nil)))) (wTupG K rfl (pg_tup rfl (pgs_cons (pg_name (i := 2) sc__law_told.nd rfl (.inr rfl)) (pgs_cons (pg_name (i := 3) sc__law_told.nd rfl (.inr rfl)) (pgs_cons (pg_name (i := 4) sc__law_told.nd rfl (.inr rfl)) pgs_nil)))))) (pss_cons (ps_set (i := 5) sc__law_told.nd rfl (.inl rfl) (pe_op (wAdd K rfl) pe_int (pe_call (ok__law_pour T) (hr.mono (by decide)) (by rfl) T.g__law_pour T.F__law_pour.kp (b__law_pour T) .nil pass0 (pa_cons (pv 0) (pa_cons pe_int pa_nil))))) (pss_cons (ps_set (i := 6) sc__law_told.nd rfl (.inl rfl) (pe_callTy (wTupOf K rfl) (by rfl) T.n_tuple (by decide +kernel) (pa_cons (pe_lc (own := [("k", 7)]) rfl sc__law_told.nd (pi_range1 rfl T.n_range (pa_cons (pv 5) pa_nil)) (blkOk_by (own := [("k", 7)]) (N := ["jug", "most", "n", "c", "way", "d", "starts_here", "k", "top", "pair", "table_here", "a", "b"]) (sc := defScope s__law_told) (by decide +kernel)) (fun _ _ _ _ _ => (pg_name (i := 7) sc__law_told.nd rfl (.inl rfl))) (fun _ _ _ _ _ => pts_nil) (fun _ _ _ _ _ => (pe_tup (pa_cons (pe_call (ok__law_pour T) (hr.mono (by decide)) (by rfl) T.g__law_pour T.F__law_pour.kp (b__law_pour T) .nil pass0 (pa_cons (pv 0) (pa_cons (pv 2) pa_nil))) (pa_cons (pe_call (ok__law_pour T) (hr.mono (by decide)) (by rfl) T.g__law_pour T.F__law_pour.kp (b__law_pour T) .nil pass0 (pa_cons (pv 0) (pa_cons pe_int pa_nil))) pa_nil))))) pa_nil))) (pss_cons (ps_if (pt_cmpR op_gt (pv 4) pe_int (nomark _)) (pss_cons (ps_set (i := 8) sc__law_told.nd rfl (.inr rfl) (pe_call (ok__law_one T) (hr.mono (by decide)) (by rfl) T.g__law_one T.F__law_one.kp (b__law_one T) .nil pass0 (pa_cons (pv 0) (pa_cons (pe_lst (pa_cons pe_int (pa_cons pe_int (pa_cons pe_int pa_nil)))) pa_nil)))) (pss_one (ps_ret (pe_tup (pa_cons (pv 2) (pa_cons (pv 6) (pa_cons (pe_callTy (wTupOf K rfl) (by rfl) T.n_tuple (by decide +kernel) (pa_cons (pe_lc (own := [("pair", 9)]) rfl sc__law_told.nd (wList K rfl (pe_call (ok__law_pairs T) (hr.mono (by decide)) (by rfl) T.g__law_pairs T.F__law_pairs.kp (b__law_pairs T) .nil pass0 (pa_cons (pv 2) pa_nil))) (blkOk_by (own := [("pair", 9)]) (N := ["jug", "most", "n", "c", "way", "d", "starts_here", "k", "top", "pair", "table_here", "a", "b"]) (sc := defScope s__law_told) (by decide +kernel)) (fun _ _ _ _ _ => (pg_name (i := 9) sc__law_told.nd rfl (.inl rfl))) (fun _ _ _ _ _ => pts_nil) (fun _ _ _ _ _ => (pe_tup (pa_cons (pe_call (ok__law_pour T) (hr.mono (by decide)) (by rfl) T.g__law_pour T.F__law_pour.kp (b__law_pour T) .nil pass0 (pa_cons (pv 0) (pa_cons (pv 2) pa_nil))) (pa_cons (pe_call (ok__law_pour T) (hr.mono (by decide)) (by rfl) T.g__law_pour T.F__law_pour.kp (b__law_pour T) .nil pass0 (pa_cons (pv 0) (pa_cons (pv 8) pa_nil))) pa_nil))))) pa_nil)) pa_nil))))))) pss_nil) (pss_cons (ps_setLc (i := 10) (own := [("a", 11), ("b", 12)]) (g := (gTup K 2 (gCons (gName 11) (gCons (gName 12) gNil)))) rfl sc__law_told.nd rfl rfl (sw_true rfl rfl rfl (by decide +kernel)) (wList K rfl (pe_call (ok__law_pairs T) (hr.mono (by decide)) (by rfl) T.g__law_pairs T.F__law_pairs.kp (b__law_pairs T) .nil pass0 (pa_cons (pv 2) pa_nil))) (blkOk_by (own := [("a", 11), ("b", 12)]) (N := ["jug", "most", "n", "c", "way", "d", "starts_here", "k", "top", "pair", "table_here", "a", "b"]) (sc := defScope s__law_told) (by decide +kernel)) (fun _ _ _ _ _ => (wTupG K rfl (pg_tup rfl (pgs_cons (pg_name (i := 11) sc__law_told.nd rfl (.inl rfl)) (pgs_cons (pg_name (i := 12) sc__law_told.nd rfl (.inl rfl)) pgs_nil))))) (fun _ _ _ _ _ => pts_nil) (fun _ _ _ _ _ => (pe_call (ok__law_plain_entry T) (hr.mono (by decide)) (by rfl) T.g__law_plain_entry T.F__law_plain_entry.kp (b__law_plain_entry T) .nil pass0 (pa_cons (pv 4) (pa_cons (pv 2) (pa_cons (pv 11) (pa_cons (pv 12) (pa_cons (pv 3) pa_nil)))))))) (pss_cons (ps_if (pt_cmpR (wEq K rfl hr) (pe_call (ok__law_pour T) (hr.mono (by decide)) (by rfl) T.g__law_pour T.F__law_pour.kp (b__law_pour T) .nil pass0 (pa_cons (pv 0) (pa_cons pe_int pa_nil))) pe_int (nomark _)) (pss_one (ps_asg (pe_tup (pa_cons (pe_call (ok__law_pour T) (hr.mono (by decide)) (by rfl) T.g__law_pour T.F__law_pour.kp (b__law_pour T) .nil pass0 (pa_cons (pv 0) (pa_cons (pv 2) pa_nil))) (pa_cons (pe_call (ok__law_pour T) (hr.mono (by decide)) (by rfl) T.g__law_pour T.F__law_pour.kp (b__law_pour T) .nil pass0 (pa_cons (pv 0) (pa_cons pe_int pa_nil))) pa_nil))) (pg_sub (pv 10) (pe_call (ok__law_pour T) (hr.mono (by decide)) (by rfl) T.g__law_pour T.F__law_pour.kp (b__law_pour T) .nil pass0 (pa_cons (pv 0) (pa_cons (pe_callB (wLen K rfl) (by rfl) T.n_len PySem.boot_len (pa_cons (pv 10) pa_nil)) pa_nil))) set_list))) pss_nil) (pss_one (ps_ret (pe_tup (pa_cons (pv 2) (pa_cons (pv 6) (pa_cons (pe_callTy (wTupOf K rfl) (by rfl) T.n_tuple (by decide +kernel) (pa_cons (pv 10) pa_nil)) pa_nil)))))))))))), ?_⟩
  refine xs_out ?_
  walk_at "go"
  refine w_pour hm (by omega) (by omega) fun n0 n01 n02 => ?_
  walk_at "go"
  refine w_pour hm (by omega) (by omega) fun c c1 c2 => ?_
  walk_at "go"
  refine w_pour hm (by omega) (by omega) fun way w1 w2 => ?_
  walk_at "go"
  refine w_pour hm (by omega) (by omega) fun d0 d1 d2 => ?_
  walk_at "go"
  generalize hn : 1 + n0 = n
  have tri := tri_nat (n := n) (by omega) (by omega)
  refine w_lcR (n := (1 + d0).toNat) (f := entD) (ok := fun e => (0 ≤ e.1 ∧ e.1 < n) ∧ 0 ≤ e.2 ∧ e.2 ≤ 2) (ei_rng1 (j := 1 + d0) ?_ (by omega)) (by omega) (bdw_name (by simp)) (fun i hi => bd_name ?_) (fun st hst hsk => ?_)
  · walk_at "go"
    exact ⟨rfl, rfl⟩
  · walk_at "go"
    refine w_pour hm (by omega) (by omega) fun a a1 a2 => ?_
    walk_at "go"
    refine w_pour hm (by omega) (by omega) fun b b1 b2 => ?_
    walk_at "go"
    exact ⟨rfl, (a, b), rfl, ⟨a1, a2⟩, b1, by omega⟩
  walk_at "go"
  · -- any table
    refine w_one hm (by decide) (by decide) fun t ht => ?_
    obtain ⟨t, rfl, t1, t2⟩ : ∃ i : Int, t = .int i ∧ 1 ≤ i ∧ i ≤ 3 := by
      rcases List.mem_cons.mp ht with rfl | ht
      · exact ⟨1, rfl, by omega, by omega⟩
      rcases List.mem_cons.mp ht with rfl | ht
      · exact ⟨2, rfl, by omega, by omega⟩
      rcases List.mem_cons.mp ht with rfl | ht
      · exact ⟨3, rfl, by omega, by omega⟩
      · exact absurd ht (List.not_mem_nil)
    walk_at "go"
    have hpl := pairsN_len n.toNat (by omega)
    refine w_lcR (n := ((pairsN n.toNat).map pairI).length) (f := entD) (ok := fun e => (0 ≤ e.1 ∧ e.1 < n) ∧ 0 ≤ e.2 ∧ e.2 ≤ 2) (ei_lst ?_) (by rw [List.length_map]; omega) (bdw_name (by simp)) (fun i hi => bd_name ?_) (fun tab htb htk => ?_)
    · walk_at "go"
      exact ⟨rfl, rfl⟩
    · walk_at "go"
      refine w_pour hm (by omega) (by omega) fun a a1 a2 => ?_
      walk_at "go"
      refine w_pour hm (by omega) (by omega) fun b b1 b2 => ?_
      walk_at "go"
      exact ⟨rfl, (a, b), rfl, ⟨a1, a2⟩, b1, by omega⟩
    walk_at "go"
    refine ⟨[], M, rfl, hR n st tab ⟨by omega, by omega, by omega, by omega, fun e he => ?_, ?_, fun e he => ?_⟩ (by omega) (fun e he => (hsk e he).2.2) fun e he => ?_⟩
    · have := hsk e he; exact ⟨this.1, by omega, by omega⟩
    · rw [htb, List.length_map, hpl, tri.1]
    · have := htk e he; exact ⟨this.1, by omega, by omega⟩
    · have := htk e he; omega
  · have hpl := pairsN_len n.toNat (by omega)
    have tp : 1 ≤ n.toNat * (n.toNat + 1) / 2 := by
      have : ∀ k : Nat, k < 9 → 1 ≤ k → 1 ≤ k * (k + 1) / 2 := by decide
      exact this _ (by omega) (by omega)
    walk_at "go"
    refine w_lcRC (n := ((pairsN n.toNat).map pairI).length) (f := entD) (ok := fun e => (0 ≤ e.1 ∧ e.1 < n) ∧ 0 ≤ e.2 ∧ e.2 ≤ 1000) (ei_lst ?_) (by rw [List.length_map]; omega) (bdw_tup (bdws_name (by simp) (bdws_name (by simp) bdws_nil))) (fun i hi => ?_) (fun D tab htb htk => ?_)
    · walk_at "go"
      exact ⟨rfl, rfl⟩
    · rw [List.length_map] at hi
      have e : (pairsN n.toNat)[i]? = some (pairsN n.toNat)[i] := List.getElem?_eq_getElem hi
      rw [nth_of (show ((pairsN n.toNat).map pairI)[i]? = some (pairI (pairsN n.toNat)[i]) by rw [List.getElem?_map, e]; rfl)]
      have hm2 := pairsN_mem (List.getElem_mem hi)
      generalize (pairsN n.toNat)[i] = x at hm2 ⊢
      obtain ⟨x, y⟩ := x
      refine bd_tup (bds_nm (bds_nm (bds_nil ?_))) rfl
      walk_at "go"
      refine ⟨way, n, x, y, c, rfl, by omega, by omega, ⟨hm2.1.1, by have : x < n.toNat := hm2.1.2; omega⟩, ⟨hm2.2.1, by have : y < n.toNat := hm2.2.2; omega⟩, by omega, fun e he => ?_⟩
      exact ⟨rfl, e, rfl, he⟩
    rw [List.length_map] at htb
    have hm1 : (j, jugO) ∈ ((D, MO.lst (tab.map entD)) :: M) := List.mem_cons_of_mem _ hm
    walk_at "go"
    refine w_pour hm1 (by omega) (by omega) fun p p1 p2 => ?_
    walk_at "go"
    · refine w_pour hm1 (by omega) (by omega) fun a a1 a2 => ?_
      walk_at "go"
      refine w_pour hm1 (by omega) (by omega) fun b b1 b2 => ?_
      walk_at "go"
      refine bd_subL (i := 0) (a := D) (xs := tab.map entD) ?_
      walk_at "go"
      refine ⟨rfl, ?_⟩
      walk_at "go"
      refine w_pour hm1 (by simp; omega) (by simp; omega) fun q q1 q2 => ?_
      obtain ⟨q, rfl⟩ : ∃ k : Nat, q = (k : Int) := ⟨q.toNat, by omega⟩
      refine ⟨q, q, rfl, rfl, by unfold ixN; simp; simp at q2; omega, ?_⟩
      have hs : (tab.map entD).set q (.tup [.int a, .int b]) = (tab.set q (a, b)).map entD := (List.map_set (f := entD) (l := tab) (i := q) (a := (a, b))).symm
      rw [hs]
      walk_at "go"
      refine ⟨[(D, .lst ((tab.set q (a, b)).map entD))], M, rfl, hR n st (tab.set q (a, b)) ⟨by omega, by omega, by omega, by omega, fun e he => ?_, ?_, fun e he => ?_⟩ (by omega) (fun e he => (hsk e he).2.2) fun e he => ?_⟩
      · have := hsk e he; exact ⟨this.1, by omega, by omega⟩
      · rw [List.length_set, htb, hpl, tri.1]
      · rcases List.mem_or_eq_of_mem_set he with he | rfl
        · have := htk e he; exact ⟨this.1, by omega, by omega⟩
        · exact ⟨⟨a1, a2⟩, b1, by show b ≤ 1000000; omega⟩
      · rcases List.mem_or_eq_of_mem_set he with he | rfl
        · exact (htk e he).2.2
        · show b ≤ 1000; omega
    · refine ⟨[(D, .lst (tab.map entD))], M, rfl, hR n st tab ⟨by omega, by omega, by omega, by omega, fun e he => ?_, ?_, fun e he => ?_⟩ (by omega) (fun e he => (hsk e he).2.2) fun e he => ?_⟩
      · have := hsk e he; exact ⟨this.1, by omega, by omega⟩
      · rw [htb, hpl, tri.1]
      · have := htk e he; exact ⟨this.1, by omega, by omega⟩
      · exact (htk e he).2.2

/-! ### the law's own meeting, by place -/
theorem atI_met {n : Int} {st tab : List (Int × Int)} {a b : Int} (h : MixOk n st tab) (ha : 0 ≤ a ∧ a < n) (hb : 0 ≤ b ∧ b < n) : atI (tab.map entD) ((if b < a then b else a) * n - (if b < a then b else a) * ((if b < a then b else a) - 1) / 2 + (if b > a then b else a) - (if b < a then b else a)) = some (entD (metI n tab a b)) := by
  have n2 := h.n2
  have e := plc_int n.toNat (by omega) a.toNat (by omega) b.toNat (by omega)
  rw [show ((n.toNat : Nat) : Int) = n by omega, show ((a.toNat : Nat) : Int) = a by omega, show ((b.toNat : Nat) : Int) = b by omega] at e
  rw [e]
  exact atI_plc h ha hb
local macro_rules | `(tactic| walk_at "ix") => `(tactic| ((with_reducible show atI (List.map entD _) (HSub.hSub (HAdd.hAdd _ _) _) = _); exact atI_met (by assumption) (by assumption) (by assumption)))
def S_law_met : SpecD := fun ds M R => ∃ (n : Int) (st tab : List (Int × Int)) (a b : Int), ds = [mixTold n st tab, .int a, .int b] ∧ MixOk n st tab ∧ (0 ≤ a ∧ a < n) ∧ (0 ≤ b ∧ b < n) ∧ R (entD (metI n tab a b)) M
theorem ok__law_met (T : Tx K mg A) : FnOk P w K mg base CX0 1 A.f__law_met A.d__law_met ["told", "a", "b"] (spD K S_law_met) := by
  refine fnD T.F__law_met sc__law_met (fun ds M R h => by obtain ⟨n, st, tab, a, b, rfl, _⟩ := h; rfl) fun cdv B up z H E hr ds M R h => ?_
  obtain ⟨n, st, tab, a, b, rfl, hw, ha, hb, hR⟩ := h
  have n1 := hw.n1; have n2 := hw.n2
  have s1 : 0 ≤ (if b < a then b else a) ∧ (if b < a then b else a) < 8 := by split <;> omega
  refine ⟨_, (pss_cons (ps_par (i := 3) (j := 4) rfl sc__law_met.nd rfl rfl (by decide) rfl rfl (pa_cons (pe_callB (wMin2 rfl) (by rfl) T.n_min (by decide +kernel) (pa_cons (pv 1) (pa_cons (pv 2) pa_nil))) (pa_cons (pe_callB (wMax2 rfl) (by rfl) T.n_max (by decide +kernel) (pa_cons (pv 1) (pa_cons (pv 2) pa_nil))) pa_nil)) rfl) (pss_one (ps_ret (pe_ix (wIx K rfl) (pe_ix (wIx K rfl) (pv 0) pe_int (fun _ _ => rfl)) (pe_op op_sub (pe_op (wAdd K rfl) (pe_op op_sub (pe_op (wMul K rfl) (pv 3) (pe_ix (wIx K rfl) (pv 0) pe_int (fun _ _ => rfl))) (pe_op op_fdiv (pe_op (wMul K rfl) (pv 3) (pe_op op_sub (pv 3) pe_int)) pe_int)) (pv 4)) (pv 3)) (fun _ _ => rfl))))), ?_⟩
  walk_at "go"
  exact hR
theorem w_law_met {M : Ms} {R : DV → Ms → Prop} {n : Int} {st tab : List (Int × Int)} {a b : Int} (hw : MixOk n st tab) (ha : 0 ≤ a ∧ a < n) (hb : 0 ≤ b ∧ b < n) (k : R (entD (metI n tab a b)) M) : S_law_met [mixTold n st tab, .int a, .int b] M R := ⟨n, st, tab, a, b, rfl, hw, ha, hb, k⟩
local macro_rules | `(tactic| walk_at "spc") => `(tactic| ((with_reducible refine' w_law_met ?aa ?bb ?cc ?_); (case' aa => try assumption); (case' bb => first | assumption | omega | skip); (case' cc => first | assumption | omega | skip)))

/-! ### the law's own kinds that arise -/
def S_law_arising : SpecD := fun ds M R => ∃ (n : Int) (st tab : List (Int × Int)), ds = [mixTold n st tab] ∧ MixOk n st tab ∧ n ≤ 6 ∧ ∀ ks, Kinds n st tab ks → R (.lst (ks.map .int)) M
def Closed (n : Int) (tab : List (Int × Int)) (f : List Int) : Prop := ∀ a ∈ f, ∀ b ∈ f, (metI n tab a b).1 ∈ f
theorem closed_in {n : Int} {st tab : List (Int × Int)} {f : List Int} (hst : ∀ e ∈ st, e.1 ∈ f) (hcl : Closed n tab f) {k : Int} (h : Aris n st tab k) : k ∈ f := by
  induction h with
  | start he => exact hst _ he
  | meet _ _ ia ib => exact hcl _ ia _ ib
theorem ok__law_arising (T : Tx K mg A) : FnOk P w K mg base CX0 2 A.f__law_arising A.d__law_arising ["told"] (spD K S_law_arising) := by
  refine fnD T.F__law_arising sc__law_arising (fun ds M R h => by obtain ⟨n, st, tab, rfl, _⟩ := h; rfl) fun cdv B up z H E hr ds M R h => ?_
  obtain ⟨n, st, tab, rfl, hw, n6, hR⟩ := h
  have n1 := hw.n1; have n2 := hw.n2; have s2 := hw.s2
  refine ⟨_, (pss_cons (ps_set (i := 1) sc__law_arising.nd rfl (.inl rfl) (pe_callB (wSortedSet rfl) (by rfl) T.n_sorted (by decide +kernel) (pa_cons (pe_callTy (wSetI K rfl rfl) (by rfl) T.n_set (by decide +kernel) (pa_cons (pe_lc (own := [("kind", 2), ("gift", 3)]) (g := (gTup K 2 (gCons (gName 2) (gCons (gName 3) gNil)))) rfl sc__law_arising.nd (wTup K rfl (pe_ix (wIx K rfl) (pv 0) pe_int (fun _ _ => rfl))) (blkOk_by (own := [("kind", 2), ("gift", 3)]) (N := ["told", "found", "kind", "gift", "again", "fresh", "a", "b"]) (sc := defScope s__law_arising) (by decide +kernel)) (fun _ _ _ _ _ => (wTupG K rfl (pg_tup rfl (pgs_cons (pg_name (i := 2) sc__law_arising.nd rfl (.inl rfl)) (pgs_cons (pg_name (i := 3) sc__law_arising.nd rfl (.inl rfl)) pgs_nil))))) (fun _ _ _ _ _ => pts_nil) (fun _ _ _ _ _ => (pv 2))) pa_nil)) pa_nil))) (pss_cons (ps_for PassesOwn.never rfl (pi_range1 rfl T.n_range (pa_cons (pe_ix (wIx K rfl) (pv 0) pe_int (fun _ _ => rfl)) pa_nil)) (pg_name (i := 4) sc__law_arising.nd rfl (.inl rfl)) (pss_cons (ps_set (i := 5) sc__law_arising.nd rfl (.inl rfl) (pe_callTy (wListOf K rfl) (by rfl) T.n_list (by decide +kernel) (pa_cons (pv 1) pa_nil))) (pss_cons (ps_for PassesOwn.never rfl (wList K rfl (pv 1)) (pg_name (i := 6) sc__law_arising.nd rfl (.inr rfl)) (pss_one (ps_set (i := 5) sc__law_arising.nd rfl (.inl rfl) (pe_op (wAdd K rfl) (pv 5) (pe_lc (own := [("b", 7)]) rfl sc__law_arising.nd (wList K rfl (pv 1)) (blkOk_by (own := [("b", 7)]) (N := ["told", "found", "kind", "gift", "again", "fresh", "a", "b"]) (sc := defScope s__law_arising) (by decide +kernel)) (fun _ _ _ _ _ => (pg_name (i := 7) sc__law_arising.nd rfl (.inl rfl))) (fun _ _ _ _ _ => pts_nil) (fun _ _ _ _ _ => (pe_ix (wIx K rfl) (pe_call (ok__law_met T) (hr.mono (by decide)) (by rfl) T.g__law_met T.F__law_met.kp (b__law_met T) .nil pass0 (pa_cons (pv 0) (pa_cons (pv 6) (pa_cons (pv 7) pa_nil)))) pe_int (fun _ _ => rfl)))))))) (pss_one (ps_set (i := 1) sc__law_arising.nd rfl (.inl rfl) (pe_callB (wSortedSet rfl) (by rfl) T.n_sorted (by decide +kernel) (pa_cons (pe_callTy (wSetI K rfl rfl) (by rfl) T.n_set (by decide +kernel) (pa_cons (pv 5) pa_nil)) pa_nil))))))) (pss_one (ps_ret (pv 1))))), ?_⟩
  walk_at "go"
  refine w_lcTp (xs := st) (f := entD) (fun e : Int × Int => .int e.1) (by omega) ?_ (bdw_tup (bdws_name (by simp) (bdws_name (by simp) bdws_nil))) (fun e he => ?_) ?_
  · walk_at "go"
    exact ⟨rfl, rfl⟩
  · walk_at "go"
    exact ⟨rfl, rfl⟩
  refine ⟨st.map (·.1), by rw [List.map_map]; rfl, by rw [List.length_map]; omega, fun f0 hf0 hm0 => ?_⟩
  have a0 : ∀ k ∈ f0, Aris n st tab k := fun k hk => by
    obtain ⟨e, he, rfl⟩ := List.mem_map.mp ((hm0 k).mp hk)
    exact .start he
  have c0 : ∀ e ∈ st, e.1 ∈ f0 := fun e he => (hm0 _).mpr (List.mem_map.mpr ⟨e, he, rfl⟩)
  walk_at "go"
  refine w_for1 n.toNat (by omega) ?_ (fun i ρ => ∃ (f : List Int) (a b c d e g : Option DV), ρ = [some (mixTold n st tab), some (.lst (f.map .int)), a, b, c, d, e, g] ∧ f.Pairwise (· < ·) ∧ (∀ k ∈ f, Aris n st tab k) ∧ (∀ e ∈ st, e.1 ∈ f) ∧ (Closed n tab f ∨ i < f.length)) ⟨f0, none, none, none, none, none, none, rfl, hf0, a0, c0, ?_⟩ (fun i ρ' hi hinv => ?_) fun ρ' hinv => ?_
  · walk_at "go"
    exact w_rg1 (by omega)
  · exact .inr (List.length_pos_of_mem (c0 _ (List.getElem_mem (show 0 < st.length from hw.s1))))
  · obtain ⟨f, a, b, c, d, e, g, rfl, hasc, har, hst, hcl⟩ := hinv
    have hok : ∀ k ∈ f, 0 ≤ k ∧ k < n := fun k hk => (har k hk).ok hw
    have hlen := (asc_len hasc hok).resolve_right fun h => by omega
    walk_at "go"
    refine w_forL (ds := f.map .int) ?_ (fun j ρ' => ∃ (gs : List Int) (x y : Option DV), ρ' = [some (mixTold n st tab), some (.lst (f.map .int)), a, b, some (.int i), some (.lst (gs.map .int)), x, y] ∧ gs.length ≤ f.length + j * f.length ∧ (∀ k ∈ gs, Aris n st tab k) ∧ (∀ k ∈ f, k ∈ gs) ∧ ∀ q one, q < j → f[q]? = some one → ∀ o ∈ f, (metI n tab one o).1 ∈ gs)
      ⟨f, _, _, rfl, by omega, har, fun k h => h, fun q one h => absurd h (Nat.not_lt_zero _)⟩ (fun j ρ' d hd hinv => ?_) fun ρ' hinv => ?_
    · walk_at "go"
      exact ⟨rfl, rfl⟩
    · obtain ⟨gs, x, y, rfl, glen, gar, gsub, gcl⟩ := hinv
      obtain ⟨one, hone, rfl⟩ : ∃ one, f[j]? = some one ∧ d = .int one := by
        rw [List.getElem?_map] at hd
        cases e : f[j]? with
        | none => rw [e] at hd; cases hd
        | some v => rw [e] at hd; cases hd; exact ⟨v, rfl, rfl⟩
      have hj := (List.getElem?_eq_some_iff.mp hone).1
      have hone2 := hok _ (List.mem_of_getElem? hone)
      have hjf : j * f.length ≤ 6 * f.length := Nat.mul_le_mul_right _ (by omega)
      walk_at "go"
      refine w_lcLp (xs := f) (f := DV.int) (fun o => .int (metI n tab one o).1) (by omega) ?_ (bdw_name (by simp)) (fun o ho => ?_) ?_
      · walk_at "go"
        exact ⟨rfl, rfl⟩
      · have ho2 := hok o ho
        walk_at "go"
        exact ⟨rfl, rfl⟩
      have e1 : f.map (fun o => DV.int (metI n tab one o).1) = (f.map fun o => (metI n tab one o).1).map DV.int := by rw [List.map_map]; rfl
      rw [e1]
      walk_at "go"
      refine ⟨rfl, gs ++ f.map (fun o => (metI n tab one o).1), _, _, by rw [List.map_append]; rfl, by rw [List.length_append, List.length_map, Nat.succ_mul]; omega, fun k hk => ?_, fun k hk => List.mem_append_left _ (gsub k hk), fun q o hq ho o2 ho2 => ?_⟩
      · rcases List.mem_append.mp hk with h | h
        · exact gar k h
        · obtain ⟨o, ho, rfl⟩ := List.mem_map.mp h
          exact .meet (har _ (List.mem_of_getElem? hone)) (har o ho)
      · by_cases e : q = j
        · subst e
          rw [hone] at ho
          cases ho
          exact List.mem_append_right _ (List.mem_map.mpr ⟨o2, ho2, rfl⟩)
        · exact List.mem_append_left _ (gcl q o (by omega) ho o2 ho2)
    · obtain ⟨gs, x, y, rfl, glen, gar, gsub, gcl⟩ := hinv
      rw [List.length_map] at glen gcl
      have hff : f.length * f.length ≤ 6 * f.length := Nat.mul_le_mul_right _ (by omega)
      walk_at "go"
      refine ⟨gs, rfl, by omega, fun ms hms hmem => ?_⟩
      walk_at "go"
      have mar : ∀ k ∈ ms, Aris n st tab k := fun k hk => gar k ((hmem k).mp hk)
      have msub : ∀ k ∈ f, k ∈ ms := fun k hk => (hmem k).mpr (gsub k hk)
      have mcl : ∀ a ∈ f, ∀ b ∈ f, (metI n tab a b).1 ∈ ms := fun a ha b hb => by
        obtain ⟨q, hq⟩ := List.mem_iff_getElem?.mp ha
        exact (hmem _).mpr (gcl q a (List.getElem?_eq_some_iff.mp hq).1 hq b hb)
      have hs := asc_sub hasc hms msub
      refine ⟨rfl, ms, _, _, _, _, _, _, rfl, hms, mar, fun e he => msub _ (hst e he), ?_⟩
      by_cases e : f.length = ms.length
      · have hfm := hs.2 e
        subst hfm
        exact .inl mcl
      · rcases hcl with hcl | hcl
        · left
          have hfm : ∀ k ∈ ms, k ∈ f := fun k hk => by
            have := (hmem k).mp hk
            exact closed_in hst hcl (gar k this)
          exact absurd (congrArg List.length (asc_unique hasc hms fun k => ⟨msub k, hfm k⟩)) e
        · right; omega
  · obtain ⟨f, a, b, c, d, e, g, rfl, hasc, har, hst, hcl⟩ := hinv
    have hok : ∀ k ∈ f, 0 ≤ k ∧ k < n := fun k hk => (har k hk).ok hw
    have hlen := (asc_len hasc hok).resolve_right fun h => by omega
    have hcl := hcl.resolve_right (by omega)
    walk_at "go"
    refine hR f ⟨hasc, fun k => ⟨har k, fun hk => ?_⟩⟩
    induction hk with
    | start he => exact hst _ he
    | meet _ _ ia ib => exact hcl _ ia _ ib

/-! ### both ways; gifts along -/
def bwL (n : Int) (tab : List (Int × Int)) (a b c : Int) : Int × Int := ((metI n tab (metI n tab a b).1 c).1, (metI n tab a b).2 + (metI n tab (metI n tab a b).1 c).2)
def bwR (n : Int) (tab : List (Int × Int)) (a b c : Int) : Int × Int := ((metI n tab a (metI n tab b c).1).1, (metI n tab b c).2 + (metI n tab a (metI n tab b c).1).2)
def In (n a : Int) : Prop := 0 ≤ a ∧ a < n
theorem MixOk.kd {n : Int} {st tab : List (Int × Int)} (h : MixOk n st tab) {a b : Int} (ha : 0 ≤ a ∧ a < n) (hb : 0 ≤ b ∧ b < n) : 0 ≤ (metI n tab a b).1 ∧ (metI n tab a b).1 < n := (h.met ha hb).1
theorem MixOk.bwL {n : Int} {st tab : List (Int × Int)} (h : MixOk n st tab) {a b c : Int} (ha : 0 ≤ a ∧ a < n) (hb : 0 ≤ b ∧ b < n) (hc : 0 ≤ c ∧ c < n) : 0 ≤ (bwL n tab a b c).1 ∧ (bwL n tab a b c).1 < n := h.kd (h.kd ha hb) hc
theorem MixOk.bwR {n : Int} {st tab : List (Int × Int)} (h : MixOk n st tab) {a b c : Int} (ha : 0 ≤ a ∧ a < n) (hb : 0 ≤ b ∧ b < n) (hc : 0 ≤ c ∧ c < n) : 0 ≤ (bwR n tab a b c).1 ∧ (bwR n tab a b c).1 < n := h.kd ha (h.kd hb hc)
def S_both_ways (A : Ad) : SpecD := fun ds M R => ∃ (n : Int) (st tab : List (Int × Int)) (ks : List Int) (a b c : Int), ds = [mixD A n st tab ks, .int a, .int b, .int c] ∧ MixOk n st tab ∧ (0 ≤ a ∧ a < n) ∧ (0 ≤ b ∧ b < n) ∧ (0 ≤ c ∧ c < n) ∧ R (.tup [entD (bwL n tab a b c), entD (bwR n tab a b c)]) M
theorem ok_both_ways (T : Tx K mg A) : FnOk P w K mg base CX0 3 A.f_both_ways A.d_both_ways ["mixture", "one", "other", "last"] (spD K (S_both_ways A)) := by
  refine fnD T.F_both_ways sc_both_ways (fun ds M R h => by obtain ⟨n, st, tab, ks, a, b, c, rfl, _⟩ := h; rfl) fun cdv B up z H E hr ds M R h => ?_
  obtain ⟨n, st, tab, ks, a, b, c, rfl, hw, ha, hb, hc, hR⟩ := h
  have h1 := hw.kd ha hb
  have h2 := hw.kd hb hc
  refine ⟨_, (pss_cons (ps_asg (pe_meth (pv 0) T.cl_Mixture T.m_Mixture_met (ok_Mixture_met T) (hr.mono (by decide)) (b_Mixture_met T) .nil pass0 (pa_cons (pv 1) (pa_cons (pv 2) pa_nil))) (wTupG K rfl (pg_tup rfl (pgs_cons (pg_name (i := 4) sc_both_ways.nd rfl (.inl rfl)) (pgs_cons (pg_name (i := 5) sc_both_ways.nd rfl (.inl rfl)) pgs_nil))))) (pss_cons (ps_asg (pe_meth (pv 0) T.cl_Mixture T.m_Mixture_met (ok_Mixture_met T) (hr.mono (by decide)) (b_Mixture_met T) .nil pass0 (pa_cons (pv 4) (pa_cons (pv 3) pa_nil))) (wTupG K rfl (pg_tup rfl (pgs_cons (pg_name (i := 6) sc_both_ways.nd rfl (.inl rfl)) (pgs_cons (pg_name (i := 7) sc_both_ways.nd rfl (.inl rfl)) pgs_nil))))) (pss_cons (ps_asg (pe_meth (pv 0) T.cl_Mixture T.m_Mixture_met (ok_Mixture_met T) (hr.mono (by decide)) (b_Mixture_met T) .nil pass0 (pa_cons (pv 2) (pa_cons (pv 3) pa_nil))) (wTupG K rfl (pg_tup rfl (pgs_cons (pg_name (i := 8) sc_both_ways.nd rfl (.inl rfl)) (pgs_cons (pg_name (i := 9) sc_both_ways.nd rfl (.inl rfl)) pgs_nil))))) (pss_cons (ps_asg (pe_meth (pv 0) T.cl_Mixture T.m_Mixture_met (ok_Mixture_met T) (hr.mono (by decide)) (b_Mixture_met T) .nil pass0 (pa_cons (pv 1) (pa_cons (pv 8) pa_nil))) (wTupG K rfl (pg_tup rfl (pgs_cons (pg_name (i := 10) sc_both_ways.nd rfl (.inl rfl)) (pgs_cons (pg_name (i := 11) sc_both_ways.nd rfl (.inl rfl)) pgs_nil))))) (pss_one (ps_ret (pe_tup (pa_cons (pe_tup (pa_cons (pv 6) (pa_cons (pe_op (wAdd K rfl) (pv 5) (pv 7)) pa_nil))) (pa_cons (pe_tup (pa_cons (pv 10) (pa_cons (pe_op (wAdd K rfl) (pv 9) (pv 11)) pa_nil))) pa_nil))))))))), ?_⟩
  walk_at "go"
  exact hR
theorem w_both_ways {M : Ms} {R : DV → Ms → Prop} {n : Int} {st tab : List (Int × Int)} {ks : List Int} {a b c : Int} (hw : MixOk n st tab) (ha : 0 ≤ a ∧ a < n) (hb : 0 ≤ b ∧ b < n) (hc : 0 ≤ c ∧ c < n) (k : R (.tup [entD (bwL n tab a b c), entD (bwR n tab a b c)]) M) : S_both_ways A [mixD A n st tab ks, .int a, .int b, .int c] M R := ⟨n, st, tab, ks, a, b, c, rfl, hw, ha, hb, hc, k⟩
def along (n : Int) (tab : List (Int × Int)) : Int → List Int → Int
  | _, [] => 0
  | k, m :: r => (metI n tab k m).2 + along n tab (metI n tab k m).1 r
def S_gifts_along (A : Ad) : SpecD := fun ds M R => ∃ (n : Int) (st tab : List (Int × Int)) (ks : List Int) (k : Int) (fs : List Int), ds = [mixD A n st tab ks, .int k, .tup (fs.map .int)] ∧ MixOk n st tab ∧ (0 ≤ k ∧ k < n) ∧ (∀ f ∈ fs, 0 ≤ f ∧ f < n) ∧ R (.int (along n tab k fs)) M
theorem ok_gifts_along (T : Tx K mg A) : FnOk P w K mg base CX0 3 A.f_gifts_along A.d_gifts_along ["mixture", "kind", "further"] (spD K (S_gifts_along A)) := by
  refine fnD T.F_gifts_along sc_gifts_along (fun ds M R h => by obtain ⟨n, st, tab, ks, k, fs, rfl, _⟩ := h; rfl) fun cdv B up z H E hr ds M R h => ?_
  obtain ⟨n, st, tab, ks, k, fs, rfl, hw, hk, hf, hR⟩ := h
  refine ⟨_, (pss_cons (ps_set (i := 3) sc_gifts_along.nd rfl (.inl rfl) pe_int) (pss_cons (ps_for PassesOwn.never rfl (wTup K rfl (pv 2)) (pg_name (i := 4) sc_gifts_along.nd rfl (.inl rfl)) (pss_cons (ps_asg (pe_meth (pv 0) T.cl_Mixture T.m_Mixture_met (ok_Mixture_met T) (hr.mono (by decide)) (b_Mixture_met T) .nil pass0 (pa_cons (pv 1) (pa_cons (pv 4) pa_nil))) (wTupG K rfl (pg_tup rfl (pgs_cons (pg_name (i := 1) sc_gifts_along.nd rfl (.inl rfl)) (pgs_cons (pg_name (i := 5) sc_gifts_along.nd rfl (.inl rfl)) pgs_nil))))) (pss_one (ps_aug (i := 3) sc_gifts_along.nd rfl (.inl rfl) (pv 5) ip_add)))) (pss_one (ps_ret (pv 3))))), ?_⟩
  walk_at "go"
  refine w_forT (ds := fs.map .int) ?_ (fun i ρ => ∃ (x t : Int) (a b : Option DV), ρ = [some (mixD A n st tab ks), some (.int x), some (.tup (fs.map .int)), some (.int t), a, b] ∧ (0 ≤ x ∧ x < n) ∧ t + along n tab x (fs.drop i) = along n tab k fs) ⟨k, 0, none, none, rfl, hk, by rw [Int.zero_add]; rfl⟩ (fun i ρ' d hd hinv => ?_) fun ρ' hinv => ?_
  · walk_at "go"
    exact ⟨rfl, rfl⟩
  · obtain ⟨x, t, a, b, rfl, hx, hs⟩ := hinv
    obtain ⟨f, hf1, hf2, rfl⟩ := ints_get hd
    have hff := hf f hf2
    rw [drop_at hf1] at hs
    walk_at "go"
    refine ⟨rfl, _, _, _, _, rfl, hw.kd hx hff, ?_⟩
    rw [← hs]
    show _ = t + ((metI n tab x f).2 + along n tab (metI n tab x f).1 (fs.drop (i + 1)))
    omega
  · obtain ⟨x, t, a, b, rfl, hx, hs⟩ := hinv
    rw [List.length_map, List.drop_length] at hs
    have hs : t + 0 = _ := hs
    rw [← hs, Int.add_zero] at hR
    walk_at "go"
    exact hR
/-! the law's own -/
def S_law_both : SpecD := fun ds M R => ∃ (n : Int) (st tab : List (Int × Int)) (a b c : Int), ds = [mixTold n st tab, .int a, .int b, .int c] ∧ MixOk n st tab ∧ (0 ≤ a ∧ a < n) ∧ (0 ≤ b ∧ b < n) ∧ (0 ≤ c ∧ c < n) ∧ R (.tup [entD (bwL n tab a b c), entD (bwR n tab a b c)]) M
theorem ok__law_both_ways (T : Tx K mg A) : FnOk P w K mg base CX0 2 A.f__law_both_ways A.d__law_both_ways ["told", "a", "b", "c"] (spD K S_law_both) := by
  refine fnD T.F__law_both_ways sc__law_both_ways (fun ds M R h => by obtain ⟨n, st, tab, a, b, c, rfl, _⟩ := h; rfl) fun cdv B up z H E hr ds M R h => ?_
  obtain ⟨n, st, tab, a, b, c, rfl, hw, ha, hb, hc, hR⟩ := h
  have h1 := hw.kd ha hb
  have h2 := hw.kd hb hc
  refine ⟨_, (pss_cons (ps_asg (pe_call (ok__law_met T) (hr.mono (by decide)) (by rfl) T.g__law_met T.F__law_met.kp (b__law_met T) .nil pass0 (pa_cons (pv 0) (pa_cons (pv 1) (pa_cons (pv 2) pa_nil)))) (wTupG K rfl (pg_tup rfl (pgs_cons (pg_name (i := 4) sc__law_both_ways.nd rfl (.inl rfl)) (pgs_cons (pg_name (i := 5) sc__law_both_ways.nd rfl (.inl rfl)) pgs_nil))))) (pss_cons (ps_asg (pe_call (ok__law_met T) (hr.mono (by decide)) (by rfl) T.g__law_met T.F__law_met.kp (b__law_met T) .nil pass0 (pa_cons (pv 0) (pa_cons (pv 4) (pa_cons (pv 3) pa_nil)))) (wTupG K rfl (pg_tup rfl (pgs_cons (pg_name (i := 6) sc__law_both_ways.nd rfl (.inl rfl)) (pgs_cons (pg_name (i := 7) sc__law_both_ways.nd rfl (.inl rfl)) pgs_nil))))) (pss_cons (ps_asg (pe_call (ok__law_met T) (hr.mono (by decide)) (by rfl) T.g__law_met T.F__law_met.kp (b__law_met T) .nil pass0 (pa_cons (pv 0) (pa_cons (pv 2) (pa_cons (pv 3) pa_nil)))) (wTupG K rfl (pg_tup rfl (pgs_cons (pg_name (i := 8) sc__law_both_ways.nd rfl (.inl rfl)) (pgs_cons (pg_name (i := 9) sc__law_both_ways.nd rfl (.inl rfl)) pgs_nil))))) (pss_cons (ps_asg (pe_call (ok__law_met T) (hr.mono (by decide)) (by rfl) T.g__law_met T.F__law_met.kp (b__law_met T) .nil pass0 (pa_cons (pv 0) (pa_cons (pv 1) (pa_cons (pv 8) pa_nil)))) (wTupG K rfl (pg_tup rfl (pgs_cons (pg_name (i := 10) sc__law_both_ways.nd rfl (.inl rfl)) (pgs_cons (pg_name (i := 11) sc__law_both_ways.nd rfl (.inl rfl)) pgs_nil))))) (pss_one (ps_ret (pe_tup (pa_cons (pe_tup (pa_cons (pv 6) (pa_cons (pe_op (wAdd K rfl) (pv 5) (pv 7)) pa_nil))) (pa_cons (pe_tup (pa_cons (pv 10) (pa_cons (pe_op (wAdd K rfl) (pv 9) (pv 11)) pa_nil))) pa_nil))))))))), ?_⟩
  walk_at "go"
  exact hR
theorem w_law_both {M : Ms} {R : DV → Ms → Prop} {n : Int} {st tab : List (Int × Int)} {a b c : Int} (hw : MixOk n st tab) (ha : 0 ≤ a ∧ a < n) (hb : 0 ≤ b ∧ b < n) (hc : 0 ≤ c ∧ c < n) (k : R (.tup [entD (bwL n tab a b c), entD (bwR n tab a b c)]) M) : S_law_both [mixTold n st tab, .int a, .int b, .int c] M R := ⟨n, st, tab, a, b, c, rfl, hw, ha, hb, hc, k⟩
local macro_rules | `(tactic| walk_at "spc") => `(tactic| first
  | ((with_reducible refine' w_both_ways ?aa ?bb ?cc ?dd ?_); (case' aa => try assumption); (case' bb => first | assumption | omega | skip); (case' cc => first | assumption | omega | skip); (case' dd => first | assumption | omega | skip))
  | ((with_reducible refine' w_law_both ?aa ?bb ?cc ?dd ?_); (case' aa => try assumption); (case' bb => first | assumption | omega | skip); (case' cc => first | assumption | omega | skip); (case' dd => first | assumption | omega | skip)))
def S_law_sums : SpecD := fun ds M R => ∃ (n : Int) (st tab : List (Int × Int)) (a b c : Int) (fs : List Int), ds = [mixTold n st tab, .tup [.int a, .int b, .int c, .tup (fs.map .int)]] ∧ MixOk n st tab ∧ (0 ≤ a ∧ a < n) ∧ (0 ≤ b ∧ b < n) ∧ (0 ≤ c ∧ c < n) ∧ (∀ f ∈ fs, 0 ≤ f ∧ f < n) ∧ R (.tup [.int ((bwL n tab a b c).2 + along n tab (bwL n tab a b c).1 fs), .int ((bwR n tab a b c).2 + along n tab (bwR n tab a b c).1 fs)]) M
theorem ok__law_sums (T : Tx K mg A) : FnOk P w K mg base CX0 3 A.f__law_sums A.d__law_sums ["told", "found"] (spD K S_law_sums) := by
  refine fnD T.F__law_sums sc__law_sums (fun ds M R h => by obtain ⟨n, st, tab, a, b, c, fs, rfl, _⟩ := h; rfl) fun cdv B up z H E hr ds M R h => ?_
  obtain ⟨n, st, tab, a, b, c, fs, rfl, hw, ha, hb, hc, hf, hR⟩ := h
  refine ⟨_, (pss_cons (ps_asg (pv 1) (wTupG K rfl (pg_tup rfl (pgs_cons (pg_name (i := 2) sc__law_sums.nd rfl (.inl rfl)) (pgs_cons (pg_name (i := 3) sc__law_sums.nd rfl (.inl rfl)) (pgs_cons (pg_name (i := 4) sc__law_sums.nd rfl (.inl rfl)) (pgs_cons (pg_name (i := 5) sc__law_sums.nd rfl (.inl rfl)) pgs_nil))))))) (pss_cons (ps_asg (pe_call (ok__law_both_ways T) (hr.mono (by decide)) (by rfl) T.g__law_both_ways T.F__law_both_ways.kp (b__law_both_ways T) .nil pass0 (pa_cons (pv 0) (pa_cons (pv 2) (pa_cons (pv 3) (pa_cons (pv 4) pa_nil))))) (wTupG K rfl (pg_tup rfl (pgs_cons (wTupG K rfl (pg_tup rfl (pgs_cons (pg_name (i := 6) sc__law_sums.nd rfl (.inl rfl)) (pgs_cons (pg_name (i := 7) sc__law_sums.nd rfl (.inl rfl)) pgs_nil)))) (pgs_cons (wTupG K rfl (pg_tup rfl (pgs_cons (pg_name (i := 8) sc__law_sums.nd rfl (.inl rfl)) (pgs_cons (pg_name (i := 9) sc__law_sums.nd rfl (.inl rfl)) pgs_nil)))) pgs_nil))))) (pss_cons (ps_for PassesOwn.never rfl (wTup K rfl (pv 5)) (pg_name (i := 10) sc__law_sums.nd rfl (.inl rfl)) (pss_cons (ps_asg (pe_call (ok__law_met T) (hr.mono (by decide)) (by rfl) T.g__law_met T.F__law_met.kp (b__law_met T) .nil pass0 (pa_cons (pv 0) (pa_cons (pv 6) (pa_cons (pv 10) pa_nil)))) (wTupG K rfl (pg_tup rfl (pgs_cons (pg_name (i := 6) sc__law_sums.nd rfl (.inl rfl)) (pgs_cons (pg_name (i := 11) sc__law_sums.nd rfl (.inl rfl)) pgs_nil))))) (pss_cons (ps_asg (pe_call (ok__law_met T) (hr.mono (by decide)) (by rfl) T.g__law_met T.F__law_met.kp (b__law_met T) .nil pass0 (pa_cons (pv 0) (pa_cons (pv 8) (pa_cons (pv 10) pa_nil)))) (wTupG K rfl (pg_tup rfl (pgs_cons (pg_name (i := 8) sc__law_sums.nd rfl (.inl rfl)) (pgs_cons (pg_name (i := 12) sc__law_sums.nd rfl (.inl rfl)) pgs_nil))))) (pss_one (ps_par (i := 7) (j := 9) rfl sc__law_sums.nd rfl rfl (by decide) rfl rfl (pa_cons (pe_op (wAdd K rfl) (pv 7) (pv 11)) (pa_cons (pe_op (wAdd K rfl) (pv 9) (pv 12)) pa_nil)) rfl))))) (pss_one (ps_ret (pe_tup (pa_cons (pv 7) (pa_cons (pv 9) pa_nil)))))))), ?_⟩
  walk_at "go"
  have l0 := hw.bwL ha hb hc
  have r0 := hw.bwR ha hb hc
  refine w_forT (ds := fs.map .int) ?_ (fun i ρ => ∃ (x t y u : Int) (f1 f2 f3 : Option DV), ρ = [some (mixTold n st tab), some (.tup [.int a, .int b, .int c, .tup (fs.map .int)]), some (.int a), some (.int b), some (.int c), some (.tup (fs.map .int)), some (.int x), some (.int t), some (.int y), some (.int u), f1, f2, f3] ∧ (0 ≤ x ∧ x < n) ∧ (0 ≤ y ∧ y < n) ∧ t + along n tab x (fs.drop i) = (bwL n tab a b c).2 + along n tab (bwL n tab a b c).1 fs ∧ u + along n tab y (fs.drop i) = (bwR n tab a b c).2 + along n tab (bwR n tab a b c).1 fs) ⟨_, _, _, _, none, none, none, rfl, l0, r0, rfl, rfl⟩ (fun i ρ' d hd hinv => ?_) fun ρ' hinv => ?_
  · walk_at "go"
    exact ⟨rfl, rfl⟩
  · obtain ⟨x, t, y, u, f1, f2, f3, rfl, hx, hy, hs, hu⟩ := hinv
    obtain ⟨f, hf1, hf2, rfl⟩ := ints_get hd
    have hff := hf f hf2
    rw [drop_at hf1] at hs hu
    have hs : t + ((metI n tab x f).2 + along n tab (metI n tab x f).1 (fs.drop (i + 1))) = _ := hs
    have hu : u + ((metI n tab y f).2 + along n tab (metI n tab y f).1 (fs.drop (i + 1))) = _ := hu
    walk_at "go"
    refine ⟨rfl, _, _, _, _, _, _, _, rfl, hw.kd hx hff, hw.kd hy hff, ?_, ?_⟩
    · rw [← hs]; omega
    · rw [← hu]; omega
  · obtain ⟨x, t, y, u, f1, f2, f3, rfl, hx, hy, hs, hu⟩ := hinv
    rw [List.length_map, List.drop_length] at hs hu
    have hs : t + 0 = _ := hs
    have hu : u + 0 = _ := hu
    rw [← hs, ← hu, Int.add_zero, Int.add_zero] at hR
    walk_at "go"
    exact hR

/-! ### papers of clashes -/
/-- things whose kind is known, of tuples also that of what is in them, and of tuples in them -/
structure CP (x : DV) : Prop where
  ty : (tyN x).isSome = true
  el : ∀ ds, x = .tup ds → ds.length ≤ 1000 ∧ ∀ d ∈ ds, (tyN d).isSome = true ∧ ∀ es, d = .tup es → es.length ≤ 1000 ∧ ∀ e ∈ es, (tyN e).isSome = true
def intOf : DV → Int
  | .int i => i
  | _ => 0
def kindThere (ks : List Int) (x : DV) : Bool := match x with | .int i => decide (i ∈ ks) | _ => false
def clashAt (n : Int) (tab : List (Int × Int)) (ks : List Int) : DV → Bool
  | .tup [a, b, c, .tup fs] => ([a, b, c] ++ fs).all (kindThere ks) && !decide ((bwL n tab (intOf a) (intOf b) (intOf c)).2 + along n tab (bwL n tab (intOf a) (intOf b) (intOf c)).1 (fs.map intOf) = (bwR n tab (intOf a) (intOf b) (intOf c)).2 + along n tab (bwR n tab (intOf a) (intOf b) (intOf c)).1 (fs.map intOf))
  | _ => false
theorem there_int {ks : List Int} {x : DV} (h : kindThere ks x = true) : ∃ i, x = .int i ∧ i ∈ ks := by
  cases x with
  | int i => exact ⟨i, rfl, of_decide_eq_true h⟩
  | _ => cases h
theorem there_ints {ks : List Int} : ∀ {xs : List DV}, (∀ x ∈ xs, kindThere ks x = true) → xs = (xs.map intOf).map .int ∧ ∀ i ∈ xs.map intOf, i ∈ ks
  | [], _ => ⟨rfl, fun _ h => nomatch h⟩
  | x :: xs, h => by
    obtain ⟨i, rfl, hi⟩ := there_int (h x List.mem_cons_self)
    have ih := there_ints (xs := xs) fun y hy => h y (List.mem_cons_of_mem _ hy)
    refine ⟨?_, fun j hj => ?_⟩
    · show DV.int i :: xs = DV.int i :: (xs.map intOf).map .int
      rw [← ih.1]
    · rcases List.mem_cons.mp hj with rfl | hj
      · exact hi
      · exact ih.2 j hj
theorem betw_there {n : Int} {ks : List Int} {x : DV} (hk : ∀ k ∈ ks, 0 ≤ k ∧ k < n) (h : betw x 0 (n - 1) = false) : kindThere ks x = false := by
  cases x with
  | int i =>
    refine decide_eq_false fun hi => ?_
    have := hk i hi
    have e : (decide (0 ≤ i) && decide (i ≤ n - 1)) = true := by rw [decide_eq_true (by omega), decide_eq_true (by omega)]; rfl
    rw [show betw (.int i) 0 (n - 1) = (decide (0 ≤ i) && decide (i ≤ n - 1)) from rfl, e] at h
    cases h
  | _ => rfl
theorem betw_int {x : DV} {hi : Int} (h : betw x 0 hi = true) : ∃ i : Int, x = .int i ∧ 0 ≤ i ∧ i ≤ hi := by
  cases x with
  | int i =>
    have h' := Bool.and_eq_true_iff.mp h
    exact ⟨i, rfl, of_decide_eq_true h'.1, of_decide_eq_true h'.2⟩
  | _ => cases h
def S_kind_there (A : Ad) : SpecD := fun ds M R => ∃ (n : Int) (st tab : List (Int × Int)) (ks : List Int) (x : DV), ds = [mixD A n st tab ks, x] ∧ MixOk n st tab ∧ Kinds n st tab ks ∧ (tyN x).isSome = true ∧ R (.bl (kindThere ks x)) M
theorem ok_is_kind_there (T : Tx K mg A) : FnOk P w K mg base CX0 2 A.f_is_kind_there A.d_is_kind_there ["mixture", "value"] (spD K (S_kind_there A)) := by
  refine fnD T.F_is_kind_there sc_is_kind_there (fun ds M R h => by obtain ⟨n, st, tab, ks, x, rfl, _⟩ := h; rfl) fun cdv B up z H E hr ds M R h => ?_
  obtain ⟨n, st, tab, ks, x, rfl, hw, hks, hx, hR⟩ := h
  refine ⟨_, (pss_one (ps_ret (pe_and (pe_call (ok_is_between T) (hr.mono (by decide)) (by rfl) T.g_is_between T.F_is_between.kp (b_is_between T) .nil pass0 (pa_cons (pv 1) (pa_cons pe_int (pa_cons (pe_op op_sub (wFld K rfl (pv 0) rfl) pe_int) pa_nil)))) (pe_one (pe_cmpR (wIn K rfl) (pv 1) (wFld K rfl (pv 0) rfl) (by rfl)))))), ?_⟩
  walk_at "go"
  · rename_i hb
    obtain ⟨i, rfl, i0, i1⟩ := betw_int hb
    walk_at "go"
    have e : kindThere ks (.int i) = ks.contains i := by rw [List.contains_eq_mem]; rfl
    rw [e] at hR
    exact hR
  · rename_i hb
    rw [betw_there (fun k hk => ((hks.mem k).mp hk).ok hw) hb] at hR
    exact hR
theorem w_kind_there {M : Ms} {R : DV → Ms → Prop} {n : Int} {st tab : List (Int × Int)} {ks : List Int} {x : DV} (hw : MixOk n st tab) (hks : Kinds n st tab ks) (hx : (tyN x).isSome = true) (k : R (.bl (kindThere ks x)) M) : S_kind_there A [mixD A n st tab ks, x] M R := ⟨n, st, tab, ks, x, rfl, hw, hks, hx, k⟩
theorem tup_or (x : DV) : (∃ ds, x = .tup ds) ∨ isTupD x = false := by
  cases x with
  | tup ds => exact .inl ⟨ds, rfl⟩
  | _ => exact .inr rfl
theorem len4 {ds : List DV} (h : ds.length = 4) : ∃ a b c d, ds = [a, b, c, d] := by
  match ds, h with
  | [a, b, c, d], _ => exact ⟨a, b, c, d, rfl⟩
theorem clash_no {n : Int} {tab : List (Int × Int)} {ks : List Int} {x : DV} (h : isTupD x = false) : clashAt n tab ks x = false := by
  cases x with
  | tup ds => cases h
  | _ => rfl
theorem clash_len {n : Int} {tab : List (Int × Int)} {ks : List Int} {ds : List DV} (h : ds.length ≠ 4) : clashAt n tab ks (.tup ds) = false := by
  match ds, h with
  | [], _ => rfl
  | [_], _ => rfl
  | [_, _], _ => rfl
  | [_, _, _], _ => rfl
  | [_, _, _, _], h => exact absurd rfl h
  | _ :: _ :: _ :: d :: _ :: _, _ => cases d <;> rfl
theorem clash_last {n : Int} {tab : List (Int × Int)} {ks : List Int} {a b c d : DV} (h : isTupD d = false) : clashAt n tab ks (.tup [a, b, c, d]) = false := by
  cases d with
  | tup ds => cases h
  | _ => rfl
def S_shows (A : Ad) : SpecD := fun ds M R => ∃ (n : Int) (st tab : List (Int × Int)) (ks : List Int) (x : DV), ds = [mixD A n st tab ks, x] ∧ MixOk n st tab ∧ Kinds n st tab ks ∧ CP x ∧ R (.bl (clashAt n tab ks x)) M
theorem ok_shows_clashes (T : Tx K mg A) : FnOk P w K mg base CX0 4 A.f_shows_clashes A.d_shows_clashes ["mixture", "paper"] (spD K (S_shows A)) := by
  refine fnD T.F_shows_clashes sc_shows_clashes (fun ds M R h => by obtain ⟨n, st, tab, ks, x, rfl, _⟩ := h; rfl) fun cdv B up z H E hr ds M R h => ?_
  obtain ⟨n, st, tab, ks, x, rfl, hw, hks, hx, hR⟩ := h
  have hty := hx.ty
  refine ⟨_, (pss_cons (ps_if (PW.pt (pw_or (pt_not (pt_val (pe_callB (wIsi K rfl) (by rfl) T.n_isinstance (by decide +kernel) (pa_cons (pv 1) (pa_cons (pe_bltn (v := .ty "tuple") (by rfl) T.n_tuple (by decide +kernel) rfl) pa_nil))))) (pw_or (pt_cmpR (wNe K rfl hr) (pe_callB (wLen K rfl) (by rfl) T.n_len PySem.boot_len (pa_cons (pv 1) pa_nil)) pe_int (nomark _)) (pw_or1 (pt_not (pt_val (pe_callB (wIsi K rfl) (by rfl) T.n_isinstance (by decide +kernel) (pa_cons (pe_ix (wIx K rfl) (pv 1) pe_int (fun _ _ => rfl)) (pa_cons (pe_bltn (v := .ty "tuple") (by rfl) T.n_tuple (by decide +kernel) rfl) pa_nil))))))))) (pss_one (ps_ret pe_bl)) pss_nil) (pss_cons (ps_if (pt_not (pt_val (pe_callB (wAll K rfl rfl) (by rfl) T.n_all (by decide +kernel) (pa_cons (pe_lc (own := [("kind", 2)]) rfl sc_shows_clashes.nd (wTup K rfl (pe_op (wAdd K rfl) (pe_slice (wSl K rfl) (pv 1) po_none (po_some pe_int)) (pe_ix (wIx K rfl) (pv 1) pe_int (fun _ _ => rfl)))) (blkOk_by (own := [("kind", 2)]) (N := ["mixture", "paper", "kind", "left", "right"]) (sc := defScope s_shows_clashes) (by decide +kernel)) (fun _ _ _ _ _ => (pg_name (i := 2) sc_shows_clashes.nd rfl (.inl rfl))) (fun _ _ _ _ _ => pts_nil) (fun _ _ _ _ _ => (pe_call (ok_is_kind_there T) (hr.mono (by decide)) (by rfl) T.g_is_kind_there T.F_is_kind_there.kp (b_is_kind_there T) .nil pass0 (pa_cons (pv 0) (pa_cons (pv 2) pa_nil))))) pa_nil)))) (pss_one (ps_ret pe_bl)) pss_nil) (pss_cons (ps_asg (pe_call (ok_both_ways T) (hr.mono (by decide)) (by rfl) T.g_both_ways T.F_both_ways.kp (b_both_ways T) .nil pass0 (pa_cons (pv 0) (pa_cons (pe_ix (wIx K rfl) (pv 1) pe_int (fun _ _ => rfl)) (pa_cons (pe_ix (wIx K rfl) (pv 1) pe_int (fun _ _ => rfl)) (pa_cons (pe_ix (wIx K rfl) (pv 1) pe_int (fun _ _ => rfl)) pa_nil))))) (wTupG K rfl (pg_tup rfl (pgs_cons (pg_name (i := 3) sc_shows_clashes.nd rfl (.inl rfl)) (pgs_cons (pg_name (i := 4) sc_shows_clashes.nd rfl (.inl rfl)) pgs_nil))))) (pss_one (ps_ret (pe_cmpR (wNe K rfl hr) (pe_op (wAdd K rfl) (pe_ix (wIx K rfl) (pv 3) pe_int (fun _ _ => rfl)) (pe_call (ok_gifts_along T) (hr.mono (by decide)) (by rfl) T.g_gifts_along T.F_gifts_along.kp (b_gifts_along T) .nil pass0 (pa_cons (pv 0) (pa_cons (pe_ix (wIx K rfl) (pv 3) pe_int (fun _ _ => rfl)) (pa_cons (pe_ix (wIx K rfl) (pv 1) pe_int (fun _ _ => rfl)) pa_nil))))) (pe_op (wAdd K rfl) (pe_ix (wIx K rfl) (pv 4) pe_int (fun _ _ => rfl)) (pe_call (ok_gifts_along T) (hr.mono (by decide)) (by rfl) T.g_gifts_along T.F_gifts_along.kp (b_gifts_along T) .nil pass0 (pa_cons (pv 0) (pa_cons (pe_ix (wIx K rfl) (pv 4) pe_int (fun _ _ => rfl)) (pa_cons (pe_ix (wIx K rfl) (pv 1) pe_int (fun _ _ => rfl)) pa_nil))))) (nomark _))))))), ?_⟩
  rcases tup_or x with ⟨ds, rfl⟩ | ht
  · have ⟨hdl, hde⟩ := hx.el ds rfl
    by_cases hl : ds.length = 4
    · obtain ⟨a, b, c, d, rfl⟩ := len4 hl
      have hd := hde d (by simp)
      have hdt := hd.1
      rcases tup_or d with ⟨fs, rfl⟩ | ht
      · have ⟨hfl, hfe⟩ := hd.2 fs rfl
        walk_at "go"
        have hall : ∀ x ∈ [a, b, c] ++ fs, (tyN x).isSome = true := fun x hx => by
          rcases List.mem_append.mp hx with h | h
          · refine (hde x ?_).1
            rcases List.mem_cons.mp h with rfl | h
            · simp
            rcases List.mem_cons.mp h with rfl | h
            · simp
            · rw [List.mem_singleton.mp h]; simp
          · exact hfe x h
        refine w_lcT (ds := [a, b, c] ++ fs) (fun x => .bl (kindThere ks x)) (by rw [List.length_append]; simp; omega) ?_ (fun x hx => ?_) ?_
        · walk_at "go"
          · show 3 + fs.length ≤ 100000
            omega
          · exact ⟨rfl, rfl⟩
        · have hx2 := hall x hx
          walk_at "go"
          refine w_kind_there hw hks hx2 ?_
          walk_at "go"
          exact ⟨rfl, rfl⟩
        rw [show ([a, b, c] ++ fs).map (fun x => DV.bl (kindThere ks x)) = (([a, b, c] ++ fs).map (kindThere ks)).map DV.bl by rw [List.map_map]; rfl]
        by_cases hT : ∀ x ∈ [a, b, c] ++ fs, kindThere ks x = true
        · have hA : (([a, b, c] ++ fs).map (kindThere ks)).all (fun x => x) = true := List.all_eq_true.mpr fun y hy => by
            obtain ⟨x, hx, rfl⟩ := List.mem_map.mp hy
            exact hT x hx
          have hA2 : ([a, b, c] ++ fs).all (kindThere ks) = true := List.all_eq_true.mpr hT
          obtain ⟨a, rfl, ha⟩ := there_int (hT a (by simp))
          obtain ⟨b, rfl, hb⟩ := there_int (hT b (by simp))
          obtain ⟨c, rfl, hc⟩ := there_int (hT c (by simp))
          obtain ⟨hfs, hfk⟩ := there_ints (ks := ks) (xs := fs) fun x h => hT x (List.mem_append_right _ h)
          have kok : ∀ k ∈ ks, 0 ≤ k ∧ k < n := fun k hk => ((hks.mem k).mp hk).ok hw
          have ha := kok a ha
          have hb := kok b hb
          have hc := kok c hc
          rw [show clashAt n tab ks (.tup [.int a, .int b, .int c, .tup fs]) = (([DV.int a, DV.int b, DV.int c] ++ fs).all (kindThere ks) && !decide ((bwL n tab a b c).2 + along n tab (bwL n tab a b c).1 (fs.map intOf) = (bwR n tab a b c).2 + along n tab (bwR n tab a b c).1 (fs.map intOf))) from rfl, hA2, Bool.true_and] at hR
          have hfn : ∀ f ∈ fs.map intOf, 0 ≤ f ∧ f < n := fun f hf => kok f (hfk f hf)
          clear hfk
          generalize fs.map intOf = gs at hfs hfn hR
          subst hfs
          have l0 := hw.bwL ha hb hc
          have r0 := hw.bwR ha hb hc
          walk_at "go"
          · refine ⟨n, st, tab, ks, _, gs, rfl, hw, l0, hfn, ?_⟩
            walk_at "go"
            refine ⟨n, st, tab, ks, _, gs, rfl, hw, r0, hfn, ?_⟩
            walk_at "go"
            exact hR
          · rename_i hb2
            rw [hA] at hb2; cases hb2
        · have hA : (([a, b, c] ++ fs).map (kindThere ks)).all (fun x => x) = false := by
            cases e : (([a, b, c] ++ fs).map (kindThere ks)).all (fun x => x) with
            | false => rfl
            | true => exact absurd (fun x hx => List.all_eq_true.mp e _ (List.mem_map.mpr ⟨x, hx, rfl⟩)) hT
          have hA2 : clashAt n tab ks (.tup [a, b, c, .tup fs]) = false := by
            show ((([a, b, c] ++ fs).all (kindThere ks)) && _) = false
            rw [show ([a, b, c] ++ fs).all (kindThere ks) = (([a, b, c] ++ fs).map (kindThere ks)).all (fun x => x) by rw [List.all_map]; rfl, hA]
            rfl
          rw [hA2] at hR
          walk_at "go"
          · rename_i hb2
            rw [hA] at hb2; cases hb2
          · exact hR
      · rw [clash_last ht] at hR
        walk_at "go"
        all_goals first | exact hR | (exfalso; omega) | (exfalso; simp_all)
    · rw [clash_len hl] at hR
      walk_at "go"
      all_goals first | exact hR | (exfalso; omega) | (exfalso; simp_all)
  · rw [clash_no ht] at hR
    walk_at "go"
    all_goals first | exact hR | (exfalso; simp_all)
theorem w_shows {M : Ms} {R : DV → Ms → Prop} {n : Int} {st tab : List (Int × Int)} {ks : List Int} {x : DV} (hw : MixOk n st tab) (hks : Kinds n st tab ks) (hx : CP x) (k : R (.bl (clashAt n tab ks x)) M) : S_shows A [mixD A n st tab ks, x] M R := ⟨n, st, tab, ks, x, rfl, hw, hks, hx, k⟩
/-! holds of a claim of a mixture -/
def S_mixture_from (A : Ad) : SpecD := fun ds M R => ∃ (n : Int) (st tab : List (Int × Int)), ds = [mixTold n st tab] ∧ MixOk n st tab ∧ ∀ ks, Kinds n st tab ks → R (mixD A n st tab ks) M
def S_is_triple : SpecD := fun ds M R => ∃ (x y z : DV), ds = [.tup [x, y, z]] ∧ R (.bl true) M
theorem ok_is_triple (T : Tx K mg A) : FnOk P w K mg base CX0 1 A.f_is_triple A.d_is_triple ["value"] (spD K S_is_triple) := by
  refine fnD T.F_is_triple sc_is_triple (fun ds M R h => by obtain ⟨x, y, z, rfl, _⟩ := h; rfl) fun cdv B up z H E hr ds M R h => ?_
  obtain ⟨x, y, z, rfl, hR⟩ := h
  refine ⟨_, (pss_one (ps_ret (pe_and (pe_callB (wIsi K rfl) (by rfl) T.n_isinstance (by decide +kernel) (pa_cons (pv 0) (pa_cons (pe_bltn (v := .ty "tuple") (by rfl) T.n_tuple (by decide +kernel) rfl) pa_nil))) (pe_one (pe_cmpR (wEq K rfl hr) (pe_callB (wLen K rfl) (by rfl) T.n_len PySem.boot_len (pa_cons (pv 0) pa_nil)) pe_int (nomark _)))))), ?_⟩
  walk_at "go"
  exact hR
theorem w_tripleM {M : Ms} {R : DV → Ms → Prop} {n : Int} {st tab : List (Int × Int)} (k : R (.bl true) M) : S_is_triple [mixTold n st tab] M R := ⟨_, _, _, rfl, k⟩
local macro_rules | `(tactic| walk_at "spc") => `(tactic| (with_reducible refine' w_tripleM ?_))
theorem ok_mixture_from (T : Tx K mg A) : FnOk P w K mg base CX0 7 A.f_mixture_from A.d_mixture_from ["value"] (spD K (S_mixture_from A)) := by
  refine fnD T.F_mixture_from sc_mixture_from (fun ds M R h => by obtain ⟨n, st, tab, rfl, _⟩ := h; rfl) fun cdv B up z H E hr ds M R h => ?_
  obtain ⟨n, st, tab, rfl, hp, hR⟩ := h
  refine ⟨_, (pss_cons (ps_if (pt_not (pt_val (pe_call (ok_is_triple T) (hr.mono (by decide)) (by rfl) T.g_is_triple T.F_is_triple.kp (b_is_triple T) .nil pass0 (pa_cons (pv 0) pa_nil)))) (pss_one (ps_ret pe_non)) pss_nil) (pss_cons (ps_try_thru0 (pss_one (ps_set (i := 1) sc_mixture_from.nd rfl (.inl rfl) (pe_make T.mk_Mixture (ok_Mixture_init T) (hr.mono (by decide)) (by rfl) T.g_Mixture (b_Mixture_init T) .nil pass0 (pa_cons (pe_ix (wIx K rfl) (pv 0) pe_int (fun _ _ => rfl)) (pa_cons (pe_ix (wIx K rfl) (pv 0) pe_int (fun _ _ => rfl)) (pa_cons (pe_ix (wIx K rfl) (pv 0) pe_int (fun _ _ => rfl)) pa_nil))))))) (pss_one (ps_ret (pv 1))))), ?_⟩
  walk_at "go"
  refine ⟨n, st, tab, rfl, hp, fun ks hks => ?_⟩
  walk_at "go"
  exact hR ks hks
def S_hom : SpecD := fun ds M R => ∃ (n : Int) (st tab : List (Int × Int)) (x : DV), ds = [.tup [.str "clashes", mixTold n st tab], x] ∧ MixOk n st tab ∧ CP x ∧ ∀ ks, Kinds n st tab ks → R (.bl (clashAt n tab ks x)) M
theorem ok_holds_of_mixture (T : Tx K mg A) : FnOk P w K mg base CX0 8 A.f_holds_of_mixture A.d_holds_of_mixture ["claim", "paper"] (spD K S_hom) := by
  refine fnD T.F_holds_of_mixture sc_holds_of_mixture (fun ds M R h => by obtain ⟨n, st, tab, x, rfl, _⟩ := h; rfl) fun cdv B up z H E hr ds M R h => ?_
  obtain ⟨n, st, tab, x, rfl, hw, hx, hR⟩ := h
  refine ⟨_, (pss_cons (ps_set (i := 2) sc_holds_of_mixture.nd rfl (.inl rfl) (pe_call (ok_mixture_from T) (hr.mono (by decide)) (by rfl) T.g_mixture_from T.F_mixture_from.kp (b_mixture_from T) .nil pass0 (pa_cons (pe_ix (wIx K rfl) (pv 0) pe_int (fun _ _ => rfl)) pa_nil))) (pss_cons (ps_if (pt_cmpR op_isN' (pv 2) pe_non (nomark _)) (pss_one (ps_ret pe_bl)) pss_nil) (pss_cons (ps_if (PW.pt (pw_and (pt_cmpR (wEq K rfl hr) (pe_ix (wIx K rfl) (pv 0) pe_int (fun _ _ => rfl)) pe_str (nomark _)) (pw_and1 (pt_cmpR (wEq K rfl hr) (pe_callB (wLen K rfl) (by rfl) T.n_len PySem.boot_len (pa_cons (pv 0) pa_nil)) pe_int (nomark _))))) (pss_one (ps_ret pe_nv)) pss_nil) (pss_cons (ps_if (PW.pt (pw_and (pt_cmpR (wEq K rfl hr) (pe_ix (wIx K rfl) (pv 0) pe_int (fun _ _ => rfl)) pe_str (nomark _)) (pw_and1 (pt_cmpR (wEq K rfl hr) (pe_callB (wLen K rfl) (by rfl) T.n_len PySem.boot_len (pa_cons (pv 0) pa_nil)) pe_int (nomark _))))) (pss_one (ps_ret (pe_call (ok_shows_clashes T) (hr.mono (by decide)) (by rfl) T.g_shows_clashes T.F_shows_clashes.kp (b_shows_clashes T) .nil pass0 (pa_cons (pv 2) (pa_cons (pv 1) pa_nil))))) pss_nil) (pss_cons (ps_if (PW.pt (pw_and (pt_cmpR (wEq K rfl hr) (pe_ix (wIx K rfl) (pv 0) pe_int (fun _ _ => rfl)) pe_str (nomark _)) (pw_and1 (pt_cmpR (wEq K rfl hr) (pe_callB (wLen K rfl) (by rfl) T.n_len PySem.boot_len (pa_cons (pv 0) pa_nil)) pe_int (nomark _))))) (pss_one (ps_ret (pe_and pe_nv (pe_one pe_nv)))) pss_nil) (pss_one (ps_ret pe_bl))))))), ?_⟩
  walk_at "go"
  refine ⟨n, st, tab, rfl, hw, fun ks hks => ?_⟩
  walk_at "go"
  refine w_shows hw hks hx ?_
  exact hR ks hks
theorem ok_holds (T : Tx K mg A) : FnOk P w K mg base CX0 9 A.f_holds A.d_holds ["claim", "paper"] (spD K S_hom) := by
  refine fnD T.F_holds sc_holds (fun ds M R h => by obtain ⟨n, st, tab, x, rfl, _⟩ := h; rfl) fun cdv B up z H E hr ds M R h => ?_
  obtain ⟨n, st, tab, x, rfl, hw, hx, hR⟩ := h
  refine ⟨_, (pss_cons (ps_if (PW.pt (pw_or (pt_not (pt_val (pe_callB (wIsi K rfl) (by rfl) T.n_isinstance (by decide +kernel) (pa_cons (pv 0) (pa_cons (pe_bltn (v := .ty "tuple") (by rfl) T.n_tuple (by decide +kernel) rfl) pa_nil))))) (pw_or (pt_not (pt_chain op_le op_le pe_int (pe_callB (wLen K rfl) (by rfl) T.n_len PySem.boot_len (pa_cons (pv 0) pa_nil)) pe_int)) (pw_or1 (pt_not (pt_val (pe_callB (wIsi K rfl) (by rfl) T.n_isinstance (by decide +kernel) (pa_cons (pe_ix (wIx K rfl) (pv 0) pe_int (fun _ _ => rfl)) (pa_cons (pe_bltn (v := .ty "str") (by rfl) T.n_str (by decide +kernel) rfl) pa_nil))))))))) (pss_one (ps_ret pe_bl)) pss_nil) (pss_cons (ps_if (pt_cmpR (wIn K rfl) (pe_ix (wIx K rfl) (pv 0) pe_int (fun _ _ => rfl)) (pe_tup (pa_cons pe_str (pa_cons pe_str (pa_cons pe_str pa_nil)))) (by rfl)) (pss_one (ps_ret (pe_call (ok_holds_of_mixture T) (hr.mono (by decide)) (by rfl) T.g_holds_of_mixture T.F_holds_of_mixture.kp (b_holds_of_mixture T) .nil pass0 (pa_cons (pv 0) (pa_cons (pv 1) pa_nil))))) pss_nil) (pss_one (ps_ret (pe_ifExp (pt_cmpR (wEq K rfl hr) (pe_callB (wLen K rfl) (by rfl) T.n_len PySem.boot_len (pa_cons (pv 0) pa_nil)) pe_int (nomark _)) pe_nv (pe_and (pe_cmpR (wEq K rfl hr) (pe_callB (wLen K rfl) (by rfl) T.n_len PySem.boot_len (pa_cons (pv 0) pa_nil)) pe_int (nomark _)) (pe_one pe_nv))))))), ?_⟩
  walk_at "go"
  exact ⟨n, st, tab, x, rfl, hw, hx, hR⟩

theorem ok__law_is_whole (T : Tx K mg A) : FnOk P w K mg base CX0 1 A.f__law_is_whole A.d__law_is_whole ["thing", "low", "high"] (spD K S_is_between) := by
  refine fnD T.F__law_is_whole sc__law_is_whole (fun ds M R h => by obtain ⟨v, lo, hi, rfl, _⟩ := h; rfl) fun cdv B up z H E hr ds M R h => ?_
  obtain ⟨v, lo, hi, rfl, hv, hR⟩ := h
  refine ⟨_, (pss_one (ps_ret (pe_and (pe_callB (wIsi K rfl) (by rfl) T.n_isinstance (by decide +kernel) (pa_cons (pv 0) (pa_cons (pe_bltn (v := .ty "int") (by rfl) T.n_int (by decide +kernel) rfl) pa_nil))) (pe_and (pe_not (pe_callB (wIsi K rfl) (by rfl) T.n_isinstance (by decide +kernel) (pa_cons (pv 0) (pa_cons (pe_bltn (v := .ty "bool") (by rfl) T.n_bool (by decide +kernel) rfl) pa_nil)))) (pe_one (pe_chain op_le op_le (pv 1) (pv 0) (pv 2))))))), ?_⟩
  have h1 : Ev K (tCB (rIsi K) (tCons (tVar 0) (tCons (tC (.ty "int")) tNil))) (rho0 ["thing", "low", "high"] [v, .int lo, .int hi]) M (.bl (isIntD v)) := by walk_at "ev"
  have h2 : Ev K (tNotV (tCB (rIsi K) (tCons (tVar 0) (tCons (tC (.ty "bool")) tNil)))) (rho0 ["thing", "low", "high"] [v, .int lo, .int hi]) M (.bl (!isBoolD v)) := by walk_at "ev"
  cases v with
  | int i => exact xs_retE (ev_andTr h1 (ev_andTr h2 (ev_chain (ev_var rfl) (ev_var rfl) rv_B0 (fun _ => ev_var rfl) (fun _ => rv_B0)))) hR
  | bl b => exact xs_retE (ev_andTr h1 (ev_andF h2)) hR
  | _ => first | exact xs_retE (ev_andF h1) hR | cases hv
/-! ### the law's own judging of clashes -/
theorem whole_there {n : Int} {ks : List Int} {x : DV} (hn : n ≤ 8) (hk : ∀ k ∈ ks, 0 ≤ k ∧ k < n) (h : betw x 0 7 = false) : kindThere ks x = false := by
  cases x with
  | int i =>
    refine decide_eq_false fun hi => ?_
    have := hk i hi
    have e : (decide (0 ≤ i) && decide (i ≤ 7)) = true := by rw [decide_eq_true (by omega), decide_eq_true (by omega)]; rfl
    rw [show betw (.int i) 0 7 = (decide (0 ≤ i) && decide (i ≤ 7)) from rfl, e] at h
    cases h
  | _ => rfl
def S_law_shown : SpecD := fun ds M R => ∃ (n : Int) (st tab : List (Int × Int)) (x : DV), ds = [mixTold n st tab, x] ∧ MixOk n st tab ∧ n ≤ 6 ∧ CP x ∧ ∀ ks, Kinds n st tab ks → R (.bl (clashAt n tab ks x)) M
theorem ok__law_clash_shown (T : Tx K mg A) : FnOk P w K mg base CX0 4 A.f__law_clash_shown A.d__law_clash_shown ["told", "thing"] (spD K S_law_shown) := by
  refine fnD T.F__law_clash_shown sc__law_clash_shown (fun ds M R h => by obtain ⟨n, st, tab, x, rfl, _⟩ := h; rfl) fun cdv B up z H E hr ds M R h => ?_
  obtain ⟨n, st, tab, x, rfl, hw, n6, hx, hR⟩ := h
  have hty := hx.ty
  refine ⟨_, (pss_cons (ps_set (i := 2) sc__law_clash_shown.nd rfl (.inr rfl) (pe_call (ok__law_arising T) (hr.mono (by decide)) (by rfl) T.g__law_arising T.F__law_arising.kp (b__law_arising T) .nil pass0 (pa_cons (pv 0) pa_nil))) (pss_cons (ps_if (PW.pt (pw_or (pt_not (pt_val (pe_callB (wIsi K rfl) (by rfl) T.n_isinstance (by decide +kernel) (pa_cons (pv 1) (pa_cons (pe_bltn (v := .ty "tuple") (by rfl) T.n_tuple (by decide +kernel) rfl) pa_nil))))) (pw_or (pt_cmpR (wNe K rfl hr) (pe_callB (wLen K rfl) (by rfl) T.n_len PySem.boot_len (pa_cons (pv 1) pa_nil)) pe_int (nomark _)) (pw_or1 (pt_not (pt_val (pe_callB (wIsi K rfl) (by rfl) T.n_isinstance (by decide +kernel) (pa_cons (pe_ix (wIx K rfl) (pv 1) pe_int (fun _ _ => rfl)) (pa_cons (pe_bltn (v := .ty "tuple") (by rfl) T.n_tuple (by decide +kernel) rfl) pa_nil))))))))) (pss_one (ps_ret pe_bl)) pss_nil) (pss_cons (ps_if (pt_not (pt_val (pe_callB (wAll K rfl rfl) (by rfl) T.n_all (by decide +kernel) (pa_cons (pe_lc (own := [("kind", 3)]) rfl sc__law_clash_shown.nd (wTup K rfl (pe_op (wAdd K rfl) (pe_slice (wSl K rfl) (pv 1) po_none (po_some pe_int)) (pe_ix (wIx K rfl) (pv 1) pe_int (fun _ _ => rfl)))) (blkOk_by (own := [("kind", 3)]) (N := ["told", "thing", "kinds_here", "kind", "first", "second"]) (sc := defScope s__law_clash_shown) (by decide +kernel)) (fun _ _ _ _ _ => (pg_name (i := 3) sc__law_clash_shown.nd rfl (.inl rfl))) (fun _ _ _ _ _ => pts_nil) (fun _ _ _ _ _ => (pe_and (pe_call (ok__law_is_whole T) (hr.mono (by decide)) (by rfl) T.g__law_is_whole T.F__law_is_whole.kp (b__law_is_whole T) .nil pass0 (pa_cons (pv 3) (pa_cons pe_int (pa_cons pe_int pa_nil)))) (pe_one (pe_cmpR (wIn K rfl) (pv 3) (pv 2) (by rfl)))))) pa_nil)))) (pss_one (ps_ret pe_bl)) pss_nil) (pss_cons (ps_asg (pe_call (ok__law_sums T) (hr.mono (by decide)) (by rfl) T.g__law_sums T.F__law_sums.kp (b__law_sums T) .nil pass0 (pa_cons (pv 0) (pa_cons (pv 1) pa_nil))) (wTupG K rfl (pg_tup rfl (pgs_cons (pg_name (i := 4) sc__law_clash_shown.nd rfl (.inl rfl)) (pgs_cons (pg_name (i := 5) sc__law_clash_shown.nd rfl (.inl rfl)) pgs_nil))))) (pss_one (ps_ret (pe_cmpR (wNe K rfl hr) (pv 4) (pv 5) (nomark _)))))))), ?_⟩
  walk_at "go"
  refine ⟨n, st, tab, rfl, hw, n6, fun ks hks => ?_⟩
  replace hR := hR ks hks
  have kok : ∀ k ∈ ks, 0 ≤ k ∧ k < n := fun k hk => ((hks.mem k).mp hk).ok hw
  rcases tup_or x with ⟨ds, rfl⟩ | ht
  · have ⟨hdl, hde⟩ := hx.el ds rfl
    by_cases hl : ds.length = 4
    · obtain ⟨a, b, c, d, rfl⟩ := len4 hl
      have hd := hde d (by simp)
      have hdt := hd.1
      rcases tup_or d with ⟨fs, rfl⟩ | ht
      · have ⟨hfl, hfe⟩ := hd.2 fs rfl
        walk_at "go"
        have hall : ∀ x ∈ [a, b, c] ++ fs, (tyN x).isSome = true := fun x hx => by
          rcases List.mem_append.mp hx with h | h
          · refine (hde x ?_).1
            rcases List.mem_cons.mp h with rfl | h
            · simp
            rcases List.mem_cons.mp h with rfl | h
            · simp
            · rw [List.mem_singleton.mp h]; simp
          · exact hfe x h
        refine w_lcT (ds := [a, b, c] ++ fs) (fun x => .bl (kindThere ks x)) (by rw [List.length_append]; simp; omega) ?_ (fun x hx => ?_) ?_
        · walk_at "go"
          · show 3 + fs.length ≤ 100000
            omega
          · exact ⟨rfl, rfl⟩
        · have hx2 := hall x hx
          walk_at "go"
          · rename_i hb
            obtain ⟨i, rfl, i0, i1⟩ := betw_int hb
            walk_at "go"
            exact ⟨by rw [show kindThere ks (.int i) = ks.contains i by rw [List.contains_eq_mem]; rfl], rfl⟩
          · rename_i hb
            rw [whole_there hw.n2 kok hb]
            exact ⟨rfl, rfl⟩
        rw [show ([a, b, c] ++ fs).map (fun x => DV.bl (kindThere ks x)) = (([a, b, c] ++ fs).map (kindThere ks)).map DV.bl by rw [List.map_map]; rfl]
        by_cases hT : ∀ x ∈ [a, b, c] ++ fs, kindThere ks x = true
        · have hA : (([a, b, c] ++ fs).map (kindThere ks)).all (fun x => x) = true := List.all_eq_true.mpr fun y hy => by
            obtain ⟨x, hx, rfl⟩ := List.mem_map.mp hy
            exact hT x hx
          have hA2 : ([a, b, c] ++ fs).all (kindThere ks) = true := List.all_eq_true.mpr hT
          obtain ⟨a, rfl, ha⟩ := there_int (hT a (by simp))
          obtain ⟨b, rfl, hb⟩ := there_int (hT b (by simp))
          obtain ⟨c, rfl, hc⟩ := there_int (hT c (by simp))
          obtain ⟨hfs, hfk⟩ := there_ints (ks := ks) (xs := fs) fun x h => hT x (List.mem_append_right _ h)
          have ha := kok a ha
          have hb := kok b hb
          have hc := kok c hc
          rw [show clashAt n tab ks (.tup [.int a, .int b, .int c, .tup fs]) = (([DV.int a, DV.int b, DV.int c] ++ fs).all (kindThere ks) && !decide ((bwL n tab a b c).2 + along n tab (bwL n tab a b c).1 (fs.map intOf) = (bwR n tab a b c).2 + along n tab (bwR n tab a b c).1 (fs.map intOf))) from rfl, hA2, Bool.true_and] at hR
          have hfn : ∀ f ∈ fs.map intOf, 0 ≤ f ∧ f < n := fun f hf => kok f (hfk f hf)
          clear hfk
          generalize fs.map intOf = gs at hfs hfn hR
          subst hfs
          walk_at "go"
          · refine ⟨n, st, tab, a, b, c, gs, rfl, hw, ha, hb, hc, hfn, ?_⟩
            walk_at "go"
            exact hR
          · rename_i hb2
            rw [hA] at hb2; cases hb2
        · have hA : (([a, b, c] ++ fs).map (kindThere ks)).all (fun x => x) = false := by
            cases e : (([a, b, c] ++ fs).map (kindThere ks)).all (fun x => x) with
            | false => rfl
            | true => exact absurd (fun x hx => List.all_eq_true.mp e _ (List.mem_map.mpr ⟨x, hx, rfl⟩)) hT
          have hA2 : clashAt n tab ks (.tup [a, b, c, .tup fs]) = false := by
            show ((([a, b, c] ++ fs).all (kindThere ks)) && _) = false
            rw [show ([a, b, c] ++ fs).all (kindThere ks) = (([a, b, c] ++ fs).map (kindThere ks)).all (fun x => x) by rw [List.all_map]; rfl, hA]
            rfl
          rw [hA2] at hR
          walk_at "go"
          · rename_i hb2
            rw [hA] at hb2; cases hb2
          · exact hR
      · rw [clash_last ht] at hR
        walk_at "go"
        all_goals first | exact hR | (exfalso; omega) | (exfalso; simp_all)
    · rw [clash_len hl] at hR
      walk_at "go"
      all_goals first | exact hR | (exfalso; omega) | (exfalso; simp_all)
  · rw [clash_no ht] at hR
    walk_at "go"
    all_goals first | exact hR | (exfalso; simp_all)

/-! ### drawn mixtures of a known sort -/
section
variable {K : PySem.W.Frag} {ρ : Rho} {M : Ms} {te : TE} {ta : TA} {R : DV → Ms → Prop} {vs : List Nat}
theorem w_lc1XL {α : Type} {f : α → DV} {ok : α → Prop} {k : Nat} (L B : Nat) (hB : B ≤ 100000) (h : EvAR K ta ρ M fun ds M' => M' = M ∧ ∃ n : Nat, ds = [.int n] ∧ n ≤ B ∧ L ≤ n)
    (hs : ∀ i : Nat, i < B → EvR K te ((wipeD ρ vs).set k (some (.int i))) M fun d M' => M' = M ∧ ∃ x, d = f x ∧ ok x) (hk : k ∈ vs) (kk : ∀ xs : List α, xs.length ≤ B → L ≤ xs.length → (∀ x ∈ xs, ok x) → R (.lst (xs.map f)) M) : EvR K (tLc (iRng1 ta) (gName k) tYes te vs) ρ M R := fun N F σ H S Q q =>
  h N F σ H S _ fun us ds M1 F1 H1 e1 ⟨hM, n, hd, hn, hL⟩ w1 r1 => by
    subst hd hM
    obtain ⟨u, rfl, ru⟩ := rpa1 r1
    cases ru.int_of
    have hI : EvI K (iRng1 (fun σ H (Q : List V → Hp → Prop) => Q [V.int (n : Nat)] H)) ρ M1 [] n (fun i => .int (i : Nat)) fun M' => M' = M1 := by
      have h2 : EvAR K (fun σ H (Q : List V → Hp → Prop) => Q [V.int (n : Nat)] H) ρ M1 fun ds M' => ds = [.int (n : Nat)] ∧ M' = M1 := fun N F σ H S Q q => q _ _ M1 F H (Evl.Ex.refl F) ⟨rfl, rfl⟩ S.w (.cons (.int _) .nil)
      have := ei_rng1 h2 (show -(2 ^ 62) ≤ (n : Int) ∧ (n : Int) < 2 ^ 62 by omega)
      rw [Int.toNat_natCast] at this
      exact this
    have := w_lcR (R := R) hI (by omega) (bdw_name hk) (fun i hi => bd_name (hs i (by omega))) (fun xs hl hx => kk xs (by omega) (by omega) hx)
    exact this N F1 σ H1 ⟨w1, S.e.mono e1⟩ Q fun v d M' F' H' e2 => q v d M' F' H' (e1.trans e2)
end
theorem w_told {M : Ms} {R : DV → Ms → Prop} {j : Addr} {most : Int} (hm : (j, jugO) ∈ M) (h1 : 1 ≤ most) (h2 : most ≤ 8) (k : ∀ (n : Int) (st tab : List (Int × Int)), MixOk n st tab → n ≤ most → (∀ e ∈ st, e.2 ≤ 2) → (∀ e ∈ tab, e.2 ≤ 1000) → R (mixTold n st tab) M) : S_told [.raw (.ref j), .int most] M R := ⟨j, most, rfl, hm, h1, h2, k⟩
theorem ok__law_sure (T : Tx K mg A) : FnOk P w K mg base CX0 2 A.f__law_sure A.d__law_sure ["jug", "most"] (spD K S_told) := by
  refine fnD T.F__law_sure sc__law_sure (fun ds M R h => by obtain ⟨j, most, rfl, _⟩ := h; rfl) fun cdv B up z H E hr ds M R h => ?_
  obtain ⟨j, most, rfl, hm, m1, m2, hR⟩ := h
  refine ⟨_, (pss_cons (ps_asg (pe_tup (pa_cons (pe_op (wAdd K rfl) pe_int (pe_call (ok__law_pour T) (hr.mono (by decide)) (by rfl) T.g__law_pour T.F__law_pour.kp (b__law_pour T) .nil pass0 (pa_cons (pv 0) (pa_cons (pv 1) pa_nil)))) (pa_cons (pe_call (ok__law_pour T) (hr.mono (by decide)) (by rfl) T.g__law_pour T.F__law_pour.kp (b__law_pour T) .nil pass0 (pa_cons (pv 0) (pa_cons pe_int pa_nil))) (pa_cons (pe_call (ok__law_pour T) (hr.mono (by decide)) (by rfl) T.g__law_pour T.F__law_pour.kp (b__law_pour T) .nil pass0 (pa_cons (pv 0) (pa_cons pe_int pa_nil))) pa_nil)))) (wTupG K rfl (pg_tup rfl (pgs_cons (pg_name (i := 2) sc__law_sure.nd rfl (.inr rfl)) (pgs_cons (pg_name (i := 3) sc__law_sure.nd rfl (.inr rfl)) (pgs_cons (pg_name (i := 4) sc__law_sure.nd rfl (.inr rfl)) pgs_nil)))))) (pss_cons (ps_set (i := 5) sc__law_sure.nd rfl (.inl rfl) (pe_callTy (wTupOf K rfl) (by rfl) T.n_tuple (by decide +kernel) (pa_cons (pe_lc (own := [("k", 6)]) rfl sc__law_sure.nd (pi_range1 rfl T.n_range (pa_cons (pe_op (wAdd K rfl) pe_int (pe_call (ok__law_pour T) (hr.mono (by decide)) (by rfl) T.g__law_pour T.F__law_pour.kp (b__law_pour T) .nil pass0 (pa_cons (pv 0) (pa_cons pe_int pa_nil)))) pa_nil)) (blkOk_by (own := [("k", 6)]) (N := ["jug", "most", "n", "c", "way", "starts_here", "k", "a", "b"]) (sc := defScope s__law_sure) (by decide +kernel)) (fun _ _ _ _ _ => (pg_name (i := 6) sc__law_sure.nd rfl (.inl rfl))) (fun _ _ _ _ _ => pts_nil) (fun _ _ _ _ _ => (pe_tup (pa_cons (pe_call (ok__law_pour T) (hr.mono (by decide)) (by rfl) T.g__law_pour T.F__law_pour.kp (b__law_pour T) .nil pass0 (pa_cons (pv 0) (pa_cons (pv 2) pa_nil))) (pa_cons (pe_call (ok__law_pour T) (hr.mono (by decide)) (by rfl) T.g__law_pour T.F__law_pour.kp (b__law_pour T) .nil pass0 (pa_cons (pv 0) (pa_cons pe_int pa_nil))) pa_nil))))) pa_nil))) (pss_one (ps_ret (pe_tup (pa_cons (pv 2) (pa_cons (pv 5) (pa_cons (pe_callTy (wTupOf K rfl) (by rfl) T.n_tuple (by decide +kernel) (pa_cons (pe_lc (own := [("a", 7), ("b", 8)]) (g := (gTup K 2 (gCons (gName 7) (gCons (gName 8) gNil)))) rfl sc__law_sure.nd (wList K rfl (pe_call (ok__law_pairs T) (hr.mono (by decide)) (by rfl) T.g__law_pairs T.F__law_pairs.kp (b__law_pairs T) .nil pass0 (pa_cons (pv 2) pa_nil))) (blkOk_by (own := [("a", 7), ("b", 8)]) (N := ["jug", "most", "n", "c", "way", "starts_here", "k", "a", "b"]) (sc := defScope s__law_sure) (by decide +kernel)) (fun _ _ _ _ _ => (wTupG K rfl (pg_tup rfl (pgs_cons (pg_name (i := 7) sc__law_sure.nd rfl (.inl rfl)) (pgs_cons (pg_name (i := 8) sc__law_sure.nd rfl (.inl rfl)) pgs_nil))))) (fun _ _ _ _ _ => pts_nil) (fun _ _ _ _ _ => (pe_call (ok__law_plain_entry T) (hr.mono (by decide)) (by rfl) T.g__law_plain_entry T.F__law_plain_entry.kp (b__law_plain_entry T) .nil pass0 (pa_cons (pv 4) (pa_cons (pv 2) (pa_cons (pv 7) (pa_cons (pv 8) (pa_cons (pv 3) pa_nil)))))))) pa_nil)) pa_nil)))))))), ?_⟩
  walk_at "go"
  refine w_pour hm (by omega) (by omega) fun n0 n01 n02 => ?_
  walk_at "go"
  refine w_pour hm (by omega) (by omega) fun c c1 c2 => ?_
  walk_at "go"
  refine w_pour hm (by omega) (by omega) fun way w1 w2 => ?_
  walk_at "go"
  generalize hn : 1 + n0 = n
  have tri := tri_nat (n := n) (by omega) (by omega)
  refine w_lc1XL (α := Int × Int) (f := entD) (ok := fun e => (0 ≤ e.1 ∧ e.1 < n) ∧ 0 ≤ e.2 ∧ e.2 ≤ 2) 1 3 (by decide) ?_ (fun i hi => ?_) (by simp) (fun st hst hst1 hsk => ?_)
  · walk_at "go"
    refine w_pour hm (by omega) (by omega) fun d d1 d2 => ?_
    walk_at "go"
    exact ⟨rfl, (1 + d).toNat, by rw [show (((1 + d).toNat : Nat) : Int) = 1 + d by omega], by omega, by omega⟩
  · walk_at "go"
    refine w_pour hm (by omega) (by omega) fun a a1 a2 => ?_
    walk_at "go"
    refine w_pour hm (by omega) (by omega) fun b b1 b2 => ?_
    walk_at "go"
    exact ⟨rfl, (a, b), rfl, ⟨a1, a2⟩, b1, by omega⟩
  have hpl := pairsN_len n.toNat (by omega)
  walk_at "go"
  refine w_lcR (n := ((pairsN n.toNat).map pairI).length) (f := entD) (ok := fun e => (0 ≤ e.1 ∧ e.1 < n) ∧ 0 ≤ e.2 ∧ e.2 ≤ 1000) (ei_lst ?_) (by rw [List.length_map]; omega) (bdw_tup (bdws_name (by simp) (bdws_name (by simp) bdws_nil))) (fun i hi => ?_) (fun tab htb htk => ?_)
  · walk_at "go"
    exact ⟨rfl, rfl⟩
  · rw [List.length_map] at hi
    have e : (pairsN n.toNat)[i]? = some (pairsN n.toNat)[i] := List.getElem?_eq_getElem hi
    rw [nth_of (show ((pairsN n.toNat).map pairI)[i]? = some (pairI (pairsN n.toNat)[i]) by rw [List.getElem?_map, e]; rfl)]
    have hm2 := pairsN_mem (List.getElem_mem hi)
    generalize (pairsN n.toNat)[i] = x at hm2 ⊢
    obtain ⟨x, y⟩ := x
    refine bd_tup (bds_nm (bds_nm (bds_nil ?_))) rfl
    walk_at "go"
    refine ⟨way, n, x, y, c, rfl, by omega, by omega, ⟨hm2.1.1, by have : x < n.toNat := hm2.1.2; omega⟩, ⟨hm2.2.1, by have : y < n.toNat := hm2.2.2; omega⟩, by omega, fun e he => ?_⟩
    exact ⟨rfl, e, rfl, he⟩
  rw [List.length_map] at htb
  walk_at "go"
  refine hR n st tab ⟨by omega, by omega, by omega, by omega, fun e he => ?_, ?_, fun e he => ?_⟩ (by omega) (fun e he => (hsk e he).2.2) fun e he => ?_
  · have := hsk e he; exact ⟨this.1, by omega, by omega⟩
  · rw [htb, hpl, tri.1]
  · have := htk e he; exact ⟨this.1, by omega, by omega⟩
  · exact (htk e he).2.2
theorem ok__law_any_mix (T : Tx K mg A) : FnOk P w K mg base CX0 4 A.f__law_any_mix A.d__law_any_mix ["jug", "most"] (spD K S_told) := by
  refine fnD T.F__law_any_mix sc__law_any_mix (fun ds M R h => by obtain ⟨j, most, rfl, _⟩ := h; rfl) fun cdv B up z H E hr ds M R h => ?_
  obtain ⟨j, most, rfl, hm, m1, m2, hR⟩ := h
  refine ⟨_, (pss_one (ps_ret (pe_ifExp (pt_cmpR (wEq K rfl hr) (pe_call (ok__law_pour T) (hr.mono (by decide)) (by rfl) T.g__law_pour T.F__law_pour.kp (b__law_pour T) .nil pass0 (pa_cons (pv 0) (pa_cons pe_int pa_nil))) pe_int (nomark _)) (pe_call (ok__law_sure T) (hr.mono (by decide)) (by rfl) T.g__law_sure T.F__law_sure.kp (b__law_sure T) .nil pass0 (pa_cons (pv 0) (pa_cons (pv 1) pa_nil))) (pe_call (ok__law_told T) (hr.mono (by decide)) (by rfl) T.g__law_told T.F__law_told.kp (b__law_told T) .nil pass0 (pa_cons (pv 0) (pa_cons (pv 1) pa_nil)))))), ?_⟩
  walk_at "go"
  refine w_pour hm (by omega) (by omega) fun p p1 p2 => ?_
  walk_at "go"
  · exact w_told hm m1 m2 hR
  · exact w_told hm m1 m2 hR

/-! ### papers with something otherwise -/
structure El (d : DV) : Prop where
  ty : (tyN d).isSome = true
  el : ∀ es, d = .tup es → es.length ≤ 1000 ∧ ∀ e ∈ es, (tyN e).isSome = true
theorem all_cons {α : Type} {P : α → Prop} {x : α} {xs : List α} (h : P x) (t : ∀ d ∈ xs, P d) : ∀ d ∈ x :: xs, P d := fun d hd => by
  rcases List.mem_cons.mp hd with rfl | hd
  · exact h
  · exact t d hd
theorem all_nil {α : Type} {P : α → Prop} : ∀ d ∈ ([] : List α), P d := fun _ h => nomatch h
theorem all_app {α : Type} {P : α → Prop} {xs ys : List α} (h : ∀ d ∈ xs, P d) (t : ∀ d ∈ ys, P d) : ∀ d ∈ xs ++ ys, P d := fun d hd => by
  rcases List.mem_append.mp hd with hd | hd
  · exact h d hd
  · exact t d hd
theorem cp_tup {ds : List DV} (hl : ds.length ≤ 1000) (h : ∀ d ∈ ds, El d) : CP (.tup ds) := ⟨rfl, fun es e => by cases e; exact ⟨hl, fun d hd => ⟨(h d hd).ty, (h d hd).el⟩⟩⟩
theorem el_int {i : Int} : El (.int i) := ⟨rfl, fun _ h => nomatch h⟩
theorem el_non : El .non := ⟨rfl, fun _ h => nomatch h⟩
theorem el_str {t : Str} : El (.str t) := ⟨rfl, fun _ h => nomatch h⟩
theorem el_lst {ds : List DV} : El (.lst ds) := ⟨rfl, fun _ h => nomatch h⟩
theorem el_tup {ds : List DV} (hl : ds.length ≤ 1000) (h : ∀ d ∈ ds, (tyN d).isSome = true) : El (.tup ds) := ⟨rfl, fun es e => by cases e; exact ⟨hl, h⟩⟩
theorem cp_el {d : DV} (h : El d) (hn : isTupD d = false) : CP d := ⟨h.ty, fun ds e => by subst e; cases hn⟩
theorem el_ints {fs : List Int} (hl : fs.length ≤ 8) : El (.tup (fs.map .int)) := el_tup (by rw [List.length_map]; omega) ints_ty
theorem cutL_mem {ds : List DV} {i j : Option Int} {d : DV} (h : d ∈ cutL ds i j) : d ∈ ds := by
  unfold cutL at h
  exact List.mem_of_mem_drop (List.mem_of_mem_take h)
theorem cutL_len {ds : List DV} {i j : Option Int} : (cutL ds i j).length ≤ ds.length := by
  unfold cutL
  rw [List.length_take, List.length_drop]
  omega
def S_bent : SpecD := fun ds M R => ∃ (j : Addr) (n : Int) (st tab : List (Int × Int)) (a b c : Int) (fs : List Int), ds = [.raw (.ref j), mixTold n st tab, .tup [.int a, .int b, .int c, .tup (fs.map .int)]] ∧ (j, jugO) ∈ M ∧ MixOk n st tab ∧ (0 ≤ a ∧ a < n) ∧ (0 ≤ b ∧ b < n) ∧ (0 ≤ c ∧ c < n) ∧ fs.length ≤ 8 ∧ (∀ f ∈ fs, 0 ≤ f ∧ f < n) ∧ ∀ x, CP x → R x M
theorem ok__law_bent (T : Tx K mg A) : FnOk P w K mg base CX0 3 A.f__law_bent A.d__law_bent ["jug", "told", "thing"] (spD K S_bent) := by
  refine fnD T.F__law_bent sc__law_bent (fun ds M R h => by obtain ⟨j, n, st, tab, a, b, c, fs, rfl, _⟩ := h; rfl) fun cdv B up z H E hr ds M R h => ?_
  obtain ⟨j, n, st, tab, a, b, c, fs, rfl, hm, hw, ha, hb, hc, hfl, hf, hR⟩ := h
  refine ⟨_, (pss_cons (ps_par3 (i := 3) (j := 4) (l := 5) rfl sc__law_bent.nd rfl rfl rfl (by decide) (by decide) (by decide) rfl rfl rfl (pa_cons (pe_call (ok__law_pour T) (hr.mono (by decide)) (by rfl) T.g__law_pour T.F__law_pour.kp (b__law_pour T) .nil pass0 (pa_cons (pv 0) (pa_cons pe_int pa_nil))) (pa_cons (pe_call (ok__law_pour T) (hr.mono (by decide)) (by rfl) T.g__law_pour T.F__law_pour.kp (b__law_pour T) .nil pass0 (pa_cons (pv 0) (pa_cons pe_int pa_nil))) (pa_cons (pe_ix (wIx K rfl) (pv 2) pe_int (fun _ _ => rfl)) pa_nil))) rfl) (pss_cons (ps_set (i := 6) sc__law_bent.nd rfl (.inl rfl) (pe_call (ok__law_one T) (hr.mono (by decide)) (by rfl) T.g__law_one T.F__law_one.kp (b__law_one T) .nil pass0 (pa_cons (pv 0) (pa_cons (pe_lst (pa_cons pe_non (pa_cons (pe_un un_neg pe_int) (pa_cons (pe_ix (wIx K rfl) (pv 1) pe_int (fun _ _ => rfl)) (pa_cons (pe_op op_pow pe_int pe_int) (pa_cons pe_str (pa_cons (pe_tup (pa_cons pe_int pa_nil)) (pa_cons (pe_lst (pa_cons pe_int pa_nil)) pa_nil)))))))) pa_nil)))) (pss_cons (ps_if (pt_cmpR (wEq K rfl hr) (pv 3) pe_int (nomark _)) (pss_cons (ps_set (i := 7) sc__law_bent.nd rfl (.inl rfl) (pe_lst (pa_cons (pe_callTy (wListOf K rfl) (by rfl) T.n_list (by decide +kernel) (pa_cons (pv 2) pa_nil)) (pa_cons pe_non (pa_cons (pe_tup pa_nil) (pa_cons (pe_slice (wSl K rfl) (pv 2) po_none (po_some pe_int)) (pa_cons (pe_op (wAdd K rfl) (pv 2) (pe_tup (pa_cons (pe_tup pa_nil) pa_nil))) (pa_cons (pe_op (wAdd K rfl) (pe_slice (wSl K rfl) (pv 2) po_none (po_some pe_int)) (pe_tup (pa_cons (pe_callTy (wListOf K rfl) (by rfl) T.n_list (by decide +kernel) (pa_cons (pv 5) pa_nil)) pa_nil))) (pa_cons (pe_op (wAdd K rfl) (pe_slice (wSl K rfl) (pv 2) po_none (po_some pe_int)) (pe_tup (pa_cons pe_non pa_nil))) pa_nil))))))))) (pss_one (ps_ret (pe_call (ok__law_one T) (hr.mono (by decide)) (by rfl) T.g__law_one T.F__law_one.kp (b__law_one T) .nil pass0 (pa_cons (pv 0) (pa_cons (pe_op (wAdd K rfl) (pv 7) (pe_lst (pa_cons (pe_op (wAdd K rfl) (pe_slice (wSl K rfl) (pv 2) po_none (po_some pe_int)) (pe_tup (pa_cons pe_int pa_nil))) (pa_cons (pe_slice (wSl K rfl) (pv 2) (po_some pe_int) po_none) (pa_cons (pe_tup (pa_cons (pv 2) pa_nil)) pa_nil))))) pa_nil)))))) pss_nil) (pss_cons (ps_if (pt_cmpR (wEq K rfl hr) (pv 3) pe_int (nomark _)) (pss_one (ps_ret (pe_op (wAdd K rfl) (pe_op (wAdd K rfl) (pe_slice (wSl K rfl) (pv 2) po_none (po_some (pv 4))) (pe_tup (pa_cons (pv 6) pa_nil))) (pe_slice (wSl K rfl) (pv 2) (po_some (pe_op (wAdd K rfl) (pv 4) pe_int)) po_none)))) pss_nil) (pss_cons (ps_if (pt_cmpR (wEq K rfl hr) (pv 3) pe_int (nomark _)) (pss_cons (ps_set (i := 8) sc__law_bent.nd rfl (.inl rfl) (pe_call (ok__law_pour T) (hr.mono (by decide)) (by rfl) T.g__law_pour T.F__law_pour.kp (b__law_pour T) .nil pass0 (pa_cons (pv 0) (pa_cons (pe_op (wAdd K rfl) (pe_callB (wLen K rfl) (by rfl) T.n_len PySem.boot_len (pa_cons (pv 5) pa_nil)) pe_int) pa_nil)))) (pss_one (ps_ret (pe_op (wAdd K rfl) (pe_slice (wSl K rfl) (pv 2) po_none (po_some pe_int)) (pe_tup (pa_cons (pe_op (wAdd K rfl) (pe_op (wAdd K rfl) (pe_slice (wSl K rfl) (pv 5) po_none (po_some (pv 8))) (pe_tup (pa_cons (pv 6) pa_nil))) (pe_slice (wSl K rfl) (pv 5) (po_some (pv 8)) po_none)) pa_nil)))))) pss_nil) (pss_cons (ps_if (pt_cmpR (wEq K rfl hr) (pv 3) pe_int (nomark _)) (pss_one (ps_ret (pe_op (wAdd K rfl) (pe_op (wAdd K rfl) (pe_slice (wSl K rfl) (pv 2) po_none (po_some (pv 4))) (pe_tup (pa_cons (pe_op op_mod (pe_callTy wInt (by rfl) T.n_int (by decide +kernel) (pa_cons (pe_op (wAdd K rfl) (pe_ix (wIx K rfl) (pv 2) (pv 4) (fun _ _ => rfl)) pe_int) pa_nil)) (pe_ix (wIx K rfl) (pv 1) pe_int (fun _ _ => rfl))) pa_nil))) (pe_slice (wSl K rfl) (pv 2) (po_some (pe_op (wAdd K rfl) (pv 4) pe_int)) po_none)))) pss_nil) (pss_one (ps_ret (pv 2))))))))), ?_⟩
  walk_at "go"
  refine w_pour hm (by omega) (by omega) fun way w1 w2 => ?_
  walk_at "go"
  refine w_pour hm (by omega) (by omega) fun at0 t1 t2 => ?_
  have h3 : at0 = 0 ∨ at0 = 1 ∨ at0 = 2 := by omega
  have hL : ∀ d ∈ [DV.int a, DV.int b, DV.int c, DV.tup (fs.map .int)], El d := all_cons el_int (all_cons el_int (all_cons el_int (all_cons (el_ints hfl) all_nil)))
  have hcut : ∀ i j, ∀ d ∈ cutL [DV.int a, DV.int b, DV.int c, DV.tup (fs.map .int)] i j, El d := fun i j d hd => hL d (cutL_mem hd)
  have hcl : ∀ i j, (cutL [DV.int a, DV.int b, DV.int c, DV.tup (fs.map .int)] i j).length ≤ 4 := fun i j => cutL_len
  have hLt : El (.tup [DV.int a, DV.int b, DV.int c, DV.tup (fs.map .int)]) := el_tup (by show 4 ≤ 1000; omega) fun e he => (hL e he).ty
  have hLc : CP (.tup [DV.int a, DV.int b, DV.int c, DV.tup (fs.map .int)]) := cp_tup (by show 4 ≤ 1000; omega) hL
  rcases h3 with rfl | rfl | rfl
  all_goals
    walk_at "go"
    refine w_one hm (by simp) (by simp) fun odd ho => ?_
    have ho : El odd := (all_cons el_non (all_cons el_int (all_cons el_int (all_cons el_int (all_cons el_str (all_cons (el_tup (by decide) (all_cons rfl all_nil)) (all_cons el_lst all_nil))))))) odd ho
    have hoty := ho.ty
    walk_at "go"
    all_goals first
      | (refine Nat.le_trans (Nat.add_le_add (hcl _ _) (Nat.le_refl _)) ?_; simp; done)
      | (rw [List.length_append]; refine Nat.le_trans (Nat.add_le_add (Nat.add_le_add (hcl _ _) (Nat.le_refl _)) (hcl _ _)) ?_; simp; done)
      | exact hR _ hLc
      | exact hR _ (cp_tup (by rw [List.length_append, List.length_append]; refine Nat.le_trans (Nat.add_le_add (Nat.add_le_add (hcl _ _) (Nat.le_refl _)) (hcl _ _)) ?_; simp) (all_app (all_app (hcut _ _) (all_cons ho all_nil)) (hcut _ _)))
      | exact hR _ (cp_tup (by rw [List.length_append, List.length_append]; refine Nat.le_trans (Nat.add_le_add (Nat.add_le_add (hcl _ _) (Nat.le_refl _)) (hcl _ _)) ?_; simp) (all_app (all_app (hcut _ _) (all_cons el_int all_nil)) (hcut _ _)))
      | (refine w_one hm (by simp) (by simp) fun d hd => hR d (all_app (P := CP) (all_cons (cp_el el_lst rfl) (all_cons (cp_el el_non rfl) (all_cons (cp_tup (by simp) all_nil) (all_cons (cp_tup (Nat.le_trans (hcl _ _) (by decide)) (hcut _ _)) (all_cons (cp_tup (by simp) (all_app hL (all_cons (el_tup (by simp) all_nil) all_nil))) (all_cons (cp_tup (by rw [List.length_append]; exact Nat.le_trans (Nat.add_le_add (hcl _ _) (Nat.le_refl _)) (by simp)) (all_app (hcut _ _) (all_cons el_lst all_nil))) (all_cons (cp_tup (by rw [List.length_append]; exact Nat.le_trans (Nat.add_le_add (hcl _ _) (Nat.le_refl _)) (by simp)) (all_app (hcut _ _) (all_cons el_non all_nil))) all_nil)))))))
          (all_cons (cp_tup (by rw [List.length_append]; exact Nat.le_trans (Nat.add_le_add (hcl _ _) (Nat.le_refl _)) (by simp)) (all_app (hcut _ _) (all_cons el_int all_nil))) (all_cons (cp_tup (Nat.le_trans (hcl _ _) (by decide)) (hcut _ _)) (all_cons (cp_tup (by simp) (all_cons hLt all_nil)) all_nil))) d hd))
      | skip
    refine w_pour hm (by omega) (by omega) fun q q1 q2 => ?_
    walk_at "go"
    all_goals first
      | (refine Nat.le_trans (Nat.add_le_add (hcl _ _) (Nat.le_refl _)) ?_; simp; done)
      | exact hR _ (cp_tup (by rw [List.length_append]; exact Nat.le_trans (Nat.add_le_add (hcl _ _) (Nat.le_refl _)) (by simp)) (all_app (hcut _ _) (all_cons (el_tup (by simp; omega) (all_app (all_app ints_ty (all_cons hoty all_nil)) ints_ty)) all_nil)))

/-! some = [], some + [..], owned -/
theorem rvr_addCC {M : Ms} {R : DV → Ms → Prop} {a : Addr} {ds es : List DV} (hm : (a, MO.lst ds) ∈ M) (hl : ds.length + es.length ≤ 100000) (k : ∀ p, R (.raw (.ref p)) ((p, .lst (ds ++ es)) :: M)) : RVR K (rAddU K) (.raw (.ref a)) (.lst es) M R := fun N F u v H w h1 h2 Q q => .inr (.inr (.inr (by
  cases h1.raw_of
  obtain ⟨_, xs, ha, ra⟩ := w.ce a _ (List.mem_append_right N hm)
  obtain ⟨b, ys, rfl, hb, rb⟩ := h2.lst_of
  refine ⟨a, b, xs, ys, rfl, rfl, ha, w.fr _ _ hb, Evl.sz_of (by rw [ra.length, rb.length]; exact hl), fun p hp => ?_⟩
  exact q _ _ ((p, .lst (ds ++ es)) :: M) F _ (Evl.Ex.refl F) (k p) ((w.cell (mo := .lst (ds ++ es)) hp ⟨xs ++ ys, upd_same, ra.append rb⟩).perm List.perm_middle) (.raw _))))
theorem w_bent {M : Ms} {R : DV → Ms → Prop} {j : Addr} {n : Int} {st tab : List (Int × Int)} {a b c : Int} {fs : List Int} (hm : (j, jugO) ∈ M) (hw : MixOk n st tab) (ha : 0 ≤ a ∧ a < n) (hb : 0 ≤ b ∧ b < n) (hc : 0 ≤ c ∧ c < n) (hl : fs.length ≤ 8) (hf : ∀ f ∈ fs, 0 ≤ f ∧ f < n) (k : ∀ x, CP x → R x M) : S_bent [.raw (.ref j), mixTold n st tab, .tup [.int a, .int b, .int c, .tup (fs.map .int)]] M R := ⟨j, n, st, tab, a, b, c, fs, rfl, hm, hw, ha, hb, hc, hl, hf, k⟩
theorem fit_bool {b : Bool} : Fit (.bl b) := ⟨rfl, by show 0 ≤ 60; decide, by show 0 ≤ 100000; decide⟩
theorem atI_last {ds : List DV} (h : 0 < ds.length) : ∃ d, atI ds (-1) = some d ∧ d ∈ ds := by
  refine ⟨ds[ds.length - 1], ?_, List.getElem_mem _⟩
  unfold atI ixN
  rw [if_neg (by omega), if_pos (by omega)]
  show ds[((-1 : Int) + ds.length).toNat]? = _
  rw [show ((-1 : Int) + ds.length).toNat = ds.length - 1 by omega]
  exact List.getElem?_eq_getElem (by omega)
def S_right : SpecD := fun ds M R => ∃ j : Addr, ds = [.raw (.ref j)] ∧ (j, jugO) ∈ M ∧ R (.bl true) M
local macro_rules | `(tactic| walk_at "st_xs") => `(tactic| (with_reducible refine' w_par (ear_cons ?_)))
theorem ok__law_right (T : Tx K mg A) : FnG P w K mg base CX0 10 A.f__law_right A.d__law_right ["jug"] (spD K S_right) := by
  refine fnDG T.F__law_right sc__law_right (fun ds M R h => by obtain ⟨j, rfl, _⟩ := h; rfl) fun cdv B up z H E hG hr ds M R h => ?_
  obtain ⟨j, rfl, hm, hR⟩ := h
  refine ⟨_, (pss_cons (ps_for PassesOwn.never rfl (pi_range1 rfl T.n_range (pa_cons pe_int pa_nil)) (pg_name (i := 1) sc__law_right.nd rfl (.inl rfl)) (pss_cons (ps_set (i := 2) sc__law_right.nd rfl (.inl rfl) (pe_call (ok__law_any_mix T) (hr.mono (by decide)) (by rfl) T.g__law_any_mix T.F__law_any_mix.kp (b__law_any_mix T) .nil pass0 (pa_cons (pv 0) (pa_cons pe_int pa_nil)))) (pss_cons (ps_asg (pe_tup (pa_cons (pe_call (ok__law_arising T) (hr.mono (by decide)) (by rfl) T.g__law_arising T.F__law_arising.kp (b__law_arising T) .nil pass0 (pa_cons (pv 2) pa_nil)) (pa_cons (pe_lst pa_nil) pa_nil))) (wTupG K rfl (pg_tup rfl (pgs_cons (pg_name (i := 3) sc__law_right.nd rfl (.inr rfl)) (pgs_cons (pg_name (i := 4) sc__law_right.nd rfl (.inl rfl)) pgs_nil))))) (pss_cons (ps_for PassesOwn.never rfl (wList K rfl (pv 3)) (pg_name (i := 5) sc__law_right.nd rfl (.inr rfl)) (pss_one (ps_for PassesOwn.never rfl (wList K rfl (pv 3)) (pg_name (i := 6) sc__law_right.nd rfl (.inr rfl)) (pss_one (ps_set (i := 4) sc__law_right.nd rfl (.inl rfl) (pe_op (wAdd K rfl) (pv 4) (pe_lc (own := [("c", 7)]) rfl sc__law_right.nd (wList K rfl (pv 3)) (blkOk_by (own := [("c", 7)]) (N := ["jug", "again", "told", "kinds_here", "some", "a", "b", "c", "turn", "further", "k", "thing", "due"]) (sc := defScope s__law_right) (by decide +kernel)) (fun _ _ _ _ _ => (pg_name (i := 7) sc__law_right.nd rfl (.inl rfl))) (fun _ _ _ _ _ => pts_nil) (fun _ _ _ _ _ => (pe_tup (pa_cons (pv 5) (pa_cons (pv 6) (pa_cons (pv 7) (pa_cons (pe_tup pa_nil) pa_nil))))))))))))) (pss_cons (ps_for PassesOwn.never rfl (pi_range1 rfl T.n_range (pa_cons pe_int pa_nil)) (pg_name (i := 8) sc__law_right.nd rfl (.inl rfl)) (pss_cons (ps_set (i := 9) sc__law_right.nd rfl (.inl rfl) (pe_callTy (wTupOf K rfl) (by rfl) T.n_tuple (by decide +kernel) (pa_cons (pe_lc (own := [("k", 10)]) rfl sc__law_right.nd (pi_range1 rfl T.n_range (pa_cons (pe_call (ok__law_pour T) (hr.mono (by decide)) (by rfl) T.g__law_pour T.F__law_pour.kp (b__law_pour T) .nil pass0 (pa_cons (pv 0) (pa_cons pe_int pa_nil))) pa_nil)) (blkOk_by (own := [("k", 10)]) (N := ["jug", "again", "told", "kinds_here", "some", "a", "b", "c", "turn", "further", "k", "thing", "due"]) (sc := defScope s__law_right) (by decide +kernel)) (fun _ _ _ _ _ => (pg_name (i := 10) sc__law_right.nd rfl (.inl rfl))) (fun _ _ _ _ _ => pts_nil) (fun _ _ _ _ _ => (pe_call (ok__law_one T) (hr.mono (by decide)) (by rfl) T.g__law_one T.F__law_one.kp (b__law_one T) .nil pass0 (pa_cons (pv 0) (pa_cons (pv 3) pa_nil))))) pa_nil))) (pss_cons (ps_set (i := 11) sc__law_right.nd rfl (.inl rfl) (pe_op (wAdd K rfl) (pe_callTy (wTupOf K rfl) (by rfl) T.n_tuple (by decide +kernel) (pa_cons (pe_lc (own := [("k", 10)]) rfl sc__law_right.nd (pi_range1 rfl T.n_range (pa_cons pe_int pa_nil)) (blkOk_by (own := [("k", 10)]) (N := ["jug", "again", "told", "kinds_here", "some", "a", "b", "c", "turn", "further", "k", "thing", "due"]) (sc := defScope s__law_right) (by decide +kernel)) (fun _ _ _ _ _ => (pg_name (i := 10) sc__law_right.nd rfl (.inl rfl))) (fun _ _ _ _ _ => pts_nil) (fun _ _ _ _ _ => (pe_call (ok__law_one T) (hr.mono (by decide)) (by rfl) T.g__law_one T.F__law_one.kp (b__law_one T) .nil pass0 (pa_cons (pv 0) (pa_cons (pv 3) pa_nil))))) pa_nil)) (pe_tup (pa_cons (pv 9) pa_nil)))) (pss_one (ps_expr (wBm K rfl (pe_bm PySem.F.plainAttrs_list PySem.F.slot_list_append PySem.F.type_list_append mt_append (pv 4) (pa_cons (pe_call (ok__law_bent T) (hr.mono (by decide)) (by rfl) T.g__law_bent T.F__law_bent.kp (b__law_bent T) .nil pass0 (pa_cons (pv 0) (pa_cons (pv 2) (pa_cons (pv 11) pa_nil)))) pa_nil)))))))) (pss_cons (ps_for PassesOwn.never rfl (wList K rfl (pv 4)) (pg_name (i := 11) sc__law_right.nd rfl (.inl rfl)) (pss_cons (ps_set (i := 12) sc__law_right.nd rfl (.inl rfl) (pe_call (ok__law_clash_shown T) (hr.mono (by decide)) (by rfl) T.g__law_clash_shown T.F__law_clash_shown.kp (b__law_clash_shown T) .nil pass0 (pa_cons (pv 2) (pa_cons (pv 11) pa_nil)))) (pss_one (ps_if (pt_cmpR (wNe K rfl hr) (pe_callB (wRepr K rfl hG hr) (by rfl) T.n_repr (by decide +kernel) (pa_cons (pe_call (ok_holds T) (hr.mono (by decide)) (by rfl) T.g_holds T.F_holds.kp (b_holds T) .nil pass0 (pa_cons (pe_tup (pa_cons pe_str (pa_cons (pv 2) pa_nil))) (pa_cons (pv 11) pa_nil))) pa_nil)) (pe_callB (wRepr K rfl hG hr) (by rfl) T.n_repr (by decide +kernel) (pa_cons (pv 12) pa_nil)) (nomark _)) (pss_one (ps_ret pe_bl)) pss_nil)))) (pss_one (ps_if (pt_cmpR (wNe K rfl hr) (pe_callB (wRepr K rfl hG hr) (by rfl) T.n_repr (by decide +kernel) (pa_cons (pe_callK0 (ok_holds T) (hr.mono (by decide)) (by rfl) T.g_holds T.F_holds.kp (kbinds_mk (ks := ["paper", "claim"]) (n := 0) (m := 2) (perm := [1, 0]) T.F_holds (by decide) (fun _ _ _ _ _ _ us ws h1 h2 => match us, h1, ws, h2 with | [], _, [_, _], _ => rfl)) pass0 (pk_cons (pe_ix (wIx K rfl) (pv 4) (pe_un un_neg pe_int) (fun _ _ => rfl)) (pk_cons (pe_tup (pa_cons pe_str (pa_cons (pv 2) pa_nil))) pk_nil))) pa_nil)) (pe_callB (wRepr K rfl hG hr) (by rfl) T.n_repr (by decide +kernel) (pa_cons (pe_call (ok__law_clash_shown T) (hr.mono (by decide)) (by rfl) T.g__law_clash_shown T.F__law_clash_shown.kp (b__law_clash_shown T) .nil pass0 (pa_cons (pv 2) (pa_cons (pe_ix (wIx K rfl) (pv 4) (pe_un un_neg pe_int) (fun _ _ => rfl)) pa_nil))) pa_nil)) (nomark _)) (pss_one (ps_ret pe_bl)) pss_nil)))))))) (pss_one (ps_ret pe_bl))), ?_⟩
  refine xs_out ?_
  walk_at "go"
  refine w_for1M 3 (by decide) ?_ (fun i ρ' M' => (∃ v1 v2 v3 v4 v5 v6 v7 v8 v9 v10 v11 v12, ρ' = [some (.raw (.ref j)), v1, v2, v3, v4, v5, v6, v7, v8, v9, v10, v11, v12]) ∧ ∃ C, M' = C ++ M) ⟨⟨none, none, none, none, none, none, none, none, none, none, none, none, rfl⟩, [], rfl⟩ (fun i ρ' M' hi hinv => ?_) fun ρ' M' hinv => ?_
  · walk_at "go"
    exact w_rg1 rfl
  · obtain ⟨⟨b1, b2, b3, b4, b5, b6, b7, b8, b9, b10, b11, b12, rfl⟩, C, rfl⟩ := hinv
    have hmC : (j, jugO) ∈ C ++ M := List.mem_append_right C hm
    walk_at "go"
    refine w_told hmC (by decide) (by decide) fun n st tab hw hn hs2 ht2 => ?_
    have n1 := hw.n1; have n2 := hw.n2; have s1 := hw.s1; have s2 := hw.s2
    walk_at "go"
    refine ⟨n, st, tab, rfl, hw, by omega, fun ks hks => ?_⟩
    have kok : ∀ k ∈ ks, 0 ≤ k ∧ k < n := fun k hk => ((hks.mem k).mp hk).ok hw
    have klen := (asc_len hks.asc kok).resolve_right fun h => by omega
    have kpos : 0 < ks.length := List.length_pos_of_mem ((hks.mem _).mpr (.start (List.getElem_mem (show 0 < st.length from s1))))
    refine ear_cons (evr_lstC (ear_nil ⟨by decide, fun p0 => ear_nil ⟨by show 2 ≤ 100000; omega, ?_⟩⟩))
    walk_at "go"
    refine w_forLM (ds := ks.map .int) ?_ (fun q ρ' M' => ∃ (x y z t : Option DV) (p : Addr) (ds : List DV) (E : Ms), ρ' = [some (.raw (.ref j)), some (.int i), some (mixTold n st tab), some (.lst (ks.map .int)), some (.raw (.ref p)), x, y, z, b8, b9, b10, b11, t] ∧ M' = (p, .lst ds) :: (E ++ (C ++ M)) ∧ ds.length ≤ 25 * q ∧ ∀ d ∈ ds, CP d) ⟨_, _, _, _, p0, [], [], rfl, rfl, Nat.zero_le _, fun _ h => nomatch h⟩ (fun q ρ' M' d hd hinv => ?_) fun ρ' M' hinv => ?_
    · walk_at "go"
      exact ⟨rfl, rfl⟩
    · obtain ⟨x, y, z, t, p, ds, E, rfl, rfl, hdl, hdc⟩ := hinv
      obtain ⟨a, ha, hak, rfl⟩ := ints_get hd
      refine bd_name ?_
      walk_at "go"
      refine w_forLM (ds := ks.map .int) ?_ (fun r ρ' M' => ∃ (y z t : Option DV) (p : Addr) (ds : List DV) (E : Ms), ρ' = [some (.raw (.ref j)), some (.int i), some (mixTold n st tab), some (.lst (ks.map .int)), some (.raw (.ref p)), some (.int a), y, z, b8, b9, b10, b11, t] ∧ M' = (p, .lst ds) :: (E ++ (C ++ M)) ∧ ds.length ≤ 25 * q + 5 * r ∧ ∀ d ∈ ds, CP d) ⟨_, _, _, p, ds, E, rfl, rfl, by omega, hdc⟩ (fun r ρ' M' d hd hinv => ?_) fun ρ' M' hinv => ?_
      · walk_at "go"
        exact ⟨rfl, rfl⟩
      · obtain ⟨y, z, t, p, ds, E, rfl, rfl, hdl, hdc⟩ := hinv
        obtain ⟨b, hb, hbk, rfl⟩ := ints_get hd
        refine bd_name ?_
        walk_at "go"
        refine w_lcLp (xs := ks) (f := DV.int) (fun c => .tup [.int a, .int b, .int c, .tup []]) (by omega) ?_ (bdw_name (by simp)) (fun c hc => ?_) ?_
        · walk_at "go"
          exact ⟨rfl, rfl⟩
        · walk_at "go"
          exact ⟨rfl, rfl⟩
        have hq := (List.getElem?_eq_some_iff.mp ha).1
        have hr := (List.getElem?_eq_some_iff.mp hb).1
        refine rvr_addCC List.mem_cons_self (by rw [List.length_map]; omega) fun p2 => ?_
        walk_at "go"
        refine ⟨_, _, _, p2, _, (p, _) :: E, rfl, rfl, by rw [List.length_append, List.length_map]; omega, all_app hdc fun d hd => ?_⟩
        obtain ⟨c, hc, rfl⟩ := List.mem_map.mp hd
        exact cp_tup (by show 4 ≤ 1000; omega) (all_cons el_int (all_cons el_int (all_cons el_int (all_cons (el_tup (by decide) all_nil) all_nil))))
      · obtain ⟨y, z, t, p, ds, E, rfl, rfl, hdl, hdc⟩ := hinv
        rw [List.length_map] at hdl
        exact ⟨_, _, _, _, p, ds, E, rfl, rfl, by omega, hdc⟩
    obtain ⟨x, y, z, t, p, ds, E, rfl, rfl, hdl, hdc⟩ := hinv
    rw [List.length_map] at hdl
    walk_at "go"
    refine w_for1M 10 (by decide) ?_ (fun q ρ' M' => ∃ (u8 u9 u10 u11 u12 : Option DV) (ds : List DV), ρ' = [some (.raw (.ref j)), some (.int i), some (mixTold n st tab), some (.lst (ks.map .int)), some (.raw (.ref p)), x, y, z, u8, u9, u10, u11, u12] ∧ M' = (p, .lst ds) :: (E ++ (C ++ M)) ∧ ds.length ≤ 200 + q ∧ (0 < q → 0 < ds.length) ∧ ∀ d ∈ ds, CP d) ⟨_, _, _, _, _, ds, rfl, rfl, by omega, fun h => absurd h (Nat.lt_irrefl 0), hdc⟩ (fun q ρ' M' hq hinv => ?_) fun ρ' M' hinv => ?_
    · walk_at "go"
      exact w_rg1 rfl
    · obtain ⟨u8, u9, u10, u11, u12, ds, rfl, rfl, hdl, _, hdc⟩ := hinv
      have hmP : (j, jugO) ∈ ((p, MO.lst ds) :: (E ++ (C ++ M))) := List.mem_cons_of_mem _ (List.mem_append_right _ hmC)
      walk_at "go"
      refine w_lc1X (α := Int) (f := DV.int) (ok := fun t => 0 ≤ t ∧ t < n) 5 (by decide) ?_ (fun i hi => ?_) (by simp) (fun fs hfl hfk => ?_)
      · walk_at "go"
        refine w_pour hmP (by omega) (by omega) fun r r1 r2 => ?_
        walk_at "go"
        exact ⟨rfl, r.toNat, by rw [show ((r.toNat : Nat) : Int) = r by omega], by omega⟩
      · walk_at "go"
        refine w_one hmP (by rw [List.length_map]; exact kpos) (by rw [List.length_map]; omega) fun d hd => ?_
        obtain ⟨k, hk, rfl⟩ := List.mem_map.mp hd
        exact ⟨rfl, k, rfl, kok k hk⟩
      walk_at "go"
      refine w_lcR (α := Int) (n := (3 : Int).toNat) (f := DV.int) (ok := fun t => 0 ≤ t ∧ t < n) (ei_rng1 (j := 3) ?_ (by omega)) (by decide) (bdw_name (by simp)) (fun i hi => bd_name ?_) (fun abc habc hok => ?_)
      · walk_at "go"
        exact ⟨rfl, rfl⟩
      · walk_at "go"
        refine w_one hmP (by rw [List.length_map]; exact kpos) (by rw [List.length_map]; omega) fun d hd => ?_
        obtain ⟨k, hk, rfl⟩ := List.mem_map.mp hd
        exact ⟨rfl, k, rfl, kok k hk⟩
      obtain ⟨a, b, c, rfl⟩ : ∃ a b c, abc = [a, b, c] := by
        match abc, habc with
        | [a, b, c], _ => exact ⟨a, b, c, rfl⟩
      walk_at "go"
      refine w_bent (fs := fs) hmP hw (hok a (by simp)) (hok b (by simp)) (hok c (by simp)) (by omega) hfk fun X hX => ?_
      walk_at "go"
      exact ⟨_, _, _, _, _, ds ++ [X], rfl, rfl, by rw [List.length_append]; show ds.length + 1 ≤ _; omega, fun _ => by rw [List.length_append]; exact Nat.succ_pos _, all_app hdc (all_cons hX all_nil)⟩
    obtain ⟨u8, u9, u10, u11, u12, ds, rfl, rfl, hdl, hdp, hdc⟩ := hinv
    have hdp := hdp (by decide)
    have hmS : (p, MO.lst ds) ∈ ((p, MO.lst ds) :: (E ++ (C ++ M))) := List.mem_cons_self
    walk_at "go"
    refine w_for (G := [(p, MO.lst ds)]) (n := ds.length) (ei_lstC ?_) (fun c hc => by rw [List.mem_singleton.mp hc]; exact hmS) (fun q ρ' => ∃ v11 v12, ρ' = [some (.raw (.ref j)), some (.int i), some (mixTold n st tab), some (.lst (ks.map .int)), some (.raw (.ref p)), x, y, z, u8, u9, u10, v11, v12]) ⟨_, _, rfl⟩ (fun q ρ' hq hinv => ?_) fun ρ' hinv => ?_
    · walk_at "go"
      exact ⟨rfl, hmS, rfl⟩
    · obtain ⟨v11, v12, rfl⟩ := hinv
      refine bd_name ?_
      have hcp := hdc _ (nth_mem hq)
      generalize nth ds q = X at hcp ⊢
      walk_at "go"
      refine ⟨n, st, tab, X, rfl, hw, by omega, hcp, fun ks1 h1 => ?_⟩
      obtain rfl := hks.unique h1
      walk_at "go"
      refine ⟨n, st, tab, X, rfl, hw, hcp, fun ks1 h1 => ?_⟩
      obtain rfl := hks.unique h1
      have ff : Fit (.bl (clashAt n tab ks X)) := fit_bool
      walk_at "go"
      exact ⟨rfl, _, _, rfl⟩
    · obtain ⟨v11, v12, rfl⟩ := hinv
      obtain ⟨X, hX, hXm⟩ := atI_last hdp
      have hcp := hdc _ hXm
      walk_at "go"
      refine ⟨n, st, tab, X, rfl, hw, hcp, fun ks1 h1 => ?_⟩
      obtain rfl := hks.unique h1
      walk_at "go"
      refine ⟨n, st, tab, X, rfl, hw, by omega, hcp, fun ks1 h1 => ?_⟩
      obtain rfl := hks.unique h1
      have ff : Fit (.bl (clashAt n tab ks X)) := fit_bool
      walk_at "go"
      exact ⟨⟨_, _, _, _, _, _, _, _, _, _, _, _, rfl⟩, (p, MO.lst ds) :: (E ++ C), by rw [List.cons_append, List.append_assoc]⟩
  · obtain ⟨⟨b1, b2, b3, b4, b5, b6, b7, b8, b9, b10, b11, b12, rfl⟩, C, rfl⟩ := hinv
    walk_at "go"
    exact ⟨C, M, rfl, hR⟩

/-! ### what is asked of the law -/
def S_law : SpecD := fun ds M R => ∃ ns : List Int, ds = [.rd (ns.map .int)] ∧ ns.length ≤ 63 ∧ R (.bl true) M
abbrev spLaw (K : PySem.W.Frag) : Sp := spD K S_law
theorem law_asks {H : Hp} {a : Addr} {ns : List Int} {E : XK} (hl : ns.length ≤ 63) (hS : SqL K H a (ns.map V.int)) : spLaw K [.ref a] H (fun v _ => v = .bl true) E :=
  ⟨H, [], [], [.rd (ns.map .int)], fun d _ => d = .bl true, ⟨Evl.Ex.refl H, (fun _ _ h => nomatch h), List.nodup_nil⟩, .cons (.rd hS (RpA.ints ns)) .nil, ⟨ns, rfl, hl, rfl⟩, fun v d M' F' H' _ h _ r => by subst h; exact r.bl_of⟩

/-! ### the law: all of some jugs -/
theorem ok_law (T : Tx K mg A) : FnG P w K mg base CX0 11 A.f_law A.d_law ["script"] (spLaw K) := by
  refine fnDG T.F_law sc_law (fun ds M R h => by obtain ⟨ns, rfl, _⟩ := h; rfl) fun cdv B up z H E hG hr ds M R h => ?_
  obtain ⟨ns, rfl, hl, hR⟩ := h
  refine ⟨_, (pss_one (ps_ret (pe_callB (wAll K rfl rfl) (by rfl) T.n_all (by decide +kernel) (pa_cons (pe_lc (own := [("k", 1)]) rfl sc_law.nd (pi_range1 rfl T.n_range (pa_cons (pe_callB (wMax2 rfl) (by rfl) T.n_max (by decide +kernel) (pa_cons pe_int (pa_cons (pe_callB (wMin2 rfl) (by rfl) T.n_min (by decide +kernel) (pa_cons (pe_callB (wLen K rfl) (by rfl) T.n_len PySem.boot_len (pa_cons (pv 0) pa_nil)) (pa_cons pe_int pa_nil))) pa_nil))) pa_nil)) (blkOk_by (own := [("k", 1)]) (N := ["script", "k"]) (sc := defScope s_law) (by decide +kernel)) (fun _ _ _ _ _ => (pg_name (i := 1) sc_law.nd rfl (.inl rfl))) (fun _ _ _ _ _ => pts_nil) (fun _ _ _ _ _ => (pe_callG hG (ok__law_right T) (hr.mono (by decide)) (by rfl) T.g__law_right T.F__law_right.kp (b__law_right T) .nil pass0 (pa_cons (pe_call (ok__law_jug T) (hr.mono (by decide)) (by rfl) T.g__law_jug T.F__law_jug.kp (b__law_jug T) .nil pass0 (pa_cons (pv 0) (pa_cons (pv 1) pa_nil))) pa_nil)))) pa_nil)))), ?_⟩
  generalize hk : (if (if 5 < (ns.length : Int) then (5 : Int) else ns.length) > 2 then (if 5 < (ns.length : Int) then (5 : Int) else ns.length) else 2) = k
  have k0 : 0 ≤ k := by rw [← hk]; repeat' split <;> omega
  have k1 : k ≤ 5 := by rw [← hk]; repeat' split <;> omega
  refine xs_ret (evr_cb (ear_cons (evr_lc (ei_rng1 (j := k) (RM := fun M' => M' = M) (EvA.go (ds := [.int k]) (ea_cons (Ev.is (ev_cb (ea_cons ev_cI (ea_cons (ev_cb (ea_cons (ev_cb (ea_cons (ev_var rfl) ea_nil) rc_lenR) (ea_cons ev_cI ea_nil)) rc_min2) ea_nil)) rc_max2) (by rw [List.length_map]; exact congrArg DV.int hk)) ea_nil) ⟨rfl, rfl⟩) ⟨by omega, by omega⟩) (by omega) (fun i acc M' => M' = M ∧ acc = (List.replicate i true).map .bl) (fun M' e => ⟨e, rfl⟩) (fun _ _ _ _ _ c hc => nomatch hc) (bdw_name (by simp)) (fun i acc M' hi hinv => ?_) fun acc M' hl2 hinv => ?_)))
  · obtain ⟨rfl, rfl⟩ := hinv
    refine bd_name (etr_yes ?_)
    show EvR K _ _ _ _
    refine evr_drop (evr_call (ear_cons (evr_call (EvA.go (by walk_at "ea") ⟨ns, i, rfl, by omega, hl, fun p => ear_nil ⟨p, rfl, List.mem_cons_self, _, _, rfl, rfl, ?_⟩⟩))))
    rw [List.replicate_succ', List.map_append]; rfl
  · obtain ⟨rfl, rfl⟩ := hinv
    refine ear_nil (RC.go rc_allL ?_)
    rw [show (List.replicate k.toNat true).all id = true from List.all_eq_true.mpr fun b hb => by rw [List.eq_of_mem_replicate hb]; rfl]
    exact hR

end
theorem all_mk {l : PySem.W.OpenLaw} {w : World} {K : PySem.W.Frag} {h : Heap} {mg : Str → Option Value} {fa : Addr} (X : K.In h) (G : h.Ns mainGlobals mg) (hfa : mg "law" = some (.ref fa))
    {f0 : Addr} {od0 an0 : Option Addr} {sl0 : Array (Option Value)} {oc0 kV0 dc0 pm0 cd0 ct0 : Value}
    {f1 : Addr} {od1 an1 : Option Addr} {sl1 : Array (Option Value)} {oc1 kV1 dc1 pm1 cd1 ct1 : Value}
    {f2 : Addr} {od2 an2 : Option Addr} {sl2 : Array (Option Value)} {oc2 kV2 dc2 pm2 cd2 ct2 : Value}
    {f3 : Addr} {od3 an3 : Option Addr} {sl3 : Array (Option Value)} {oc3 kV3 dc3 pm3 cd3 ct3 : Value}
    {f4 : Addr} {od4 an4 : Option Addr} {sl4 : Array (Option Value)} {oc4 kV4 dc4 pm4 cd4 ct4 : Value}
    {f5 : Addr} {od5 an5 : Option Addr} {sl5 : Array (Option Value)} {oc5 kV5 dc5 pm5 cd5 ct5 : Value}
    {f6 : Addr} {od6 an6 : Option Addr} {sl6 : Array (Option Value)} {oc6 kV6 dc6 pm6 cd6 ct6 : Value}
    {f7 : Addr} {od7 an7 : Option Addr} {sl7 : Array (Option Value)} {oc7 kV7 dc7 pm7 cd7 ct7 : Value}
    {f8 : Addr} {od8 an8 : Option Addr} {sl8 : Array (Option Value)} {oc8 kV8 dc8 pm8 cd8 ct8 : Value}
    {f9 : Addr} {od9 an9 : Option Addr} {sl9 : Array (Option Value)} {oc9 kV9 dc9 pm9 cd9 ct9 : Value}
    {f10 : Addr} {od10 an10 : Option Addr} {sl10 : Array (Option Value)} {oc10 kV10 dc10 pm10 cd10 ct10 : Value}
    {f11 : Addr} {od11 an11 : Option Addr} {sl11 : Array (Option Value)} {oc11 kV11 dc11 pm11 cd11 ct11 : Value}
    {f12 : Addr} {od12 an12 : Option Addr} {sl12 : Array (Option Value)} {oc12 kV12 dc12 pm12 cd12 ct12 : Value}
    {f13 : Addr} {od13 an13 : Option Addr} {sl13 : Array (Option Value)} {oc13 kV13 dc13 pm13 cd13 ct13 : Value}
    {f14 : Addr} {od14 an14 : Option Addr} {sl14 : Array (Option Value)} {oc14 kV14 dc14 pm14 cd14 ct14 : Value}
    {f15 : Addr} {od15 an15 : Option Addr} {sl15 : Array (Option Value)} {oc15 kV15 dc15 pm15 cd15 ct15 : Value}
    {f16 : Addr} {od16 an16 : Option Addr} {sl16 : Array (Option Value)} {oc16 kV16 dc16 pm16 cd16 ct16 : Value}
    {f17 : Addr} {od17 an17 : Option Addr} {sl17 : Array (Option Value)} {oc17 kV17 dc17 pm17 cd17 ct17 : Value}
    {f18 : Addr} {od18 an18 : Option Addr} {sl18 : Array (Option Value)} {oc18 kV18 dc18 pm18 cd18 ct18 : Value}
    {f19 : Addr} {od19 an19 : Option Addr} {sl19 : Array (Option Value)} {oc19 kV19 dc19 pm19 cd19 ct19 : Value}
    {f20 : Addr} {od20 an20 : Option Addr} {sl20 : Array (Option Value)} {oc20 kV20 dc20 pm20 cd20 ct20 : Value}
    {f21 : Addr} {od21 an21 : Option Addr} {sl21 : Array (Option Value)} {oc21 kV21 dc21 pm21 cd21 ct21 : Value}
    {f22 : Addr} {od22 an22 : Option Addr} {sl22 : Array (Option Value)} {oc22 kV22 dc22 pm22 cd22 ct22 : Value}
    {f23 : Addr} {od23 an23 : Option Addr} {sl23 : Array (Option Value)} {oc23 kV23 dc23 pm23 cd23 ct23 : Value}
    {f24 : Addr} {od24 an24 : Option Addr} {sl24 : Array (Option Value)} {oc24 kV24 dc24 pm24 cd24 ct24 : Value}
    {f25 : Addr} {od25 an25 : Option Addr} {sl25 : Array (Option Value)} {oc25 kV25 dc25 pm25 cd25 ct25 : Value}
    {f26 : Addr} {od26 an26 : Option Addr} {sl26 : Array (Option Value)} {oc26 kV26 dc26 pm26 cd26 ct26 : Value}
    {f27 : Addr} {od27 an27 : Option Addr} {sl27 : Array (Option Value)} {oc27 kV27 dc27 pm27 cd27 ct27 : Value}
    {f28 : Addr} {od28 an28 : Option Addr} {sl28 : Array (Option Value)} {oc28 kV28 dc28 pm28 cd28 ct28 : Value}
    {f29 : Addr} {od29 an29 : Option Addr} {sl29 : Array (Option Value)} {oc29 kV29 dc29 pm29 cd29 ct29 : Value}
    {f30 : Addr} {od30 an30 : Option Addr} {sl30 : Array (Option Value)} {oc30 kV30 dc30 pm30 cd30 ct30 : Value}
    {f31 : Addr} {od31 an31 : Option Addr} {sl31 : Array (Option Value)} {oc31 kV31 dc31 pm31 cd31 ct31 : Value}
    {f32 : Addr} {od32 an32 : Option Addr} {sl32 : Array (Option Value)} {oc32 kV32 dc32 pm32 cd32 ct32 : Value}
    {f33 : Addr} {od33 an33 : Option Addr} {sl33 : Array (Option Value)} {oc33 kV33 dc33 pm33 cd33 ct33 : Value}
    {C_Mixture : Addr}
    {t_MOST_GIFT : Tok}
    {t_MOST_INPUTS : Tok}
    {t_MOST_KINDS : Tok}
    (aC_Mixture : PySem.W.nsIn K mainGlobals "Mixture" = some (some (.ref C_Mixture)))
    (a0 : PySem.W.nsIn K mainGlobals "is_between" = some (some (.ref f0)))
    (l0 : K.lookup f0 = some ⟨oc0, od0, .func (PySem.W.fnOf "is_between" "is_between" (defArgs s_is_between) (defBody s_is_between) (defScope s_is_between) .none kV0 dc0 pm0 an0 cd0 ct0), sl0⟩)
    (c0 : PySem.W.codeIn K cd0 "is_between" = true)
    (k0 : PySem.W.keepIn K (.ref f0) = true)
    (a1 : PySem.W.nsIn K mainGlobals "is_entry" = some (some (.ref f1)))
    (l1 : K.lookup f1 = some ⟨oc1, od1, .func (PySem.W.fnOf "is_entry" "is_entry" (defArgs s_is_entry) (defBody s_is_entry) (defScope s_is_entry) .none kV1 dc1 pm1 an1 cd1 ct1), sl1⟩)
    (c1 : PySem.W.codeIn K cd1 "is_entry" = true)
    (k1 : PySem.W.keepIn K (.ref f1) = true)
    (a2 : PySem.W.nsIn K mainGlobals "wrong_entry" = some (some (.ref f2)))
    (l2 : K.lookup f2 = some ⟨oc2, od2, .func (PySem.W.fnOf "wrong_entry" "wrong_entry" (defArgs s_wrong_entry) (defBody s_wrong_entry) (defScope s_wrong_entry) .none kV2 dc2 pm2 an2 cd2 ct2), sl2⟩)
    (c2 : PySem.W.codeIn K cd2 "wrong_entry" = true)
    (k2 : PySem.W.keepIn K (.ref f2) = true)
    (a3 : PySem.W.nsIn K mainGlobals "check_starts" = some (some (.ref f3)))
    (l3 : K.lookup f3 = some ⟨oc3, od3, .func (PySem.W.fnOf "check_starts" "check_starts" (defArgs s_check_starts) (defBody s_check_starts) (defScope s_check_starts) .none kV3 dc3 pm3 an3 cd3 ct3), sl3⟩)
    (c3 : PySem.W.codeIn K cd3 "check_starts" = true)
    (k3 : PySem.W.keepIn K (.ref f3) = true)
    (a4 : PySem.W.nsIn K mainGlobals "check_table" = some (some (.ref f4)))
    (l4 : K.lookup f4 = some ⟨oc4, od4, .func (PySem.W.fnOf "check_table" "check_table" (defArgs s_check_table) (defBody s_check_table) (defScope s_check_table) .none kV4 dc4 pm4 an4 cd4 ct4), sl4⟩)
    (c4 : PySem.W.codeIn K cd4 "check_table" = true)
    (k4 : PySem.W.keepIn K (.ref f4) = true)
    (a5 : PySem.W.nsIn K mainGlobals "place_in_table" = some (some (.ref f5)))
    (l5 : K.lookup f5 = some ⟨oc5, od5, .func (PySem.W.fnOf "place_in_table" "place_in_table" (defArgs s_place_in_table) (defBody s_place_in_table) (defScope s_place_in_table) .none kV5 dc5 pm5 an5 cd5 ct5), sl5⟩)
    (c5 : PySem.W.codeIn K cd5 "place_in_table" = true)
    (k5 : PySem.W.keepIn K (.ref f5) = true)
    (a6 : PySem.W.nsIn K mainGlobals "arising" = some (some (.ref f6)))
    (l6 : K.lookup f6 = some ⟨oc6, od6, .func (PySem.W.fnOf "arising" "arising" (defArgs s_arising) (defBody s_arising) (defScope s_arising) .none kV6 dc6 pm6 an6 cd6 ct6), sl6⟩)
    (c6 : PySem.W.codeIn K cd6 "arising" = true)
    (k6 : PySem.W.keepIn K (.ref f6) = true)
    (a7 : PySem.W.findIn K (.ref C_Mixture) "__init__" = some (some (.ref f7)))
    (i7 : PySem.W.isFn K (.ref f7) = true)
    (l7 : K.lookup f7 = some ⟨oc7, od7, .func (PySem.W.fnOf "__init__" "Mixture.__init__" (defArgs s_Mixture_init) (defBody s_Mixture_init) (defScope s_Mixture_init) .none kV7 dc7 pm7 an7 cd7 ct7), sl7⟩)
    (c7 : PySem.W.codeIn K cd7 "Mixture.__init__" = true)
    (k7 : PySem.W.keepIn K (.ref f7) = true)
    (a8 : PySem.W.findIn K (.ref C_Mixture) "met" = some (some (.ref f8)))
    (i8 : PySem.W.isFn K (.ref f8) = true)
    (l8 : K.lookup f8 = some ⟨oc8, od8, .func (PySem.W.fnOf "met" "Mixture.met" (defArgs s_Mixture_met) (defBody s_Mixture_met) (defScope s_Mixture_met) .none kV8 dc8 pm8 an8 cd8 ct8), sl8⟩)
    (c8 : PySem.W.codeIn K cd8 "Mixture.met" = true)
    (k8 : PySem.W.keepIn K (.ref f8) = true)
    (a9 : PySem.W.nsIn K mainGlobals "is_triple" = some (some (.ref f9)))
    (l9 : K.lookup f9 = some ⟨oc9, od9, .func (PySem.W.fnOf "is_triple" "is_triple" (defArgs s_is_triple) (defBody s_is_triple) (defScope s_is_triple) .none kV9 dc9 pm9 an9 cd9 ct9), sl9⟩)
    (c9 : PySem.W.codeIn K cd9 "is_triple" = true)
    (k9 : PySem.W.keepIn K (.ref f9) = true)
    (a10 : PySem.W.nsIn K mainGlobals "mixture_from" = some (some (.ref f10)))
    (l10 : K.lookup f10 = some ⟨oc10, od10, .func (PySem.W.fnOf "mixture_from" "mixture_from" (defArgs s_mixture_from) (defBody s_mixture_from) (defScope s_mixture_from) .none kV10 dc10 pm10 an10 cd10 ct10), sl10⟩)
    (c10 : PySem.W.codeIn K cd10 "mixture_from" = true)
    (k10 : PySem.W.keepIn K (.ref f10) = true)
    (a11 : PySem.W.nsIn K mainGlobals "both_ways" = some (some (.ref f11)))
    (l11 : K.lookup f11 = some ⟨oc11, od11, .func (PySem.W.fnOf "both_ways" "both_ways" (defArgs s_both_ways) (defBody s_both_ways) (defScope s_both_ways) .none kV11 dc11 pm11 an11 cd11 ct11), sl11⟩)
    (c11 : PySem.W.codeIn K cd11 "both_ways" = true)
    (k11 : PySem.W.keepIn K (.ref f11) = true)
    (a12 : PySem.W.nsIn K mainGlobals "is_kind_there" = some (some (.ref f12)))
    (l12 : K.lookup f12 = some ⟨oc12, od12, .func (PySem.W.fnOf "is_kind_there" "is_kind_there" (defArgs s_is_kind_there) (defBody s_is_kind_there) (defScope s_is_kind_there) .none kV12 dc12 pm12 an12 cd12 ct12), sl12⟩)
    (c12 : PySem.W.codeIn K cd12 "is_kind_there" = true)
    (k12 : PySem.W.keepIn K (.ref f12) = true)
    (a13 : PySem.W.nsIn K mainGlobals "gifts_along" = some (some (.ref f13)))
    (l13 : K.lookup f13 = some ⟨oc13, od13, .func (PySem.W.fnOf "gifts_along" "gifts_along" (defArgs s_gifts_along) (defBody s_gifts_along) (defScope s_gifts_along) .none kV13 dc13 pm13 an13 cd13 ct13), sl13⟩)
    (c13 : PySem.W.codeIn K cd13 "gifts_along" = true)
    (k13 : PySem.W.keepIn K (.ref f13) = true)
    (a14 : PySem.W.nsIn K mainGlobals "shows_clashes" = some (some (.ref f14)))
    (l14 : K.lookup f14 = some ⟨oc14, od14, .func (PySem.W.fnOf "shows_clashes" "shows_clashes" (defArgs s_shows_clashes) (defBody s_shows_clashes) (defScope s_shows_clashes) .none kV14 dc14 pm14 an14 cd14 ct14), sl14⟩)
    (c14 : PySem.W.codeIn K cd14 "shows_clashes" = true)
    (k14 : PySem.W.keepIn K (.ref f14) = true)
    (a15 : PySem.W.nsIn K mainGlobals "holds_of_mixture" = some (some (.ref f15)))
    (l15 : K.lookup f15 = some ⟨oc15, od15, .func (PySem.W.fnOf "holds_of_mixture" "holds_of_mixture" (defArgs s_holds_of_mixture) (defBody s_holds_of_mixture) (defScope s_holds_of_mixture) .none kV15 dc15 pm15 an15 cd15 ct15), sl15⟩)
    (c15 : PySem.W.codeIn K cd15 "holds_of_mixture" = true)
    (k15 : PySem.W.keepIn K (.ref f15) = true)
    (a16 : PySem.W.nsIn K mainGlobals "holds" = some (some (.ref f16)))
    (l16 : K.lookup f16 = some ⟨oc16, od16, .func (PySem.W.fnOf "holds" "holds" (defArgs s_holds) (defBody s_holds) (defScope s_holds) .none kV16 dc16 pm16 an16 cd16 ct16), sl16⟩)
    (c16 : PySem.W.codeIn K cd16 "holds" = true)
    (k16 : PySem.W.keepIn K (.ref f16) = true)
    (a17 : PySem.W.nsIn K mainGlobals "_law_jug" = some (some (.ref f17)))
    (l17 : K.lookup f17 = some ⟨oc17, od17, .func (PySem.W.fnOf "_law_jug" "_law_jug" (defArgs s__law_jug) (defBody s__law_jug) (defScope s__law_jug) .none kV17 dc17 pm17 an17 cd17 ct17), sl17⟩)
    (c17 : PySem.W.codeIn K cd17 "_law_jug" = true)
    (k17 : PySem.W.keepIn K (.ref f17) = true)
    (a18 : PySem.W.nsIn K mainGlobals "_law_pour" = some (some (.ref f18)))
    (l18 : K.lookup f18 = some ⟨oc18, od18, .func (PySem.W.fnOf "_law_pour" "_law_pour" (defArgs s__law_pour) (defBody s__law_pour) (defScope s__law_pour) .none kV18 dc18 pm18 an18 cd18 ct18), sl18⟩)
    (c18 : PySem.W.codeIn K cd18 "_law_pour" = true)
    (k18 : PySem.W.keepIn K (.ref f18) = true)
    (a19 : PySem.W.nsIn K mainGlobals "_law_one" = some (some (.ref f19)))
    (l19 : K.lookup f19 = some ⟨oc19, od19, .func (PySem.W.fnOf "_law_one" "_law_one" (defArgs s__law_one) (defBody s__law_one) (defScope s__law_one) .none kV19 dc19 pm19 an19 cd19 ct19), sl19⟩)
    (c19 : PySem.W.codeIn K cd19 "_law_one" = true)
    (k19 : PySem.W.keepIn K (.ref f19) = true)
    (a20 : PySem.W.nsIn K mainGlobals "_law_pairs" = some (some (.ref f20)))
    (l20 : K.lookup f20 = some ⟨oc20, od20, .func (PySem.W.fnOf "_law_pairs" "_law_pairs" (defArgs s__law_pairs) (defBody s__law_pairs) (defScope s__law_pairs) .none kV20 dc20 pm20 an20 cd20 ct20), sl20⟩)
    (c20 : PySem.W.codeIn K cd20 "_law_pairs" = true)
    (k20 : PySem.W.keepIn K (.ref f20) = true)
    (a21 : PySem.W.nsIn K mainGlobals "_law_plain_entry" = some (some (.ref f21)))
    (l21 : K.lookup f21 = some ⟨oc21, od21, .func (PySem.W.fnOf "_law_plain_entry" "_law_plain_entry" (defArgs s__law_plain_entry) (defBody s__law_plain_entry) (defScope s__law_plain_entry) .none kV21 dc21 pm21 an21 cd21 ct21), sl21⟩)
    (c21 : PySem.W.codeIn K cd21 "_law_plain_entry" = true)
    (k21 : PySem.W.keepIn K (.ref f21) = true)
    (a22 : PySem.W.nsIn K mainGlobals "_law_sure" = some (some (.ref f22)))
    (l22 : K.lookup f22 = some ⟨oc22, od22, .func (PySem.W.fnOf "_law_sure" "_law_sure" (defArgs s__law_sure) (defBody s__law_sure) (defScope s__law_sure) .none kV22 dc22 pm22 an22 cd22 ct22), sl22⟩)
    (c22 : PySem.W.codeIn K cd22 "_law_sure" = true)
    (k22 : PySem.W.keepIn K (.ref f22) = true)
    (a23 : PySem.W.nsIn K mainGlobals "_law_told" = some (some (.ref f23)))
    (l23 : K.lookup f23 = some ⟨oc23, od23, .func (PySem.W.fnOf "_law_told" "_law_told" (defArgs s__law_told) (defBody s__law_told) (defScope s__law_told) .none kV23 dc23 pm23 an23 cd23 ct23), sl23⟩)
    (c23 : PySem.W.codeIn K cd23 "_law_told" = true)
    (k23 : PySem.W.keepIn K (.ref f23) = true)
    (a24 : PySem.W.nsIn K mainGlobals "_law_any_mix" = some (some (.ref f24)))
    (l24 : K.lookup f24 = some ⟨oc24, od24, .func (PySem.W.fnOf "_law_any_mix" "_law_any_mix" (defArgs s__law_any_mix) (defBody s__law_any_mix) (defScope s__law_any_mix) .none kV24 dc24 pm24 an24 cd24 ct24), sl24⟩)
    (c24 : PySem.W.codeIn K cd24 "_law_any_mix" = true)
    (k24 : PySem.W.keepIn K (.ref f24) = true)
    (a25 : PySem.W.nsIn K mainGlobals "_law_met" = some (some (.ref f25)))
    (l25 : K.lookup f25 = some ⟨oc25, od25, .func (PySem.W.fnOf "_law_met" "_law_met" (defArgs s__law_met) (defBody s__law_met) (defScope s__law_met) .none kV25 dc25 pm25 an25 cd25 ct25), sl25⟩)
    (c25 : PySem.W.codeIn K cd25 "_law_met" = true)
    (k25 : PySem.W.keepIn K (.ref f25) = true)
    (a26 : PySem.W.nsIn K mainGlobals "_law_arising" = some (some (.ref f26)))
    (l26 : K.lookup f26 = some ⟨oc26, od26, .func (PySem.W.fnOf "_law_arising" "_law_arising" (defArgs s__law_arising) (defBody s__law_arising) (defScope s__law_arising) .none kV26 dc26 pm26 an26 cd26 ct26), sl26⟩)
    (c26 : PySem.W.codeIn K cd26 "_law_arising" = true)
    (k26 : PySem.W.keepIn K (.ref f26) = true)
    (a27 : PySem.W.nsIn K mainGlobals "_law_both_ways" = some (some (.ref f27)))
    (l27 : K.lookup f27 = some ⟨oc27, od27, .func (PySem.W.fnOf "_law_both_ways" "_law_both_ways" (defArgs s__law_both_ways) (defBody s__law_both_ways) (defScope s__law_both_ways) .none kV27 dc27 pm27 an27 cd27 ct27), sl27⟩)
    (c27 : PySem.W.codeIn K cd27 "_law_both_ways" = true)
    (k27 : PySem.W.keepIn K (.ref f27) = true)
    (a28 : PySem.W.nsIn K mainGlobals "_law_sums" = some (some (.ref f28)))
    (l28 : K.lookup f28 = some ⟨oc28, od28, .func (PySem.W.fnOf "_law_sums" "_law_sums" (defArgs s__law_sums) (defBody s__law_sums) (defScope s__law_sums) .none kV28 dc28 pm28 an28 cd28 ct28), sl28⟩)
    (c28 : PySem.W.codeIn K cd28 "_law_sums" = true)
    (k28 : PySem.W.keepIn K (.ref f28) = true)
    (a29 : PySem.W.nsIn K mainGlobals "_law_is_whole" = some (some (.ref f29)))
    (l29 : K.lookup f29 = some ⟨oc29, od29, .func (PySem.W.fnOf "_law_is_whole" "_law_is_whole" (defArgs s__law_is_whole) (defBody s__law_is_whole) (defScope s__law_is_whole) .none kV29 dc29 pm29 an29 cd29 ct29), sl29⟩)
    (c29 : PySem.W.codeIn K cd29 "_law_is_whole" = true)
    (k29 : PySem.W.keepIn K (.ref f29) = true)
    (a30 : PySem.W.nsIn K mainGlobals "_law_clash_shown" = some (some (.ref f30)))
    (l30 : K.lookup f30 = some ⟨oc30, od30, .func (PySem.W.fnOf "_law_clash_shown" "_law_clash_shown" (defArgs s__law_clash_shown) (defBody s__law_clash_shown) (defScope s__law_clash_shown) .none kV30 dc30 pm30 an30 cd30 ct30), sl30⟩)
    (c30 : PySem.W.codeIn K cd30 "_law_clash_shown" = true)
    (k30 : PySem.W.keepIn K (.ref f30) = true)
    (a31 : PySem.W.nsIn K mainGlobals "_law_bent" = some (some (.ref f31)))
    (l31 : K.lookup f31 = some ⟨oc31, od31, .func (PySem.W.fnOf "_law_bent" "_law_bent" (defArgs s__law_bent) (defBody s__law_bent) (defScope s__law_bent) .none kV31 dc31 pm31 an31 cd31 ct31), sl31⟩)
    (c31 : PySem.W.codeIn K cd31 "_law_bent" = true)
    (k31 : PySem.W.keepIn K (.ref f31) = true)
    (a32 : PySem.W.nsIn K mainGlobals "_law_right" = some (some (.ref f32)))
    (l32 : K.lookup f32 = some ⟨oc32, od32, .func (PySem.W.fnOf "_law_right" "_law_right" (defArgs s__law_right) (defBody s__law_right) (defScope s__law_right) .none kV32 dc32 pm32 an32 cd32 ct32), sl32⟩)
    (c32 : PySem.W.codeIn K cd32 "_law_right" = true)
    (k32 : PySem.W.keepIn K (.ref f32) = true)
    (a33 : PySem.W.nsIn K mainGlobals "law" = some (some (.ref f33)))
    (l33 : K.lookup f33 = some ⟨oc33, od33, .func (PySem.W.fnOf "law" "law" (defArgs s_law) (defBody s_law) (defScope s_law) .none kV33 dc33 pm33 an33 cd33 ct33), sl33⟩)
    (c33 : PySem.W.codeIn K cd33 "law" = true)
    (k33 : PySem.W.keepIn K (.ref f33) = true)
    (pg_Mixture : PySem.W.plainGet K C_Mixture Str.empty = true)
    (hd_Mixture : PySem.W.hasDictIn K C_Mixture = true)
    (po_Mixture : PySem.W.plainOver K C_Mixture = true)
    (sa_Mixture : PySem.W.findIn K (.ref C_Mixture) "__setattr__" = some (some (.builtin "object.__setattr__")))
    (mk_Mixture : PySem.W.makesIn K C_Mixture = true)
    (kc_Mixture : PySem.W.keepIn K (.ref C_Mixture) = true)
    (na_Mixture_count : PySem.W.findIn K (.ref C_Mixture) "count" = some none)
    (na_Mixture_starts : PySem.W.findIn K (.ref C_Mixture) "starts" = some none)
    (na_Mixture_table : PySem.W.findIn K (.ref C_Mixture) "table" = some none)
    (na_Mixture_told : PySem.W.findIn K (.ref C_Mixture) "told" = some none)
    (na_Mixture_kinds : PySem.W.findIn K (.ref C_Mixture) "kinds" = some none)
    (t1_Mixture : PySem.W.findIn K (.ref C_Mixture) "__class__" = some (some (.builtin "object.__class__")))
    (t2_Mixture : PySem.W.specialIn K (.builtin "object.__class__") "__get__" = some (some (.builtin "getset_descriptor.__get__")))
    (t3_Mixture : PySem.W.takesIn K (.builtin "object.__class__") = some true)
    (t4_Mixture : PySem.W.mroIn K C_Mixture (.type "object") = some true)
    (z_MOST_GIFT : PySem.W.nsIn K mainGlobals "MOST_GIFT" = some (some (.int 1000000 t_MOST_GIFT)))
    (z_MOST_INPUTS : PySem.W.nsIn K mainGlobals "MOST_INPUTS" = some (some (.int 3 t_MOST_INPUTS)))
    (z_MOST_KINDS : PySem.W.nsIn K mainGlobals "MOST_KINDS" = some (some (.int 8 t_MOST_KINDS)))
    (n_abs : PySem.W.nsIn K mainGlobals "abs" = some none)
    (n_all : PySem.W.nsIn K mainGlobals "all" = some none)
    (n_bool : PySem.W.nsIn K mainGlobals "bool" = some none)
    (n_divmod : PySem.W.nsIn K mainGlobals "divmod" = some none)
    (n_enumerate : PySem.W.nsIn K mainGlobals "enumerate" = some none)
    (n_int : PySem.W.nsIn K mainGlobals "int" = some none)
    (n_isinstance : PySem.W.nsIn K mainGlobals "isinstance" = some none)
    (n_len : PySem.W.nsIn K mainGlobals "len" = some none)
    (n_list : PySem.W.nsIn K mainGlobals "list" = some none)
    (n_max : PySem.W.nsIn K mainGlobals "max" = some none)
    (n_min : PySem.W.nsIn K mainGlobals "min" = some none)
    (n_range : PySem.W.nsIn K mainGlobals "range" = some none)
    (n_repr : PySem.W.nsIn K mainGlobals "repr" = some none)
    (n_set : PySem.W.nsIn K mainGlobals "set" = some none)
    (n_sorted : PySem.W.nsIn K mainGlobals "sorted" = some none)
    (n_str : PySem.W.nsIn K mainGlobals "str" = some none)
    (n_tuple : PySem.W.nsIn K mainGlobals "tuple" = some none)
    : ∃ fd : FuncData, (∀ (s : Shared) (v : Value), BindsTo s fd ⟨[v], []⟩ [("script", v)]) ∧ ∀ base : Heap, K.In base → base.Ns mainGlobals mg → FnG l.prog w K mg base CX0 11 fa fd ["script"] (spLaw K) := by
  cases hfa.symm.trans (PySem.W.mg_of X G a33)
  have F0 := fun_mk (st := s_is_between) l0 c0 k0
  have F1 := fun_mk (st := s_is_entry) l1 c1 k1
  have F2 := fun_mk (st := s_wrong_entry) l2 c2 k2
  have F3 := fun_mk (st := s_check_starts) l3 c3 k3
  have F4 := fun_mk (st := s_check_table) l4 c4 k4
  have F5 := fun_mk (st := s_place_in_table) l5 c5 k5
  have F6 := fun_mk (st := s_arising) l6 c6 k6
  have F7 := fun_mk (st := s_Mixture_init) l7 c7 k7
  have F8 := fun_mk (st := s_Mixture_met) l8 c8 k8
  have F9 := fun_mk (st := s_is_triple) l9 c9 k9
  have F10 := fun_mk (st := s_mixture_from) l10 c10 k10
  have F11 := fun_mk (st := s_both_ways) l11 c11 k11
  have F12 := fun_mk (st := s_is_kind_there) l12 c12 k12
  have F13 := fun_mk (st := s_gifts_along) l13 c13 k13
  have F14 := fun_mk (st := s_shows_clashes) l14 c14 k14
  have F15 := fun_mk (st := s_holds_of_mixture) l15 c15 k15
  have F16 := fun_mk (st := s_holds) l16 c16 k16
  have F17 := fun_mk (st := s__law_jug) l17 c17 k17
  have F18 := fun_mk (st := s__law_pour) l18 c18 k18
  have F19 := fun_mk (st := s__law_one) l19 c19 k19
  have F20 := fun_mk (st := s__law_pairs) l20 c20 k20
  have F21 := fun_mk (st := s__law_plain_entry) l21 c21 k21
  have F22 := fun_mk (st := s__law_sure) l22 c22 k22
  have F23 := fun_mk (st := s__law_told) l23 c23 k23
  have F24 := fun_mk (st := s__law_any_mix) l24 c24 k24
  have F25 := fun_mk (st := s__law_met) l25 c25 k25
  have F26 := fun_mk (st := s__law_arising) l26 c26 k26
  have F27 := fun_mk (st := s__law_both_ways) l27 c27 k27
  have F28 := fun_mk (st := s__law_sums) l28 c28 k28
  have F29 := fun_mk (st := s__law_is_whole) l29 c29 k29
  have F30 := fun_mk (st := s__law_clash_shown) l30 c30 k30
  have F31 := fun_mk (st := s__law_bent) l31 c31 k31
  have F32 := fun_mk (st := s__law_right) l32 c32 k32
  have F33 := fun_mk (st := s_law) l33 c33 k33
  have T : Tx K mg ⟨f0, _, f1, _, f2, _, f3, _, f4, _, f5, _, f6, _, f7, _, f8, _, f9, _, f10, _, f11, _, f12, _, f13, _, f14, _, f15, _, f16, _, f17, _, f18, _, f19, _, f20, _, f21, _, f22, _, f23, _, f24, _, f25, _, f26, _, f27, _, f28, _, f29, _, f30, _, f31, _, f32, _, fa, _, C_Mixture⟩ := { F_is_between := F0, g_is_between := PySem.W.mg_of X G a0, F_is_entry := F1, g_is_entry := PySem.W.mg_of X G a1, F_wrong_entry := F2, g_wrong_entry := PySem.W.mg_of X G a2, F_check_starts := F3, g_check_starts := PySem.W.mg_of X G a3, F_check_table := F4, g_check_table := PySem.W.mg_of X G a4, F_place_in_table := F5, g_place_in_table := PySem.W.mg_of X G a5, F_arising := F6, g_arising := PySem.W.mg_of X G a6, F_Mixture_init := F7, mk_Mixture := ⟨mk_Mixture, a7, i7, kc_Mixture⟩, F_Mixture_met := F8, m_Mixture_met := ⟨a8, i8, k8⟩, F_is_triple := F9, g_is_triple := PySem.W.mg_of X G a9, F_mixture_from := F10, g_mixture_from := PySem.W.mg_of X G a10, F_both_ways := F11, g_both_ways := PySem.W.mg_of X G a11, F_is_kind_there := F12, g_is_kind_there := PySem.W.mg_of X G a12, F_gifts_along := F13, g_gifts_along := PySem.W.mg_of X G a13, F_shows_clashes := F14, g_shows_clashes := PySem.W.mg_of X G a14, F_holds_of_mixture := F15, g_holds_of_mixture := PySem.W.mg_of X G a15, F_holds := F16, g_holds := PySem.W.mg_of X G a16, F__law_jug := F17, g__law_jug := PySem.W.mg_of X G a17, F__law_pour := F18, g__law_pour := PySem.W.mg_of X G a18, F__law_one := F19, g__law_one := PySem.W.mg_of X G a19, F__law_pairs := F20, g__law_pairs := PySem.W.mg_of X G a20, F__law_plain_entry := F21, g__law_plain_entry := PySem.W.mg_of X G a21, F__law_sure := F22, g__law_sure := PySem.W.mg_of X G a22, F__law_told := F23, g__law_told := PySem.W.mg_of X G a23, F__law_any_mix := F24, g__law_any_mix := PySem.W.mg_of X G a24, F__law_met := F25, g__law_met := PySem.W.mg_of X G a25, F__law_arising := F26, g__law_arising := PySem.W.mg_of X G a26, F__law_both_ways := F27, g__law_both_ways := PySem.W.mg_of X G a27, F__law_sums := F28, g__law_sums := PySem.W.mg_of X G a28, F__law_is_whole := F29, g__law_is_whole := PySem.W.mg_of X G a29, F__law_clash_shown := F30, g__law_clash_shown := PySem.W.mg_of X G a30, F__law_bent := F31, g__law_bent := PySem.W.mg_of X G a31, F__law_right := F32, g__law_right := PySem.W.mg_of X G a32, F_law := F33, g_law := PySem.W.mg_of X G a33, g_Mixture := PySem.W.mg_of X G aC_Mixture, cl_Mixture := ⟨pg_Mixture, hd_Mixture, po_Mixture, sa_Mixture⟩, na_Mixture_count := na_Mixture_count, na_Mixture_starts := na_Mixture_starts, na_Mixture_table := na_Mixture_table, na_Mixture_told := na_Mixture_told, na_Mixture_kinds := na_Mixture_kinds, ty_Mixture := ⟨t1_Mixture, t2_Mixture, t3_Mixture, t4_Mixture, if_pos (beq_self_eq_true _)⟩, c_MOST_GIFT := ⟨_, PySem.W.mg_of X G z_MOST_GIFT⟩, c_MOST_INPUTS := ⟨_, PySem.W.mg_of X G z_MOST_INPUTS⟩, c_MOST_KINDS := ⟨_, PySem.W.mg_of X G z_MOST_KINDS⟩, n_abs := PySem.W.mg_none_of X G n_abs, n_all := PySem.W.mg_none_of X G n_all, n_bool := PySem.W.mg_none_of X G n_bool, n_divmod := PySem.W.mg_none_of X G n_divmod, n_enumerate := PySem.W.mg_none_of X G n_enumerate, n_int := PySem.W.mg_none_of X G n_int, n_isinstance := PySem.W.mg_none_of X G n_isinstance, n_len := PySem.W.mg_none_of X G n_len, n_list := PySem.W.mg_none_of X G n_list, n_max := PySem.W.mg_none_of X G n_max, n_min := PySem.W.mg_none_of X G n_min, n_range := PySem.W.mg_none_of X G n_range, n_repr := PySem.W.mg_none_of X G n_repr, n_set := PySem.W.mg_none_of X G n_set, n_sorted := PySem.W.mg_none_of X G n_sorted, n_str := PySem.W.mg_none_of X G n_str, n_tuple := PySem.W.mg_none_of X G n_tuple }
  exact ⟨_, fun s v => .of_eq rfl, fun base _ _ => ok_law (base := base) T⟩
end My
open PySem PySem.W PyProof.Rows
set_option maxRecDepth 100000 in
set_option maxHeartbeats 0 in
theorem PySem.Challenge.cw_givenonce_k42_whole_clashes_judged_holds : PySem.Challenge.rw_givenonce_k42_whole_clashes_judged.Holds := by
  w_on; o_law; k_head; (case hw => w_witness2)
  k_fill
  refine DD.walkG (l := PySem.Challenge.rw_givenonce_k42_whole_clashes_judged) (n := 63) (k := 11) (x := "script") (CX := fun _ => L2.CX0) (sp := fun w => My.spLaw _) rfl (by decide) rfl ⟨rfl, by decide, by decide⟩ (fun w h Y => PySem.W.kIn_of Y) ?F (fun _ _ a ns hl _ hS => My.law_asks hl hS) (fun _ _ _ _ _ h => h)
  case F =>
    intro w mg fa h KX G hmg
    refine' My.all_mk KX G hmg ?aC_Mixture ?a0 ?l0 ?c0 ?k0 ?a1 ?l1 ?c1 ?k1 ?a2 ?l2 ?c2 ?k2 ?a3 ?l3 ?c3 ?k3 ?a4 ?l4 ?c4 ?k4 ?a5 ?l5 ?c5 ?k5 ?a6 ?l6 ?c6 ?k6 ?a7 ?i7 ?l7 ?c7 ?k7 ?a8 ?i8 ?l8 ?c8 ?k8 ?a9 ?l9 ?c9 ?k9 ?a10 ?l10 ?c10 ?k10 ?a11 ?l11 ?c11 ?k11 ?a12 ?l12 ?c12 ?k12 ?a13 ?l13 ?c13 ?k13 ?a14 ?l14 ?c14 ?k14 ?a15 ?l15 ?c15 ?k15 ?a16 ?l16 ?c16 ?k16 ?a17 ?l17 ?c17 ?k17 ?a18 ?l18 ?c18 ?k18 ?a19 ?l19 ?c19 ?k19 ?a20 ?l20 ?c20 ?k20 ?a21 ?l21 ?c21 ?k21 ?a22 ?l22 ?c22 ?k22 ?a23 ?l23 ?c23 ?k23 ?a24 ?l24 ?c24 ?k24 ?a25 ?l25 ?c25 ?k25 ?a26 ?l26 ?c26 ?k26 ?a27 ?l27 ?c27 ?k27 ?a28 ?l28 ?c28 ?k28 ?a29 ?l29 ?c29 ?k29 ?a30 ?l30 ?c30 ?k30 ?a31 ?l31 ?c31 ?k31 ?a32 ?l32 ?c32 ?k32 ?a33 ?l33 ?c33 ?k33 ?pg_Mixture ?hd_Mixture ?po_Mixture ?sa_Mixture ?mk_Mixture ?kc_Mixture ?na_Mixture_count ?na_Mixture_starts ?na_Mixture_table ?na_Mixture_told ?na_Mixture_kinds ?t1_Mixture ?t2_Mixture ?t3_Mixture ?t4_Mixture ?z_MOST_GIFT ?z_MOST_INPUTS ?z_MOST_KINDS ?n_abs ?n_all ?n_bool ?n_divmod ?n_enumerate ?n_int ?n_isinstance ?n_len ?n_list ?n_max ?n_min ?n_range ?n_repr ?n_set ?n_sorted ?n_str ?n_tuple
    (case aC_Mixture => k_is)
    (case a0 => k_is)
    (case l0 => k_is)
    (case c0 => k_is)
    (case k0 => k_is)
    (case a1 => k_is)
    (case l1 => k_is)
    (case c1 => k_is)
    (case k1 => k_is)
    (case a2 => k_is)
    (case l2 => k_is)
    (case c2 => k_is)
    (case k2 => k_is)
    (case a3 => k_is)
    (case l3 => k_is)
    (case c3 => k_is)
    (case k3 => k_is)
    (case a4 => k_is)
    (case l4 => k_is)
    (case c4 => k_is)
    (case k4 => k_is)
    (case a5 => k_is)
    (case l5 => k_is)
    (case c5 => k_is)
    (case k5 => k_is)
    (case a6 => k_is)
    (case l6 => k_is)
    (case c6 => k_is)
    (case k6 => k_is)
    (case a7 => k_is)
    (case i7 => k_is)
    (case l7 => k_is)
    (case c7 => k_is)
    (case k7 => k_is)
    (case a8 => k_is)
    (case i8 => k_is)
    (case l8 => k_is)
    (case c8 => k_is)
    (case k8 => k_is)
    (case a9 => k_is)
    (case l9 => k_is)
    (case c9 => k_is)
    (case k9 => k_is)
    (case a10 => k_is)
    (case l10 => k_is)
    (case c10 => k_is)
    (case k10 => k_is)
    (case a11 => k_is)
    (case l11 => k_is)
    (case c11 => k_is)
    (case k11 => k_is)
    (case a12 => k_is)
    (case l12 => k_is)
    (case c12 => k_is)
    (case k12 => k_is)
    (case a13 => k_is)
    (case l13 => k_is)
    (case c13 => k_is)
    (case k13 => k_is)
    (case a14 => k_is)
    (case l14 => k_is)
    (case c14 => k_is)
    (case k14 => k_is)
    (case a15 => k_is)
    (case l15 => k_is)
    (case c15 => k_is)
    (case k15 => k_is)
    (case a16 => k_is)
    (case l16 => k_is)
    (case c16 => k_is)
    (case k16 => k_is)
    (case a17 => k_is)
    (case l17 => k_is)
    (case c17 => k_is)
    (case k17 => k_is)
    (case a18 => k_is)
    (case l18 => k_is)
    (case c18 => k_is)
    (case k18 => k_is)
    (case a19 => k_is)
    (case l19 => k_is)
    (case c19 => k_is)
    (case k19 => k_is)
    (case a20 => k_is)
    (case l20 => k_is)
    (case c20 => k_is)
    (case k20 => k_is)
    (case a21 => k_is)
    (case l21 => k_is)
    (case c21 => k_is)
    (case k21 => k_is)
    (case a22 => k_is)
    (case l22 => k_is)
    (case c22 => k_is)
    (case k22 => k_is)
    (case a23 => k_is)
    (case l23 => k_is)
    (case c23 => k_is)
    (case k23 => k_is)
    (case a24 => k_is)
    (case l24 => k_is)
    (case c24 => k_is)
    (case k24 => k_is)
    (case a25 => k_is)
    (case l25 => k_is)
    (case c25 => k_is)
    (case k25 => k_is)
    (case a26 => k_is)
    (case l26 => k_is)
    (case c26 => k_is)
    (case k26 => k_is)
    (case a27 => k_is)
    (case l27 => k_is)
    (case c27 => k_is)
    (case k27 => k_is)
    (case a28 => k_is)
    (case l28 => k_is)
    (case c28 => k_is)
    (case k28 => k_is)
    (case a29 => k_is)
    (case l29 => k_is)
    (case c29 => k_is)
    (case k29 => k_is)
    (case a30 => k_is)
    (case l30 => k_is)
    (case c30 => k_is)
    (case k30 => k_is)
    (case a31 => k_is)
    (case l31 => k_is)
    (case c31 => k_is)
    (case k31 => k_is)
    (case a32 => k_is)
    (case l32 => k_is)
    (case c32 => k_is)
    (case k32 => k_is)
    (case a33 => k_is)
    (case l33 => k_is)
    (case c33 => k_is)
    (case k33 => k_is)
    (case pg_Mixture => k_is)
    (case hd_Mixture => k_is)
    (case po_Mixture => k_is)
    (case sa_Mixture => k_is)
    (case mk_Mixture => k_is)
    (case kc_Mixture => k_is)
    (case na_Mixture_count => k_is)
    (case na_Mixture_starts => k_is)
    (case na_Mixture_table => k_is)
    (case na_Mixture_told => k_is)
    (case na_Mixture_kinds => k_is)
    (case t1_Mixture => k_is)
    (case t2_Mixture => k_is)
    (case t3_Mixture => k_is)
    (case t4_Mixture => k_is)
    (case z_MOST_GIFT => k_is)
    (case z_MOST_INPUTS => k_is)
    (case z_MOST_KINDS => k_is)
    (case n_abs => k_is)
    (case n_all => k_is)
    (case n_bool => k_is)
    (case n_divmod => k_is)
    (case n_enumerate => k_is)
    (case n_int => k_is)
    (case n_isinstance => k_is)
    (case n_len => k_is)
    (case n_list => k_is)
    (case n_max => k_is)
    (case n_min => k_is)
    (case n_range => k_is)
    (case n_repr => k_is)
    (case n_set => k_is)
    (case n_sorted => k_is)
    (case n_str => k_is)
    (case n_tuple => k_is)
