import PyProof.Rows.All
import Wide.All
import OpenK.AllK
import Wide.FinOn
import HandS.ForMost
import HandS.ForExc
import HandS.Walk
import HandS.Zip
import HandS.Style
import HandS.IsInst
import HandS.TupAny
import HandS.SortInts
import HandS.Wide
import PyProof.ReprRoads
import HandS.Star
import KE.GoesEnum
import HandS.Conv
import PyProof.ReprLen
import PySem.Challenge.RW_fewthrows_k01_whole_polynomials_through
set_option Elab.async false
set_option linter.all false
set_option maxRecDepth 100000
set_option maxHeartbeats 4000000
/-! J: judgements over data (trees of values), with a memory of owned cells, over the hand layer. -/
namespace J
open PySem PySem.Spec PyProof.Rows L2

/-! ### data -/
inductive D where
  | non | bl (b : Bool) | int (i : Int) | str (x : Str) | ty (n : String) | ref (a : Addr)
  | tup (xs : List D) | lst (xs : List D) | dct (kvs : List (Key × D)) | obj (C : Addr) (fs : List (Str × D))
  /-- the law's script -/
  | scr (ns : List Int)

mutual
inductive Dv (K : PySem.W.Frag) (F : Hp) : V → D → Prop
  | non : Dv K F .non .non
  | bl (b : Bool) : Dv K F (.bl b) (.bl b)
  | int (i : Int) : Dv K F (.int i) (.int i)
  | str (x : Str) : Dv K F (.str x) (.str x)
  | ty (n : String) : Dv K F (.ty n) (.ty n)
  | ref (a : Addr) : Dv K F (.ref a) (.ref a)
  | tup {a : Addr} {vs : List V} {ds : List D} : SqT K F a vs → DvL K F vs ds → Dv K F (.ref a) (.tup ds)
  | lst {a : Addr} {vs : List V} {ds : List D} : Rd F a (.lst vs) → DvL K F vs ds → Dv K F (.ref a) (.lst ds)
  | scr {a : Addr} {ns : List Int} : SqL K F a (ns.map V.int) → Dv K F (.ref a) (.scr ns)
  | dct {a : Addr} {vs : List (Key × V)} {ds : List (Key × D)} : F a = some (.dK vs) → DvK K F vs ds → Dv K F (.ref a) (.dct ds)
  | obj {a C dx : Addr} {vs : List (Str × V)} {ds : List (Str × D)} : F a = some (.ins C dx vs) → DvF K F vs ds → Dv K F (.ref a) (.obj C ds)
inductive DvL (K : PySem.W.Frag) (F : Hp) : List V → List D → Prop
  | nil : DvL K F [] []
  | cons {v : V} {vs : List V} {d : D} {ds : List D} : Dv K F v d → DvL K F vs ds → DvL K F (v :: vs) (d :: ds)
inductive DvK (K : PySem.W.Frag) (F : Hp) : List (Key × V) → List (Key × D) → Prop
  | nil : DvK K F [] []
  | cons {k : Key} {v : V} {vs : List (Key × V)} {d : D} {ds : List (Key × D)} : Dv K F v d → DvK K F vs ds → DvK K F ((k, v) :: vs) ((k, d) :: ds)
inductive DvF (K : PySem.W.Frag) (F : Hp) : List (Str × V) → List (Str × D) → Prop
  | nil : DvF K F [] []
  | cons {k : Str} {v : V} {vs : List (Str × V)} {d : D} {ds : List (Str × D)} : Dv K F v d → DvF K F vs ds → DvF K F ((k, v) :: vs) ((k, d) :: ds)
end

section
variable {K : PySem.W.Frag} {F F' : Hp}
theorem sqT_mono (e : Same F F') {a : Addr} {xs : List V} (h : SqT K F a xs) : SqT K F' a xs := by
  rcases h with (h | ⟨o, h⟩) | h
  · exact .inl (.inl (e _ _ h))
  · exact .inl (.inr ⟨o, e _ _ h⟩)
  · exact .inr h
theorem rd_mono (e : Same F F') {a : Addr} {u : HO} (h : Rd F a u) : Rd F' a u := h.imp (e _ _) fun ⟨o, h⟩ => ⟨o, e _ _ h⟩
mutual
theorem Dv.mono (e : Same F F') : ∀ {d : D} {v : V}, Dv K F v d → Dv K F' v d
  | .non, _, h => by cases h; exact .non
  | .bl _, _, h => by cases h; exact .bl _
  | .int _, _, h => by cases h; exact .int _
  | .str _, _, h => by cases h; exact .str _
  | .ty _, _, h => by cases h; exact .ty _
  | .ref _, _, h => by cases h; exact .ref _
  | .tup ds, _, h => by cases h with | tup h1 h2 => exact .tup (sqT_mono e h1) (DvL.mono e h2)
  | .lst ds, _, h => by cases h with | lst h1 h2 => exact .lst (rd_mono e h1) (DvL.mono e h2)
  | .scr ns, _, h => by cases h with | scr h1 => exact .scr (Same.seq e h1)
  | .dct ds, _, h => by cases h with | dct h1 h2 => exact .dct (e _ _ h1) (DvK.mono e h2)
  | .obj C ds, _, h => by cases h with | obj h1 h2 => exact .obj (e _ _ h1) (DvF.mono e h2)
theorem DvL.mono (e : Same F F') : ∀ {ds : List D} {vs : List V}, DvL K F vs ds → DvL K F' vs ds
  | [], _, h => by cases h; exact .nil
  | _ :: _, _, h => by cases h with | cons h1 h2 => exact .cons (Dv.mono e h1) (DvL.mono e h2)
theorem DvK.mono (e : Same F F') : ∀ {ds : List (Key × D)} {vs : List (Key × V)}, DvK K F vs ds → DvK K F' vs ds
  | [], _, h => by cases h; exact .nil
  | (_, _) :: _, _, h => by cases h with | cons h1 h2 => exact .cons (Dv.mono e h1) (DvK.mono e h2)
theorem DvF.mono (e : Same F F') : ∀ {ds : List (Str × D)} {vs : List (Str × V)}, DvF K F vs ds → DvF K F' vs ds
  | [], _, h => by cases h; exact .nil
  | (_, _) :: _, _, h => by cases h with | cons h1 h2 => exact .cons (Dv.mono e h1) (DvF.mono e h2)
end
theorem DvL.length : ∀ {vs : List V} {ds : List D}, DvL K F vs ds → vs.length = ds.length
  | _, _, .nil => rfl
  | _, _, .cons _ t => by rw [List.length_cons, List.length_cons, DvL.length t]
theorem DvL.get : ∀ {vs : List V} {ds : List D} {i : Nat} {d : D}, DvL K F vs ds → ds[i]? = some d → ∃ v, vs[i]? = some v ∧ Dv K F v d
  | _, _, _, _, .nil, e => by simp at e
  | _, _, 0, _, .cons r _, e => by simp at e; subst e; exact ⟨_, rfl, r⟩
  | _, _, i + 1, d, .cons _ t, e => by
    obtain ⟨u, h1, h2⟩ := DvL.get (i := i) (d := d) t (by simpa using e)
    exact ⟨u, by simpa using h1, h2⟩
theorem DvL.getV : ∀ {vs : List V} {ds : List D} {i : Nat} {v : V}, DvL K F vs ds → vs[i]? = some v → ∃ d, ds[i]? = some d ∧ Dv K F v d
  | _, _, _, _, .nil, e => by simp at e
  | _, _, 0, _, .cons r _, e => by simp at e; subst e; exact ⟨_, rfl, r⟩
  | _, _, i + 1, d, .cons _ t, e => by
    obtain ⟨u, h1, h2⟩ := DvL.getV (i := i) (v := d) t (by simpa using e)
    exact ⟨u, by simpa using h1, h2⟩
theorem DvL.append : ∀ {vs ws : List V} {ds es : List D}, DvL K F vs ds → DvL K F ws es → DvL K F (vs ++ ws) (ds ++ es)
  | _, _, _, _, .nil, s => s
  | _, _, _, _, .cons r t, s => .cons r (DvL.append t s)
theorem DvL.take : ∀ {vs : List V} {ds : List D} (n : Nat), DvL K F vs ds → DvL K F (vs.take n) (ds.take n)
  | _, _, 0, _ => .nil
  | _, _, _ + 1, .nil => .nil
  | _, _, n + 1, .cons r t => .cons r (DvL.take n t)
theorem DvL.drop : ∀ {vs : List V} {ds : List D} (n : Nat), DvL K F vs ds → DvL K F (vs.drop n) (ds.drop n)
  | _, _, 0, r => r
  | _, _, _ + 1, .nil => .nil
  | _, _, n + 1, .cons _ t => DvL.drop n t
theorem DvL.reverse {vs : List V} {ds : List D} (h : DvL K F vs ds) : DvL K F vs.reverse ds.reverse := by
  induction ds generalizing vs with
  | nil => cases h; exact .nil
  | cons d ds ih =>
    cases h with
    | cons r t => rw [List.reverse_cons, List.reverse_cons]; exact (ih t).append (.cons r .nil)
theorem DvL.set {v : V} {d : D} (r : Dv K F v d) : ∀ {vs : List V} {ds : List D} (i : Nat), DvL K F vs ds → DvL K F (vs.set i v) (ds.set i d)
  | _, _, _, .nil => .nil
  | _, _, 0, .cons _ t => .cons r t
  | _, _, i + 1, .cons q t => .cons q (DvL.set r i t)
theorem DvL.eraseIdx : ∀ {vs : List V} {ds : List D} (i : Nat), DvL K F vs ds → DvL K F (vs.eraseIdx i) (ds.eraseIdx i)
  | _, _, _, .nil => .nil
  | _, _, 0, .cons _ t => t
  | _, _, i + 1, .cons q t => .cons q (DvL.eraseIdx i t)
theorem DvL.rep {vs : List V} {ds : List D} (h : DvL K F vs ds) : ∀ k : Nat, DvL K F (List.replicate k vs).flatten (List.replicate k ds).flatten
  | 0 => .nil
  | k + 1 => by rw [List.replicate_succ, List.replicate_succ, List.flatten_cons, List.flatten_cons]; exact h.append (DvL.rep h k)
theorem DvL.ints : ∀ {ns : List Int} {vs : List V}, DvL K F vs (ns.map D.int) → vs = ns.map V.int
  | [], _, h => by cases h; rfl
  | n :: ns, _, h => by
    cases h with
    | cons r t => cases r; rw [DvL.ints t]; rfl
theorem DvL.of_ints : ∀ (ns : List Int), DvL K F (ns.map V.int) (ns.map D.int)
  | [] => .nil
  | n :: ns => .cons (.int n) (DvL.of_ints ns)
theorem DvL.bls : ∀ {ns : List Bool} {vs : List V}, DvL K F vs (ns.map D.bl) → vs = ns.map V.bl
  | [], _, h => by cases h; rfl
  | n :: ns, _, h => by
    cases h with
    | cons r t => cases r; rw [DvL.bls t]; rfl
theorem DvL.strs : ∀ {ns : List Str} {vs : List V}, DvL K F vs (ns.map D.str) → vs = ns.map V.str
  | [], _, h => by cases h; rfl
  | n :: ns, _, h => by
    cases h with
    | cons r t => cases r; rw [DvL.strs t]; rfl
theorem DvL.of_strs : ∀ (ns : List Str), DvL K F (ns.map V.str) (ns.map D.str)
  | [] => .nil
  | n :: ns => .cons (.str n) (DvL.of_strs ns)
theorem DvF.lookup : ∀ {vs : List (Str × V)} {ds : List (Str × D)} {f : Str} {d : D}, DvF K F vs ds → ds.lookup f = some d → ∃ v, vs.lookup f = some v ∧ Dv K F v d
  | _, _, _, _, .nil, h => by simp at h
  | (k, v) :: vs, (_, d') :: ds, f, d, .cons r t, h => by
    rw [List.lookup_cons] at h ⊢
    cases hb : f == k with
    | true => rw [hb] at h; cases h; exact ⟨_, rfl, r⟩
    | false => rw [hb] at h; exact DvF.lookup t h
theorem DvF.none : ∀ {vs : List (Str × V)} {ds : List (Str × D)} {f : Str}, DvF K F vs ds → ds.lookup f = none → vs.lookup f = none
  | _, _, _, .nil, h => rfl
  | (k, v) :: vs, (_, d') :: ds, f, .cons r t, h => by
    rw [List.lookup_cons] at h ⊢
    cases hb : f == k with
    | true => rw [hb] at h; cases h
    | false => rw [hb] at h; exact DvF.none t h
theorem DvF.length : ∀ {vs : List (Str × V)} {ds : List (Str × D)}, DvF K F vs ds → vs.length = ds.length
  | _, _, .nil => rfl
  | _, _, .cons _ t => by rw [List.length_cons, List.length_cons, DvF.length t]
end

/-! ### cells: what is owned, and may be changed -/
inductive Cl where
  | lst (xs : List D) | dK (kvs : List (Key × D)) | ins (C : Addr) (fs : List (Str × D))
abbrev Mem := List (Addr × Cl)
abbrev Ev := List (Option D)
def ClOk (K : PySem.W.Frag) (F H : Hp) (p : Addr) : Cl → Prop
  | .lst xs => ∃ vs, H p = some (.lst vs) ∧ DvL K F vs xs
  | .dK kvs => ∃ vs, H p = some (.dK vs) ∧ DvK K F vs kvs
  | .ins C fs => ∃ dx vs, H p = some (.ins C dx vs) ∧ DvF K F vs fs
theorem ClOk.mono {K : PySem.W.Frag} {F F' H H' : Hp} {p : Addr} {c : Cl} (h : ClOk K F H p c) (e : Same F F') (k : ∀ o, H p = some o → H' p = some o) : ClOk K F' H' p c := by
  cases c with
  | lst xs => obtain ⟨vs, a, b⟩ := h; exact ⟨vs, k _ a, b.mono e⟩
  | dK kvs => obtain ⟨vs, a, b⟩ := h; exact ⟨vs, k _ a, b.mono e⟩
  | ins C fs => obtain ⟨dx, vs, a, b⟩ := h; exact ⟨dx, vs, k _ a, b.mono e⟩
theorem ClOk.some {K : PySem.W.Frag} {F H : Hp} {p : Addr} {c : Cl} (h : ClOk K F H p c) : (H p).isSome = true := by
  cases c with
  | lst xs => obtain ⟨vs, a, b⟩ := h; rw [a]; rfl
  | dK kvs => obtain ⟨vs, a, b⟩ := h; rw [a]; rfl
  | ins C fs => obtain ⟨dx, vs, a, b⟩ := h; rw [a]; rfl
structure Owns (K : PySem.W.Frag) (F H : Hp) (M : Mem) : Prop where
  nd : (M.map (·.1)).Nodup
  ok : ∀ c ∈ M, F c.1 = none ∧ ClOk K F H c.1 c.2

/-- what a body began with: what was data, the heap, the cells that it was given -/
structure Bs where
  F : Hp
  H : Hp
  own : List Addr

structure At (K : PySem.W.Frag) (B : Bs) (ρ : Ev) (M : Mem) (F : Hp) (σ : L2.St) (H : Hp) : Prop where
  ff : Same B.F F
  fh : Same F H
  fr : ∀ a, B.F a = none → (B.H a).isSome = true → a ∉ B.own → F a = none
  kh : ∀ a o, a ∉ B.own → B.H a = some o → H a = some o
  th : ∀ a, H a = none → B.H a = none
  sl : σ.length = ρ.length ∧ ∀ (i : Nat) (d : D), ρ[i]? = some (some d) → ∃ v, σ[i]? = some (some v) ∧ Dv K F v d
  ow : Owns K F H M
  nw : ∀ c ∈ M, c.1 ∈ B.own ∨ B.H c.1 = none

section
variable {K : PySem.W.Frag} {B : Bs} {ρ : Ev} {M : Mem} {F F' H H' : Hp} {σ : L2.St}
theorem At.fresh (a : At K B ρ M F σ H) {p : Addr} (h : H p = none) : F p = none := by
  cases e : F p with
  | none => rfl
  | some o => have := a.fh _ _ e; rw [h] at this; cases this
theorem At.notM (a : At K B ρ M F σ H) {p : Addr} (h : H p = none) : ∀ c ∈ M, c.1 ≠ p := fun c hc e => by
  have := (a.ow.ok c hc).2.some
  rw [e, h] at this; cases this
/-- a new object, told as data -/
theorem At.newF (a : At K B ρ M F σ H) {p : Addr} (h : H p = none) (o : HO) : At K B ρ M (upd F p o) σ (upd H p o) ∧ Same F (upd F p o) := by
  have fp := a.fresh h
  have sF : Same F (upd F p o) := fun b u e => by rw [upd_ne (ne_of_none e fp)]; exact e
  refine ⟨⟨a.ff.trans sF, fun b u e => ?_, fun b h1 h2 h3 => ?_, fun b u h1 e => ?_, fun b e => ?_, ⟨a.sl.1, fun i d e => ?_⟩, ⟨a.ow.nd, fun c hc => ?_⟩, a.nw⟩, sF⟩
  · by_cases q : b = p
    · subst q; rw [upd_same] at e ⊢; exact e
    · rw [upd_ne q] at e ⊢; exact a.fh _ _ e
  · have q : b ≠ p := fun q => by subst q; rw [a.th _ h] at h2; cases h2
    rw [upd_ne q]; exact a.fr b h1 h2 h3
  · have q := a.kh b u h1 e
    rw [upd_ne (ne_of_none q h)]; exact q
  · by_cases q : b = p
    · subst q; rw [upd_same] at e; cases e
    · rw [upd_ne q] at e; exact a.th _ e
  · obtain ⟨v, e1, e2⟩ := a.sl.2 i d e
    exact ⟨v, e1, e2.mono sF⟩
  · obtain ⟨h1, h2⟩ := a.ow.ok c hc
    have q := a.notM h c hc
    exact ⟨by rw [upd_ne q]; exact h1, h2.mono sF fun u e => by rw [upd_ne q]; exact e⟩
theorem At.fmono (a : At K B ρ M F σ H) {v : V} {d : D} {p : Addr} {o : HO} (h : H p = none) (r : Dv K F v d) : Dv K (upd F p o) v d := r.mono (a.newF h o).2
/-- a new object, owned -/
theorem At.newO (a : At K B ρ M F σ H) {p : Addr} (h : H p = none) {o : HO} {c : Cl} (hc : ClOk K F (upd H p o) p c) : At K B ρ (M ++ [(p, c)]) F σ (upd H p o) := by
  have fp := a.fresh h
  refine ⟨a.ff, fun b u e => ?_, a.fr, fun b u h1 e => ?_, fun b e => ?_, a.sl, ⟨?_, fun c hc => ?_⟩, fun c hc => ?_⟩
  · rw [upd_ne (ne_of_none e fp)]; exact a.fh _ _ e
  · have q := a.kh b u h1 e
    rw [upd_ne (ne_of_none q h)]; exact q
  · by_cases q : b = p
    · subst q; rw [upd_same] at e; cases e
    · rw [upd_ne q] at e; exact a.th _ e
  · rw [List.map_append, List.nodup_append]
    refine ⟨a.ow.nd, by simp, fun x hx y hy e => ?_⟩
    have hy : y = p := by simpa using hy
    obtain ⟨c, hc, rfl⟩ := List.mem_map.mp hx
    exact a.notM h c hc (e.trans hy)
  · rcases List.mem_append.mp hc with hc | hc
    · obtain ⟨h1, h2⟩ := a.ow.ok c hc
      have q := a.notM h c hc
      exact ⟨h1, h2.mono (Same.refl _) fun u e => by rw [upd_ne q]; exact e⟩
    · have e : c = _ := List.mem_singleton.mp hc
      subst e
      exact ⟨fp, ‹_›⟩
  · rcases List.mem_append.mp hc with hc | hc
    · exact a.nw c hc
    · have e : c = _ := List.mem_singleton.mp hc
      subst e
      exact .inr (a.th _ h)
theorem nd_at {M : Mem} (nd : (M.map (·.1)).Nodup) {i j : Nat} {x y : Addr × Cl} (h1 : M[i]? = some x) (h2 : M[j]? = some y) (e : x.1 = y.1) : i = j := by
  have g1 : (M.map (·.1))[i]? = some x.1 := by rw [List.getElem?_map, h1]; rfl
  have g2 : (M.map (·.1))[j]? = some x.1 := by rw [List.getElem?_map, h2, e]; rfl
  obtain ⟨a1, b1⟩ := List.getElem?_eq_some_iff.mp g1
  obtain ⟨a2, b2⟩ := List.getElem?_eq_some_iff.mp g2
  exact (List.getElem_inj nd).mp (b1.trans b2.symm)
/-- an owned object changed -/
theorem At.write (a : At K B ρ M F σ H) {k : Nat} {p : Addr} {c c' : Cl} (hk : M[k]? = some (p, c)) {o : HO} (hc : ClOk K F (upd H p o) p c') : At K B ρ (M.set k (p, c')) F σ (upd H p o) := by
  have hm : (p, c) ∈ M := List.mem_of_getElem? hk
  have hp := a.ow.ok _ hm
  have hkl : k < M.length := (List.getElem?_eq_some_iff.mp hk).1
  have emap : (M.set k (p, c')).map (·.1) = M.map (·.1) := by
    rw [List.map_set]
    apply List.ext_getElem?
    intro i
    by_cases q : k = i
    · subst q
      rw [List.getElem?_set_self (by simpa using hkl), List.getElem?_map, hk]; rfl
    · rw [List.getElem?_set_ne q]
  have mem' : ∀ x ∈ M.set k (p, c'), x = (p, c') ∨ (x ∈ M ∧ x.1 ≠ p) := fun x hx => by
    obtain ⟨i, hi⟩ := List.getElem?_of_mem hx
    by_cases q : k = i
    · subst q
      rw [List.getElem?_set_self hkl] at hi
      exact .inl (Option.some.inj hi).symm
    · rw [List.getElem?_set_ne q] at hi
      exact .inr ⟨List.mem_of_getElem? hi, fun e => q (nd_at a.ow.nd hk hi e.symm)⟩
  refine ⟨a.ff, fun b u e => ?_, a.fr, fun b u h1 e => ?_, fun b e => ?_, a.sl, ⟨by rw [emap]; exact a.ow.nd, fun x hx => ?_⟩, fun x hx => ?_⟩
  · have q : b ≠ p := fun q => by subst q; rw [hp.1] at e; cases e
    rw [upd_ne q]; exact a.fh _ _ e
  · by_cases q : b = p
    · subst q
      rcases a.nw _ hm with z | z
      · exact absurd z h1
      · rw [z] at e; cases e
    · rw [upd_ne q]; exact a.kh b u h1 e
  · by_cases q : b = p
    · subst q; rw [upd_same] at e; cases e
    · rw [upd_ne q] at e; exact a.th _ e
  · rcases mem' x hx with rfl | ⟨h1, h2⟩
    · exact ⟨hp.1, hc⟩
    · obtain ⟨g1, g2⟩ := a.ow.ok x h1
      exact ⟨g1, g2.mono (Same.refl _) fun u e => by rw [upd_ne h2]; exact e⟩
  · rcases mem' x hx with rfl | ⟨h1, h2⟩
    · exact (show p ∈ B.own ∨ B.H p = none from a.nw _ hm)
    · exact a.nw x h1
/-- cells forgotten, or in another sequence -/
theorem At.sub {M' : Mem} (a : At K B ρ M F σ H) (h : M'.Sublist M) : At K B ρ M' F σ H :=
  ⟨a.ff, a.fh, a.fr, a.kh, a.th, a.sl, ⟨a.ow.nd.sublist (h.map _), fun c hc => a.ow.ok c (h.subset hc)⟩, fun c hc => a.nw c (h.subset hc)⟩
theorem At.perm {M' : Mem} (a : At K B ρ M F σ H) (h : M.Perm M') : At K B ρ M' F σ H :=
  ⟨a.ff, a.fh, a.fr, a.kh, a.th, a.sl, ⟨(h.map (·.1)).nodup_iff.mp a.ow.nd, fun c hc => a.ow.ok c (h.mem_iff.mpr hc)⟩, fun c hc => a.nw c (h.mem_iff.mpr hc)⟩
/-- an owned list becomes data -/
theorem At.freeze (a : At K B ρ M F σ H) {k : Nat} {p : Addr} {xs : List D} (hk : M[k]? = some (p, .lst xs)) :
    ∃ F', Same F F' ∧ At K B ρ (M.eraseIdx k) F' σ H ∧ Dv K F' (.ref p) (.lst xs) := by
  have hm : (p, Cl.lst xs) ∈ M := List.mem_of_getElem? hk
  obtain ⟨fp, vs, hp, dv⟩ := a.ow.ok _ hm
  have sF : Same F (upd F p (.lst vs)) := fun b u e => by rw [upd_ne (ne_of_none e fp)]; exact e
  have mem' : ∀ x ∈ M.eraseIdx k, x ∈ M ∧ x.1 ≠ p := fun x hx => by
    obtain ⟨i, hi⟩ := List.getElem?_of_mem hx
    rw [List.getElem?_eraseIdx] at hi
    split at hi
    · rename_i q
      exact ⟨List.mem_of_getElem? hi, fun e => absurd (nd_at a.ow.nd hk hi e.symm) (by omega)⟩
    · rename_i q
      exact ⟨List.mem_of_getElem? hi, fun e => absurd (nd_at a.ow.nd hk hi e.symm) (by omega)⟩
  have hs : (M.eraseIdx k).Sublist M := List.eraseIdx_sublist ..
  refine ⟨_, sF, ⟨a.ff.trans sF, fun b u e => ?_, fun b h1 h2 h3 => ?_, a.kh, a.th, ⟨a.sl.1, fun i d e => ?_⟩, ⟨a.ow.nd.sublist (hs.map _), fun c hc => ?_⟩, fun c hc => a.nw c (hs.subset hc)⟩, .lst (.inl upd_same) (dv.mono sF)⟩
  · by_cases q : b = p
    · subst q; rw [upd_same] at e; rw [hp]; exact e
    · rw [upd_ne q] at e; exact a.fh _ _ e
  · have q : b ≠ p := fun q => by
      subst q
      rcases a.nw _ hm with z | z
      · exact h3 z
      · rw [z] at h2; cases h2
    rw [upd_ne q]; exact a.fr b h1 h2 h3
  · obtain ⟨v, e1, e2⟩ := a.sl.2 i d e
    exact ⟨v, e1, e2.mono sF⟩
  · obtain ⟨h1, h2⟩ := mem' c hc
    obtain ⟨g1, g2⟩ := a.ow.ok c h1
    exact ⟨by rw [upd_ne h2]; exact g1, g2.mono sF fun u e => e⟩
/-- slots -/
theorem At.set (a : At K B ρ M F σ H) {v : V} {d : D} (i : Nat) (r : Dv K F v d) : At K B (ρ.set i (some d)) M F (σ.set i (some v)) H := by
  refine ⟨a.ff, a.fh, a.fr, a.kh, a.th, ⟨by rw [List.length_set, List.length_set]; exact a.sl.1, fun j e he => ?_⟩, a.ow, a.nw⟩
  by_cases q : i = j
  · subst q
    by_cases hl : i < ρ.length
    · rw [List.getElem?_set_self hl] at he
      cases he
      exact ⟨v, by rw [List.getElem?_set_self (by rw [a.sl.1]; exact hl)], r⟩
    · rw [List.getElem?_eq_none (by rw [List.length_set]; omega)] at he; cases he
  · rw [List.getElem?_set_ne q] at he
    obtain ⟨w, e1, e2⟩ := a.sl.2 j e he
    exact ⟨w, by rw [List.getElem?_set_ne q]; exact e1, e2⟩
theorem At.weak {ρ' : Ev} (a : At K B ρ M F σ H) (hl : ρ'.length = ρ.length) (h : ∀ (i : Nat) (d : D), ρ'[i]? = some (some d) → ρ[i]? = some (some d)) : At K B ρ' M F σ H :=
  ⟨a.ff, a.fh, a.fr, a.kh, a.th, ⟨a.sl.1.trans hl.symm, fun i d e => a.sl.2 i d (h i d e)⟩, a.ow, a.nw⟩
end

/-! ### seeing an owned cell as data of the heap -/
inductive Vw (M : Mem) : D → D → Prop
  | id (d : D) : Vw M d d
  | lst {k : Nat} {p : Addr} {xs : List D} (h : M[k]? = some (p, .lst xs)) : Vw M (.ref p) (.lst xs)
  | dK {k : Nat} {p : Addr} {xs : List (Key × D)} (h : M[k]? = some (p, .dK xs)) : Vw M (.ref p) (.dct xs)
  | ins {k : Nat} {p C : Addr} {xs : List (Str × D)} (h : M[k]? = some (p, .ins C xs)) : Vw M (.ref p) (.obj C xs)
theorem Vw.dv {K : PySem.W.Frag} {B : Bs} {ρ : Ev} {M : Mem} {F H : Hp} {σ : L2.St} (a : At K B ρ M F σ H) {d e : D} {v : V} (w : Vw M d e) (r : Dv K F v d) : Dv K H v e := by
  cases w with
  | id => exact r.mono a.fh
  | lst h =>
    cases r
    obtain ⟨_, vs, h1, h2⟩ := a.ow.ok _ (List.mem_of_getElem? h)
    exact .lst (.inl h1) (h2.mono a.fh)
  | dK h =>
    cases r
    obtain ⟨_, vs, h1, h2⟩ := a.ow.ok _ (List.mem_of_getElem? h)
    exact .dct h1 (h2.mono a.fh)
  | ins h =>
    cases r
    obtain ⟨_, dx, vs, h1, h2⟩ := a.ow.ok _ (List.mem_of_getElem? h)
    exact .obj h1 (h2.mono a.fh)

/-! ### the judgements -/
def EJ (X : Cx) (B : Bs) (pins : List (Addr × Obj)) (σ : L2.St) (F : Hp) (ρ : Ev) (Q : D → Mem → Prop) (u : Value) (s' : Shared) : Prop :=
  ∃ v H' F' d M', Inv X pins σ H' s' ∧ RelV v u ∧ Same F F' ∧ At X.K B ρ M' F' σ H' ∧ Dv X.K F' v d ∧ Q d M'
structure JE (X : Cx) (B : Bs) (e : Expr) (ρ : Ev) (M : Mem) (Q : D → Mem → Prop) : Prop where
  run : ∀ pins s σ H F, Inv X pins σ H s → At X.K B ρ M F σ H → wpAny (model X.prog X.w) X.A (eval e X.env) (EJ X B pins σ F ρ Q) X.xe s
structure JT (X : Cx) (B : Bs) (e : Expr) (ρ : Ev) (M : Mem) (Q : Bool → Mem → Prop) : Prop where
  run : ∀ pins s σ H F, Inv X pins σ H s → At X.K B ρ M F σ H → wpAny (model X.prog X.w) X.A (isTrue e X.env (eval e X.env))
      (fun b s' => ∃ H' F' M', Inv X pins σ H' s' ∧ Same F F' ∧ At X.K B ρ M' F' σ H' ∧ Q b M') X.xe s
/-- within and, or: whatever the whole is -/
structure JW (X : Cx) (B : Bs) (e : Expr) (ρ : Ev) (M : Mem) (Q : Bool → Mem → Prop) : Prop where
  run : ∀ whole pins s σ H F, Inv X pins σ H s → At X.K B ρ M F σ H → wpAny (model X.prog X.w) X.A (isTrue e X.env whole)
      (fun b s' => ∃ H' F' M', Inv X pins σ H' s' ∧ Same F F' ∧ At X.K B ρ M' F' σ H' ∧ Q b M') X.xe s
structure JA (X : Cx) (B : Bs) (es : List Expr) (ρ : Ev) (M : Mem) (Q : List D → Mem → Prop) : Prop where
  run : ∀ pos pins s σ H F, Inv X pins σ H s → At X.K B ρ M F σ H → wpAny (model X.prog X.w) X.A (spliced (backTo pos (starEach es X.env)))
      (fun us s' => ∃ vs H' F' ds M', Inv X pins σ H' s' ∧ Vals vs us ∧ Same F F' ∧ At X.K B ρ M' F' σ H' ∧ DvL X.K F' vs ds ∧ Q ds M') X.xe s
structure Po where
  nx : Ev → Mem → Prop
  rt : D → Mem → Prop
  bk : Ev → Mem → Prop := fun _ _ => False
  ct : Ev → Mem → Prop := fun _ _ => False
def SJ (X : Cx) (B : Bs) (pins : List (Addr × Obj)) (F : Hp) (P : Po) (f : Flow) (s' : Shared) : Prop :=
  match f with
  | .next => ∃ σ' H' F' ρ' M', Inv X pins σ' H' s' ∧ Same F F' ∧ At X.K B ρ' M' F' σ' H' ∧ P.nx ρ' M'
  | .brk => ∃ σ' H' F' ρ' M', Inv X pins σ' H' s' ∧ Same F F' ∧ At X.K B ρ' M' F' σ' H' ∧ P.bk ρ' M'
  | .cont => ∃ σ' H' F' ρ' M', Inv X pins σ' H' s' ∧ Same F F' ∧ At X.K B ρ' M' F' σ' H' ∧ P.ct ρ' M'
  | .ret u => ∃ v σ' H' F' d M', Inv X pins σ' H' s' ∧ RelV v u ∧ Same F F' ∧ (∃ ρ2 σ2, At X.K B ρ2 M' F' σ2 H') ∧ Dv X.K F' v d ∧ P.rt d M'
structure JS (X : Cx) (B : Bs) (st : Stmt) (ρ : Ev) (M : Mem) (P : Po) : Prop where
  run : ∀ pins s σ H F, Inv X pins σ H s → At X.K B ρ M F σ H → wpAny (model X.prog X.w) X.A (exec st X.env) (SJ X B pins F P) X.xe s
structure JSs (X : Cx) (B : Bs) (sts : List Stmt) (ρ : Ev) (M : Mem) (P : Po) : Prop where
  run : ∀ pins s σ H F, Inv X pins σ H s → At X.K B ρ M F σ H → wpAny (model X.prog X.w) X.A (execs sts X.env) (SJ X B pins F P) X.xe s

/-- a continuation of values, told by data -/
def KE (K : PySem.W.Frag) (B : Bs) (ρ : Ev) (σ : L2.St) (F : Hp) (Q : D → Mem → Prop) (Qh : VK) : Prop :=
  ∀ v H' F' d M', Same F F' → At K B ρ M' F' σ H' → Dv K F' v d → Q d M' → Qh v H'
def KA (K : PySem.W.Frag) (B : Bs) (ρ : Ev) (σ : L2.St) (F : Hp) (Q : List D → Mem → Prop) (Qh : List V → Hp → Prop) : Prop :=
  ∀ vs H' F' ds M', Same F F' → At K B ρ M' F' σ H' → DvL K F' vs ds → Q ds M' → Qh vs H'
def KT (K : PySem.W.Frag) (B : Bs) (ρ : Ev) (σ : L2.St) (F : Hp) (Q : Bool → Mem → Prop) (Qh : Bool → Hp → Prop) : Prop :=
  ∀ b H' F' M', Same F F' → At K B ρ M' F' σ H' → Q b M' → Qh b H'
structure KS (K : PySem.W.Frag) (B : Bs) (F : Hp) (P : Po) (E : Ends) : Prop where
  nx : ∀ σ' H' F' ρ' M', Same F F' → At K B ρ' M' F' σ' H' → P.nx ρ' M' → E.nx σ' H'
  bk : ∀ σ' H' F' ρ' M', Same F F' → At K B ρ' M' F' σ' H' → P.bk ρ' M' → E.bk σ' H'
  ct : ∀ σ' H' F' ρ' M', Same F F' → At K B ρ' M' F' σ' H' → P.ct ρ' M' → E.ct σ' H'
  rt : ∀ v H' F' ρ' σ' d M', Same F F' → At K B ρ' M' F' σ' H' → Dv K F' v d → P.rt d M' → E.rt v H'

/-! ### readings that stand for any part -/
def tJ (X : Cx) (B : Bs) (e : Expr) : TE := fun σ H Qh => ∃ F ρ M Q, At X.K B ρ M F σ H ∧ JE X B e ρ M Q ∧ KE X.K B ρ σ F Q Qh
def tJT (X : Cx) (B : Bs) (e : Expr) : TT := fun σ H Qh => ∃ F ρ M Q, At X.K B ρ M F σ H ∧ JT X B e ρ M Q ∧ KT X.K B ρ σ F Q Qh
def tJW (X : Cx) (B : Bs) (e : Expr) : TT := fun σ H Qh => ∃ F ρ M Q, At X.K B ρ M F σ H ∧ JW X B e ρ M Q ∧ KT X.K B ρ σ F Q Qh
def tJA (X : Cx) (B : Bs) (es : List Expr) : TA := fun σ H Qh => ∃ F ρ M Q, At X.K B ρ M F σ H ∧ JA X B es ρ M Q ∧ KA X.K B ρ σ F Q Qh
def tJS (X : Cx) (B : Bs) (st : Stmt) : TS := fun E σ H => ∃ F ρ M P, At X.K B ρ M F σ H ∧ JS X B st ρ M P ∧ KS X.K B F P E
def tJSs (X : Cx) (B : Bs) (sts : List Stmt) : TS := fun E σ H => ∃ F ρ M P, At X.K B ρ M F σ H ∧ JSs X B sts ρ M P ∧ KS X.K B F P E
section
variable {X : Cx} {B : Bs} {e : Expr} {es : List Expr} {st : Stmt} {sts : List Stmt} {ρ : Ev} {M : Mem} {F H : Hp} {σ : L2.St}
theorem pe_J : PE X e (tJ X B e) := ⟨fun pins s σ H Qh I ⟨F, ρ, M, Q, a, h, k⟩ =>
  thn (h.run pins s σ H F I a) fun u s' ⟨v, H', F', d, M', I', rv, e, a', dv, q⟩ => ⟨v, H', I', rv, k v H' F' d M' e a' dv q⟩⟩
theorem pt_J : PT X e (tJT X B e) := ⟨fun pins s σ H Qh I ⟨F, ρ, M, Q, a, h, k⟩ =>
  thn (h.run pins s σ H F I a) fun b s' ⟨H', F', M', I', e, a', q⟩ => ⟨H', I', k b H' F' M' e a' q⟩⟩
theorem pw_J : PW X e (tJW X B e) := ⟨fun wh pins s σ H Qh I ⟨F, ρ, M, Q, a, h, k⟩ =>
  thn (h.run wh pins s σ H F I a) fun b s' ⟨H', F', M', I', e, a', q⟩ => ⟨H', I', k b H' F' M' e a' q⟩⟩
theorem pa_J : PA X es (tJA X B es) := ⟨fun pos pins s σ H Qh I ⟨F, ρ, M, Q, a, h, k⟩ =>
  thn (h.run pos pins s σ H F I a) fun us s' ⟨vs, H', F', ds, M', I', rv, e, a', dv, q⟩ => ⟨vs, H', I', rv, k vs H' F' ds M' e a' dv q⟩⟩
theorem sp_of {pins : List (Addr × Obj)} {P : Po} {E : Ends} {f : Flow} {s' : Shared} (k : KS X.K B F P E) (h : SJ X B pins F P f s') : SP X pins E f s' := by
  cases f with
  | next => obtain ⟨σ', H', F', ρ', M', I', e, a', q⟩ := h; exact ⟨σ', H', I', k.nx _ _ _ _ _ e a' q⟩
  | brk => obtain ⟨σ', H', F', ρ', M', I', e, a', q⟩ := h; exact ⟨σ', H', I', k.bk _ _ _ _ _ e a' q⟩
  | cont => obtain ⟨σ', H', F', ρ', M', I', e, a', q⟩ := h; exact ⟨σ', H', I', k.ct _ _ _ _ _ e a' q⟩
  | ret u => obtain ⟨v, σ', H', F', d, M', I', rv, e, ⟨ρ2, σ2, a'⟩, dv, q⟩ := h; exact ⟨v, σ', H', I', rv, k.rt _ _ _ _ _ _ _ e a' dv q⟩
theorem ps_J : PS X st (tJS X B st) := ⟨fun pins s σ H E I ⟨F, ρ, M, P, a, h, k⟩ => thn (h.run pins s σ H F I a) fun f s' q => sp_of k q⟩
theorem pss_J : PSs X sts (tJSs X B sts) := ⟨fun pins s σ H E I ⟨F, ρ, M, P, a, h, k⟩ => thn (h.run pins s σ H F I a) fun f s' q => sp_of k q⟩

/-- from a rule of the hand layer -/
theorem JE.of {t : TE} {Q : D → Mem → Prop} (h : PE X e t) (q : ∀ σ H F, At X.K B ρ M F σ H → ∀ Qh : VK, KE X.K B ρ σ F Q Qh → t σ H Qh) : JE X B e ρ M Q :=
  ⟨fun pins s σ H F I a => thn (h.run pins s σ H (fun v H' => ∃ F' d M', Same F F' ∧ At X.K B ρ M' F' σ H' ∧ Dv X.K F' v d ∧ Q d M') I (q σ H F a _ fun v H' F' d M' e a' dv q => ⟨F', d, M', e, a', dv, q⟩))
    fun u s' ⟨v, H', I', rv, F', d, M', e, a', dv, q⟩ => ⟨v, H', F', d, M', I', rv, e, a', dv, q⟩⟩
theorem JT.of {t : TT} {Q : Bool → Mem → Prop} (h : PT X e t) (q : ∀ σ H F, At X.K B ρ M F σ H → ∀ Qh : Bool → Hp → Prop, KT X.K B ρ σ F Q Qh → t σ H Qh) : JT X B e ρ M Q :=
  ⟨fun pins s σ H F I a => thn (h.run pins s σ H (fun b H' => ∃ F' M', Same F F' ∧ At X.K B ρ M' F' σ H' ∧ Q b M') I (q σ H F a _ fun b H' F' M' e a' q => ⟨F', M', e, a', q⟩))
    fun b s' ⟨H', I', F', M', e, a', q⟩ => ⟨H', F', M', I', e, a', q⟩⟩
theorem JW.of {t : TT} {Q : Bool → Mem → Prop} (h : PW X e t) (q : ∀ σ H F, At X.K B ρ M F σ H → ∀ Qh : Bool → Hp → Prop, KT X.K B ρ σ F Q Qh → t σ H Qh) : JW X B e ρ M Q :=
  ⟨fun wh pins s σ H F I a => thn (h.run wh pins s σ H (fun b H' => ∃ F' M', Same F F' ∧ At X.K B ρ M' F' σ H' ∧ Q b M') I (q σ H F a _ fun b H' F' M' e a' q => ⟨F', M', e, a', q⟩))
    fun b s' ⟨H', I', F', M', e, a', q⟩ => ⟨H', F', M', I', e, a', q⟩⟩
theorem JW.jt {Q : Bool → Mem → Prop} (h : JW X B e ρ M Q) : JT X B e ρ M Q := ⟨h.run _⟩
theorem JA.of {t : TA} {Q : List D → Mem → Prop} (h : PA X es t) (q : ∀ σ H F, At X.K B ρ M F σ H → ∀ Qh, KA X.K B ρ σ F Q Qh → t σ H Qh) : JA X B es ρ M Q :=
  ⟨fun pos pins s σ H F I a => thn (h.run pos pins s σ H (fun vs H' => ∃ F' ds M', Same F F' ∧ At X.K B ρ M' F' σ H' ∧ DvL X.K F' vs ds ∧ Q ds M') I (q σ H F a _ fun v H' F' d M' e a' dv q => ⟨F', d, M', e, a', dv, q⟩))
    fun us s' ⟨vs, H', I', rv, F', ds, M', e, a', dv, q⟩ => ⟨vs, H', F', ds, M', I', rv, e, a', dv, q⟩⟩
/-- the ends that a statement's data speak of -/
def endsOf (K : PySem.W.Frag) (B : Bs) (F : Hp) (P : Po) : Ends where
  nx := fun σ' H' => ∃ F' ρ' M', Same F F' ∧ At K B ρ' M' F' σ' H' ∧ P.nx ρ' M'
  bk := fun σ' H' => ∃ F' ρ' M', Same F F' ∧ At K B ρ' M' F' σ' H' ∧ P.bk ρ' M'
  ct := fun σ' H' => ∃ F' ρ' M', Same F F' ∧ At K B ρ' M' F' σ' H' ∧ P.ct ρ' M'
  rt := fun v H' => ∃ F' d M', Same F F' ∧ (∃ ρ2 σ2, At K B ρ2 M' F' σ2 H') ∧ Dv K F' v d ∧ P.rt d M'
theorem sj_of {pins : List (Addr × Obj)} {P : Po} {f : Flow} {s' : Shared} (h : SP X pins (endsOf X.K B F P) f s') : SJ X B pins F P f s' := by
  cases f with
  | next => obtain ⟨σ', H', I', F', ρ', M', e, a', q⟩ := h; exact ⟨σ', H', F', ρ', M', I', e, a', q⟩
  | brk => obtain ⟨σ', H', I', F', ρ', M', e, a', q⟩ := h; exact ⟨σ', H', F', ρ', M', I', e, a', q⟩
  | cont => obtain ⟨σ', H', I', F', ρ', M', e, a', q⟩ := h; exact ⟨σ', H', F', ρ', M', I', e, a', q⟩
  | ret u => obtain ⟨v, σ', H', I', rv, F', d, M', e, a', dv, q⟩ := h; exact ⟨v, σ', H', F', d, M', I', rv, e, a', dv, q⟩
theorem JS.of {t : TS} {P : Po} (h : PS X st t) (q : ∀ σ H F, At X.K B ρ M F σ H → ∀ E : Ends, KS X.K B F P E → t E σ H) : JS X B st ρ M P :=
  ⟨fun pins s σ H F I a => thn (h.run pins s σ H (endsOf X.K B F P) I (q σ H F a _ ⟨fun _ _ _ _ _ e a' q => ⟨_, _, _, e, a', q⟩, fun _ _ _ _ _ e a' q => ⟨_, _, _, e, a', q⟩, fun _ _ _ _ _ e a' q => ⟨_, _, _, e, a', q⟩, fun _ _ _ _ _ _ _ e a' dv q => ⟨_, _, _, e, ⟨_, _, a'⟩, dv, q⟩⟩))
    fun f s' q => sj_of q⟩
theorem JSs.of {t : TS} {P : Po} (h : PSs X sts t) (q : ∀ σ H F, At X.K B ρ M F σ H → ∀ E : Ends, KS X.K B F P E → t E σ H) : JSs X B sts ρ M P :=
  ⟨fun pins s σ H F I a => thn (h.run pins s σ H (endsOf X.K B F P) I (q σ H F a _ ⟨fun _ _ _ _ _ e a' q => ⟨_, _, _, e, a', q⟩, fun _ _ _ _ _ e a' q => ⟨_, _, _, e, a', q⟩, fun _ _ _ _ _ e a' q => ⟨_, _, _, e, a', q⟩, fun _ _ _ _ _ _ _ e a' dv q => ⟨_, _, _, e, ⟨_, _, a'⟩, dv, q⟩⟩))
    fun f s' q => sj_of q⟩
theorem KS.go {P : Po} {E : Ends} {F' : Hp} (k : KS X.K B F P E) (e : Same F F') : KS X.K B F' P E :=
  ⟨fun _ _ _ _ _ e' => k.nx _ _ _ _ _ (e.trans e'), fun _ _ _ _ _ e' => k.bk _ _ _ _ _ (e.trans e'), fun _ _ _ _ _ e' => k.ct _ _ _ _ _ (e.trans e'), fun _ _ _ _ _ _ _ e' => k.rt _ _ _ _ _ _ _ (e.trans e')⟩
theorem KE.go {Q : D → Mem → Prop} {Qh : VK} {F' : Hp} (k : KE X.K B ρ σ F Q Qh) (e : Same F F') : KE X.K B ρ σ F' Q Qh := fun _ _ _ _ _ e' => k _ _ _ _ _ (e.trans e')
end
end J
namespace J
open PySem PySem.Spec PyProof.Rows L2

/-! plain arguments, once for all -/
def nst : Expr → Bool
  | .Starred .. => false
  | _ => true
theorem se_cons {e : Expr} {es : List Expr} {env : Env} (h : nst e = true) : starEach (e :: es) env = (false, eval e env) :: starEach es env := by
  cases e <;> first | rfl | cases h
theorem se_any : ∀ {es : List Expr} {env : Env} {pos : Pos}, es.all nst = true → (backTo pos (starEach es env)).any (·.1) = false
  | [], _, _, _ => rfl
  | e :: es, env, pos, h => by
    rw [List.all_cons, Bool.and_eq_true] at h
    rw [se_cons h.1]
    show (false || (backTo pos (starEach es env)).any (·.1)) = false
    rw [se_any h.2]; rfl
section
variable {X : Cx} {B : Bs} {a b c e o : Expr} {es : List Expr} {st : Stmt} {sts : List Stmt} {ρ : Ev} {M : Mem} {pos p2 : Pos} {Q : D → Mem → Prop} {Qb : Bool → Mem → Prop} {Ql : List D → Mem → Prop} {P : Po}

/-! ### weakening, framing -/
theorem JE.imp {Q' : D → Mem → Prop} (h : JE X B e ρ M Q) (w : ∀ d M', Q d M' → Q' d M') : JE X B e ρ M Q' := ⟨fun pins s σ H F I at_ =>
  thn (h.run pins s σ H F I at_) fun u s' ⟨v, H', F', d, M', I', rv, e, a', dv, q⟩ => ⟨v, H', F', d, M', I', rv, e, a', dv, w _ _ q⟩⟩
theorem JT.imp {Q' : Bool → Mem → Prop} (h : JT X B e ρ M Qb) (w : ∀ d M', Qb d M' → Q' d M') : JT X B e ρ M Q' := ⟨fun pins s σ H F I at_ =>
  thn (h.run pins s σ H F I at_) fun u s' ⟨H', F', M', I', e, a', q⟩ => ⟨H', F', M', I', e, a', w _ _ q⟩⟩

/-! ### names, constants -/
theorem je_var (i : Nat) {x : Str} {d : D} (h : ρ[i]? = some (some d)) (q : Q d M) (hN : X.N[i]? = some x := by rfl) (hv : Vis X.env.scope x := by first | exact Or.inl rfl | exact Or.inr (Or.inl rfl) | exact Or.inr (Or.inr rfl))
    (hd : (x == ("__debug__" : Str)) = false := by decide) (hcd : (x == ("__classdict__" : Str)) = false := by decide) : JE X B (.Name x pos) ρ M Q :=
  JE.of (pe_var hN hv hd hcd) fun σ H F at_ Qh k => let ⟨v, e, r⟩ := at_.sl.2 i d h; ⟨v, e, k v H F d M (Same.refl _) at_ r q⟩
theorem je_int {i : Int} {j} (q : Q (.int i) M) : JE X B (.Constant (.int i) j pos) ρ M Q := JE.of pe_int fun σ H F at_ Qh k => k _ H F _ M (Same.refl _) at_ (.int i) q
theorem je_bl {i : Bool} {j} (q : Q (.bl i) M) : JE X B (.Constant (.bool i) j pos) ρ M Q := JE.of pe_bl fun σ H F at_ Qh k => k _ H F _ M (Same.refl _) at_ (.bl i) q
theorem je_non {j} (q : Q .non M) : JE X B (.Constant .none j pos) ρ M Q := JE.of pe_non fun σ H F at_ Qh k => k _ H F _ M (Same.refl _) at_ .non q
theorem je_str {i : Str} {j} (q : Q (.str i) M) : JE X B (.Constant (.str i) j pos) ρ M Q := JE.of pe_str fun σ H F at_ Qh k => k _ H F _ M (Same.refl _) at_ (.str i) q
theorem je_globI {x : Str} {i : Int} {t : Tok} (hm : X.mg x = some (.int i t)) (q : Q (.int i) M) (hg : Gl X x := by rfl) (hd : (x == ("__debug__" : Str)) = false := by decide) : JE X B (.Name x pos) ρ M Q :=
  JE.of (pe_glob (v := .int i) hg hm ⟨t, rfl⟩ hd) fun σ H F at_ Qh k => k _ H F _ M (Same.refl _) at_ (.int i) q
theorem je_globS {x i : Str} {t : Tok} (hm : X.mg x = some (.str i t)) (q : Q (.str i) M) (hg : Gl X x := by rfl) (hd : (x == ("__debug__" : Str)) = false := by decide) : JE X B (.Name x pos) ρ M Q :=
  JE.of (pe_glob (v := .str i) hg hm ⟨t, rfl⟩ hd) fun σ H F at_ Qh k => k _ H F _ M (Same.refl _) at_ (.str i) q
theorem je_globR {x : Str} {a : Addr} {d : D} (hm : X.mg x = some (.ref a)) (hd' : ∀ F, Dv X.K F (.ref a) d) (q : Q d M) (hg : Gl X x := by rfl) (hd : (x == ("__debug__" : Str)) = false := by decide) : JE X B (.Name x pos) ρ M Q :=
  JE.of (pe_glob (v := .ref a) hg hm rfl hd) fun σ H F at_ Qh k => k _ H F _ M (Same.refl _) at_ (hd' F) q
theorem je_type {x : Str} {n : String} (hm : X.mg x = none) (hv : bootBuiltins x = some (.type n)) (q : Q (.ty n) M) (hg : Gl X x := by rfl) (hn : x ≠ "__name__" := by decide) (hd : (x == ("__debug__" : Str)) = false := by decide) : JE X B (.Name x pos) ρ M Q :=
  JE.of (pe_bltn (v := .ty n) hg hm hv rfl hn hd) fun σ H F at_ Qh k => k _ H F _ M (Same.refl _) at_ (.ty n) q

/-! ### two-place operations by values -/
def DR2 (X : Cx) (B : Bs) (r : R2) (x y : D) (M : Mem) (Q : D → Mem → Prop) : Prop :=
  ∀ ρ σ H F v u, At X.K B ρ M F σ H → Dv X.K F v x → Dv X.K F u y → ∀ Qh, KE X.K B ρ σ F Q Qh → r v u H Qh
def DR1 (X : Cx) (B : Bs) (r : V → Hp → VK → Prop) (x : D) (M : Mem) (Q : D → Mem → Prop) : Prop :=
  ∀ ρ σ H F v, At X.K B ρ M F σ H → Dv X.K F v x → ∀ Qh, KE X.K B ρ σ F Q Qh → r v H Qh
def DRn (X : Cx) (B : Bs) (r : List V → Hp → VK → Prop) (xs : List D) (M : Mem) (Q : D → Mem → Prop) : Prop :=
  ∀ ρ σ H F vs, At X.K B ρ M F σ H → DvL X.K F vs xs → ∀ Qh, KE X.K B ρ σ F Q Qh → r vs H Qh
def DRm (X : Cx) (B : Bs) (r : V → List V → Hp → VK → Prop) (x : D) (xs : List D) (M : Mem) (Q : D → Mem → Prop) : Prop :=
  ∀ ρ σ H F v vs, At X.K B ρ M F σ H → Dv X.K F v x → DvL X.K F vs xs → ∀ Qh, KE X.K B ρ σ F Q Qh → r v vs H Qh
theorem tj_bin {r : R2} {σ : L2.St} {H F : Hp} {Qh : VK} (h : JE X B a ρ M fun x M1 => JE X B b ρ M1 fun y M2 => DR2 X B r x y M2 Q) (at_ : At X.K B ρ M F σ H) (k : KE X.K B ρ σ F Q Qh) : tOp r (tJ X B a) (tJ X B b) σ H Qh :=
  ⟨F, ρ, M, _, at_, h, fun v H1 F1 x M1 e1 a1 r1 q1 => ⟨F1, ρ, M1, _, a1, q1, fun u H2 F2 y M2 e2 a2 r2 q2 => q2 ρ σ H2 F2 v u a2 (r1.mono e2) r2 Qh (k.go (e1.trans e2))⟩⟩
theorem je_op {op : Operator} {r : R2} (ho : OpR X (binaryOp op) r) (h : JE X B a ρ M fun x M1 => JE X B b ρ M1 fun y M2 => DR2 X B r x y M2 Q) : JE X B (.BinOp a op b pos) ρ M Q :=
  JE.of (pe_op ho pe_J pe_J) fun σ H F at_ Qh k => tj_bin h at_ k
theorem je_un {op : UnaryOp} {r : V → Hp → VK → Prop} (ho : UnR X (unaryOp op) r) (h : JE X B a ρ M fun x M1 => DR1 X B r x M1 Q) : JE X B (.UnaryOp op a pos) ρ M Q :=
  JE.of (pe_un ho pe_J) fun σ H F at_ Qh k => ⟨F, ρ, M, _, at_, h, fun v H1 F1 x M1 e1 a1 r1 q1 => q1 ρ σ H1 F1 v a1 r1 Qh (k.go e1)⟩
theorem je_cmp {op : CmpOp} {r : R2} (ho : OpR X (compareOp op) r) (hm : behindInMarks op b = false) (h : JE X B a ρ M fun x M1 => JE X B b ρ M1 fun y M2 => DR2 X B r x y M2 Q) : JE X B (.Compare a [op] [b] pos) ρ M Q :=
  JE.of (pe_cmpR ho pe_J pe_J hm) fun σ H F at_ Qh k => tj_bin h at_ k
/-- a bool's value, as a test's -/
abbrev asB (Qb : Bool → Mem → Prop) : D → Mem → Prop := fun d M => ∃ b, d = .bl b ∧ Qb b M
theorem kb_of {σ : L2.St} {F : Hp} {Qh : Bool → Hp → Prop} (k : KT X.K B ρ σ F Qb Qh) : KE X.K B ρ σ F (asB Qb) fun x H' => ∃ k, x = .bl k ∧ Qh k H' := fun v H' F' d M' e a' dv q => by
  obtain ⟨b, rfl, q⟩ := q
  cases dv
  exact ⟨b, rfl, k b H' F' M' e a' q⟩
theorem jt_cmp {op : CmpOp} {r : R2} (ho : OpR X (compareOp op) r) (hm : behindInMarks op b = false) (h : JE X B a ρ M fun x M1 => JE X B b ρ M1 fun y M2 => DR2 X B r x y M2 (asB Qb)) : JT X B (.Compare a [op] [b] pos) ρ M Qb :=
  JT.of (pt_cmpR ho pe_J pe_J hm) fun σ H F at_ Qh k => tj_bin h at_ (kb_of k)
theorem jt_val (h : JE X B e ρ M (asB Qb)) (he : ∀ whole, isTrue e X.env whole = (do let v ← whole; standAt e.pos; holding [v] (truthy v)) := by intro _; rfl) : JT X B e ρ M Qb :=
  JT.of (pt_val pe_J he) fun σ H F at_ Qh k => ⟨F, ρ, M, _, at_, h, kb_of k⟩
theorem tj_chain {r r' : R2} {σ : L2.St} {H F : Hp} {Qh : VK} (h : JE X B a ρ M fun x M1 => JE X B b ρ M1 fun y M2 => DR2 X B r x y M2 fun z M3 => ∃ k, z = .bl k ∧ (k = true → JE X B c ρ M3 fun w M4 => DR2 X B r' y w M4 Q) ∧ (k = false → Q (.bl false) M3))
    (at_ : At X.K B ρ M F σ H) (k : KE X.K B ρ σ F Q Qh) : tChain r r' (tJ X B a) (tJ X B b) (tJ X B c) σ H Qh := by
  refine ⟨F, ρ, M, _, at_, h, fun v H1 F1 x M1 e1 a1 r1 q1 => ⟨F1, ρ, M1, _, a1, q1, fun u H2 F2 y M2 e2 a2 r2 q2 => q2 ρ σ H2 F2 v u a2 (r1.mono e2) r2 _ fun z H3 F3 d M3 e3 a3 r3 q3 => ?_⟩⟩
  obtain ⟨kk, rfl, q4, q5⟩ := q3
  cases r3
  refine ⟨kk, rfl, ?_⟩
  cases kk with
  | true =>
    rw [if_pos rfl]
    exact ⟨F3, ρ, M3, _, a3, q4 rfl, fun w H4 F4 d M4 e4 a4 r4 q4 => q4 ρ σ H4 F4 u w a4 (r2.mono (e3.trans e4)) r4 Qh (k.go (((e1.trans e2).trans e3).trans e4))⟩
  | false =>
    rw [if_neg Bool.false_ne_true]
    exact k _ H3 F3 _ M3 ((e1.trans e2).trans e3) a3 (.bl false) (q5 rfl)
theorem je_chain {op op' : CmpOp} {r r' : R2} (ho : OpR X (compareOp op) r) (ho' : OpR X (compareOp op') r')
    (h : JE X B a ρ M fun x M1 => JE X B b ρ M1 fun y M2 => DR2 X B r x y M2 fun z M3 => ∃ k, z = .bl k ∧ (k = true → JE X B c ρ M3 fun w M4 => DR2 X B r' y w M4 Q) ∧ (k = false → Q (.bl false) M3))
    (hm : lastMarks [op, op'] [b, c] = false := by with_unfolding_all rfl) : JE X B (.Compare a [op, op'] [b, c] pos) ρ M Q :=
  JE.of (pe_chain ho ho' pe_J pe_J pe_J hm) fun σ H F at_ Qh k => tj_chain h at_ k
theorem jt_chain {op op' : CmpOp} {r r' : R2} (ho : OpR X (compareOp op) r) (ho' : OpR X (compareOp op') r')
    (h : JE X B a ρ M fun x M1 => JE X B b ρ M1 fun y M2 => DR2 X B r x y M2 fun z M3 => ∃ k, z = .bl k ∧ (k = true → JE X B c ρ M3 fun w M4 => DR2 X B r' y w M4 (asB Qb)) ∧ (k = false → asB Qb (.bl false) M3))
    (hm : lastMarks [op, op'] [b, c] = false := by with_unfolding_all rfl) : JT X B (.Compare a [op, op'] [b, c] pos) ρ M Qb :=
  JT.of (pt_chain ho ho' pe_J pe_J pe_J hm) fun σ H F at_ Qh k => tj_chain h at_ (kb_of k)

/-! ints -/
theorem dr_I {C : Int → Int → Prop} {g : Int → Int → V} {x y : D} {gd : Int → Int → D} (hg : ∀ F i j, Dv X.K F (g i j) (gd i j)) (h : ∃ i j, x = .int i ∧ y = .int j ∧ C i j ∧ Q (gd i j) M) : DR2 X B (rI C g) x y M Q := by
  intro ρ σ H F v u at_ rv ru Qh k
  obtain ⟨i, j, rfl, rfl, c, q⟩ := h
  cases rv
  cases ru
  exact ⟨i, j, rfl, rfl, c, k _ H F _ M (Same.refl _) at_ (hg F i j) q⟩
theorem dr_I0 {g : Int → Int → V} {x y : D} {gd : Int → Int → D} (hg : ∀ F i j, Dv X.K F (g i j) (gd i j)) (h : ∃ i j, x = .int i ∧ y = .int j ∧ Q (gd i j) M) : DR2 X B (rI0 g) x y M Q := by
  intro ρ σ H F v u at_ rv ru Qh k
  obtain ⟨i, j, rfl, rfl, q⟩ := h
  cases rv
  cases ru
  exact ⟨i, j, rfl, rfl, k _ H F _ M (Same.refl _) at_ (hg F i j) q⟩
abbrev AI2 (g : Int → Int → D) (Q : D → Mem → Prop) (x y : D) (M : Mem) : Prop := ∃ i j, x = .int i ∧ y = .int j ∧ Q (g i j) M
abbrev AI2C (C : Int → Int → Prop) (g : Int → Int → D) (Q : D → Mem → Prop) (x y : D) (M : Mem) : Prop := ∃ i j, x = .int i ∧ y = .int j ∧ C i j ∧ Q (g i j) M
theorem je_add (h : JE X B a ρ M fun x M1 => JE X B b ρ M1 fun y M2 => AI2 (fun i j => .int (i + j)) Q x y M2) : JE X B (.BinOp a .Add b pos) ρ M Q :=
  je_op op_add (h.imp fun x M1 h => h.imp fun y M2 h => dr_I0 (fun _ _ _ => .int _) h)
theorem je_sub (h : JE X B a ρ M fun x M1 => JE X B b ρ M1 fun y M2 => AI2 (fun i j => .int (i - j)) Q x y M2) : JE X B (.BinOp a .Sub b pos) ρ M Q :=
  je_op op_sub (h.imp fun x M1 h => h.imp fun y M2 h => dr_I0 (fun _ _ _ => .int _) h)
theorem je_mul (h : JE X B a ρ M fun x M1 => JE X B b ρ M1 fun y M2 => AI2C (fun i j => CMul i j) (fun i j => .int (i * j)) Q x y M2) : JE X B (.BinOp a .Mult b pos) ρ M Q :=
  je_op op_mul (h.imp fun x M1 h => h.imp fun y M2 h => dr_I (fun _ _ _ => .int _) h)
theorem je_mulW (h : JE X B a ρ M fun x M1 => JE X B b ρ M1 fun y M2 => AI2C (fun i j => CMulW i j) (fun i j => .int (i * j)) Q x y M2) : JE X B (.BinOp a .Mult b pos) ρ M Q :=
  je_op op_mulW (h.imp fun x M1 h => h.imp fun y M2 h => dr_I (fun _ _ _ => .int _) h)
theorem je_mod (h : JE X B a ρ M fun x M1 => JE X B b ρ M1 fun y M2 => AI2C (fun _ j => 0 < j) (fun i j => .int (i % j)) Q x y M2) : JE X B (.BinOp a .Mod b pos) ρ M Q :=
  je_op op_mod (h.imp fun x M1 h => h.imp fun y M2 h => dr_I (fun _ _ _ => .int _) h)
theorem je_fdiv (h : JE X B a ρ M fun x M1 => JE X B b ρ M1 fun y M2 => AI2C (fun i j => CDiv i j) (fun i j => .int (i / j)) Q x y M2) : JE X B (.BinOp a .FloorDiv b pos) ρ M Q :=
  je_op op_fdiv (h.imp fun x M1 h => h.imp fun y M2 h => dr_I (fun _ _ _ => .int _) h)
/-- a power whose size is bounded -/
def CPowW (i j : Int) : Prop := 0 ≤ j ∧ (Builtin.Int.intBits i : Int) * j ≤ 2 ^ 27
theorem op_powW : OpR X (binaryOp .Pow) (rI CPowW fun i j => .int (i ^ j.toNat)) := opI fun _ _ _ _ _ _ _ hc q => pow_int hc.1 hc.2 q
theorem je_pow (h : JE X B a ρ M fun x M1 => JE X B b ρ M1 fun y M2 => AI2C (fun i j => CPowW i j) (fun i j => .int (i ^ j.toNat)) Q x y M2) : JE X B (.BinOp a .Pow b pos) ρ M Q :=
  je_op op_powW (h.imp fun x M1 h => h.imp fun y M2 h => dr_I (fun _ _ _ => .int _) h)
theorem je_neg (h : JE X B a ρ M fun x M1 => ∃ i, x = .int i ∧ Q (.int (-i)) M1) : JE X B (.UnaryOp .USub a pos) ρ M Q :=
  je_un un_neg (h.imp fun x M1 h ρ σ H F v at_ rv Qh k => by
    obtain ⟨i, rfl, q⟩ := h
    cases rv
    exact ⟨i, rfl, k _ H F _ M1 (Same.refl _) at_ (.int _) q⟩)
section
variable (b)
theorem mk_lt : behindInMarks .Lt b = false := nomark b
theorem mk_le : behindInMarks .LtE b = false := nomark b
theorem mk_gt : behindInMarks .Gt b = false := nomark b
theorem mk_ge : behindInMarks .GtE b = false := nomark b
theorem mk_eq : behindInMarks .Eq b = false := nomark b
theorem mk_ne : behindInMarks .NotEq b = false := nomark b
theorem mk_is : behindInMarks .Is b = false := nomark b
theorem mk_isn : behindInMarks .IsNot b = false := nomark b
end
theorem dr_lt {x y : D} (h : AI2 (fun i j => .bl (decide (i < j))) Q x y M) : DR2 X B (rI0 fun i j => .bl (decide (i < j))) x y M Q := dr_I0 (fun _ _ _ => .bl _) h
theorem dr_le {x y : D} (h : AI2 (fun i j => .bl (decide (i ≤ j))) Q x y M) : DR2 X B (rI0 fun i j => .bl (decide (i ≤ j))) x y M Q := dr_I0 (fun _ _ _ => .bl _) h
theorem dr_gt {x y : D} (h : AI2 (fun i j => .bl (decide (j < i))) Q x y M) : DR2 X B (rI0 fun i j => .bl (decide (j < i))) x y M Q := dr_I0 (fun _ _ _ => .bl _) h
theorem dr_ge {x y : D} (h : AI2 (fun i j => .bl (decide (j ≤ i))) Q x y M) : DR2 X B (rI0 fun i j => .bl (decide (j ≤ i))) x y M Q := dr_I0 (fun _ _ _ => .bl _) h
/-- == of two ints, two texts, two bools, None and any of these -/
def D.flat : D → Option V
  | .non => some .non
  | .bl b => some (.bl b)
  | .int i => some (.int i)
  | .str x => some (.str x)
  | _ => none
theorem Dv.of_flat {K : PySem.W.Frag} {F : Hp} {v w : V} {d : D} (h : Dv K F v d) (f : d.flat = some w) : v = w := by
  cases d <;> simp only [D.flat] at f <;> first | (cases f; cases h; rfl) | (cases f)
theorem dr_eq {x y : D} (h : ∃ v w, x.flat = some v ∧ y.flat = some w ∧ scal v w = true ∧ Q (.bl (decide (v = w))) M) : DR2 X B rEq x y M Q := by
  intro ρ σ H F v u at_ rv ru Qh k
  obtain ⟨v', w', h1, h2, c, q⟩ := h
  have e1 := rv.of_flat h1
  have e2 := ru.of_flat h2
  subst e1 e2
  exact ⟨c, k _ H F _ M (Same.refl _) at_ (.bl _) q⟩
theorem dr_ne {x y : D} (h : ∃ v w, x.flat = some v ∧ y.flat = some w ∧ scal v w = true ∧ Q (.bl (!decide (v = w))) M) : DR2 X B rNe x y M Q := by
  intro ρ σ H F v u at_ rv ru Qh k
  obtain ⟨v', w', h1, h2, c, q⟩ := h
  have e1 := rv.of_flat h1
  have e2 := ru.of_flat h2
  subst e1 e2
  exact ⟨c, k _ H F _ M (Same.refl _) at_ (.bl _) q⟩
theorem dr_eqI {x y : D} (h : AI2 (fun i j => .bl (decide (i = j))) Q x y M) : DR2 X B rEq x y M Q := by
  obtain ⟨i, j, rfl, rfl, q⟩ := h
  exact dr_eq ⟨_, _, rfl, rfl, rfl, by rw [show decide (V.int i = V.int j) = decide (i = j) by simp]; exact q⟩
theorem dr_neI {x y : D} (h : AI2 (fun i j => .bl (!decide (i = j))) Q x y M) : DR2 X B rNe x y M Q := by
  obtain ⟨i, j, rfl, rfl, q⟩ := h
  exact dr_ne ⟨_, _, rfl, rfl, rfl, by rw [show decide (V.int i = V.int j) = decide (i = j) by simp]; exact q⟩
theorem dr_eqS {x y : D} (h : ∃ i j : Str, x = .str i ∧ y = .str j ∧ Q (.bl (decide (i = j))) M) : DR2 X B rEq x y M Q := by
  obtain ⟨i, j, rfl, rfl, q⟩ := h
  exact dr_eq ⟨_, _, rfl, rfl, rfl, by rw [show decide (V.str i = V.str j) = decide (i = j) by simp]; exact q⟩
theorem dr_neS {x y : D} (h : ∃ i j : Str, x = .str i ∧ y = .str j ∧ Q (.bl (!decide (i = j))) M) : DR2 X B rNe x y M Q := by
  obtain ⟨i, j, rfl, rfl, q⟩ := h
  exact dr_ne ⟨_, _, rfl, rfl, rfl, by rw [show decide (V.str i = V.str j) = decide (i = j) by simp]; exact q⟩
/-- is None -/
theorem Dv.non_iff {K : PySem.W.Frag} {F : Hp} {v : V} {d : D} (h : Dv K F v d) : v = .non ↔ d = .non := by
  cases h <;> simp
theorem dr_isN {x : D} {r : R2} (hr : ∀ (z : V) (H : Hp) (Qh : VK), Qh (.bl (decide (z = .non))) H → r z .non H Qh) {bb : Bool} (hb : bb = true ↔ x = .non) (q : Q (.bl bb) M) : DR2 X B r x .non M Q := by
  intro ρ σ H F v u at_ rv ru Qh k
  cases ru
  refine hr v H Qh (k _ H F _ M (Same.refl _) at_ ?_ q)
  have e : decide (v = .non) = bb := by
    rw [Bool.eq_iff_iff, decide_eq_true_iff, rv.non_iff, hb]
  rw [e]; exact .bl _
theorem dr_notN {x : D} {r : R2} (hr : ∀ (z : V) (H : Hp) (Qh : VK), Qh (.bl (!decide (z = .non))) H → r z .non H Qh) {bb : Bool} (hb : bb = true ↔ ¬ x = .non) (q : Q (.bl bb) M) : DR2 X B r x .non M Q := by
  intro ρ σ H F v u at_ rv ru Qh k
  cases ru
  refine hr v H Qh (k _ H F _ M (Same.refl _) at_ ?_ q)
  have e : (!decide (v = .non)) = bb := by
    rw [Bool.eq_iff_iff, Bool.not_eq_true', decide_eq_false_iff_not, rv.non_iff, hb]
  rw [e]; exact .bl _

/-! ### and, or, not, if -/
theorem jw_and1 (h : JT X B a ρ M Qb) : JW X B (.BoolOp .And [a] pos) ρ M Qb := JW.of (pw_and1 pt_J) fun σ H F at_ Qh k => ⟨F, ρ, M, _, at_, h, k⟩
theorem jw_or1 (h : JT X B a ρ M Qb) : JW X B (.BoolOp .Or [a] pos) ρ M Qb := JW.of (pw_or1 pt_J) fun σ H F at_ Qh k => ⟨F, ρ, M, _, at_, h, k⟩
theorem jw_and (h : JT X B a ρ M fun k M1 => (k = true → JW X B (.BoolOp .And (b :: es) pos) ρ M1 Qb) ∧ (k = false → Qb false M1)) : JW X B (.BoolOp .And (a :: b :: es) pos) ρ M Qb :=
  JW.of (pw_and pt_J pw_J) fun σ H F at_ Qh k => ⟨F, ρ, M, _, at_, h, fun kk H1 F1 M1 e1 a1 q1 => by
    cases kk with
    | true => rw [if_pos rfl]; exact ⟨F1, ρ, M1, _, a1, q1.1 rfl, fun _ _ _ _ e' => k _ _ _ _ (e1.trans e')⟩
    | false => rw [if_neg Bool.false_ne_true]; exact k _ _ _ _ e1 a1 (q1.2 rfl)⟩
theorem jw_or (h : JT X B a ρ M fun k M1 => (k = false → JW X B (.BoolOp .Or (b :: es) pos) ρ M1 Qb) ∧ (k = true → Qb true M1)) : JW X B (.BoolOp .Or (a :: b :: es) pos) ρ M Qb :=
  JW.of (pw_or pt_J pw_J) fun σ H F at_ Qh k => ⟨F, ρ, M, _, at_, h, fun kk H1 F1 M1 e1 a1 q1 => by
    cases kk with
    | false => rw [if_neg Bool.false_ne_true]; exact ⟨F1, ρ, M1, _, a1, q1.1 rfl, fun _ _ _ _ e' => k _ _ _ _ (e1.trans e')⟩
    | true => rw [if_pos rfl]; exact k _ _ _ _ e1 a1 (q1.2 rfl)⟩
theorem jt_not (h : JT X B a ρ M fun k M1 => Qb (!k) M1) : JT X B (.UnaryOp .Not a pos) ρ M Qb :=
  JT.of (pt_not pt_J) fun σ H F at_ Qh k => ⟨F, ρ, M, _, at_, h, fun kk H1 F1 M1 e1 a1 q1 => k _ _ _ _ e1 a1 q1⟩
theorem je_and1 (h : JE X B a ρ M Q) : JE X B (.BoolOp .And [a] pos) ρ M Q := JE.of (pe_one pe_J) fun σ H F at_ Qh k => ⟨F, ρ, M, _, at_, h, k⟩
theorem je_or1 (h : JE X B a ρ M Q) : JE X B (.BoolOp .Or [a] pos) ρ M Q := JE.of (pe_one pe_J) fun σ H F at_ Qh k => ⟨F, ρ, M, _, at_, h, k⟩
theorem je_and (h : JE X B a ρ M fun d M1 => ∃ k, d = .bl k ∧ (k = true → JE X B (.BoolOp .And (b :: es) pos) ρ M1 Q) ∧ (k = false → Q (.bl false) M1)) : JE X B (.BoolOp .And (a :: b :: es) pos) ρ M Q :=
  JE.of (pe_and pe_J pe_J) fun σ H F at_ Qh k => ⟨F, ρ, M, _, at_, h, fun v H1 F1 d M1 e1 a1 r1 q1 => by
    obtain ⟨kk, rfl, q2, q3⟩ := q1
    cases r1
    refine ⟨kk, rfl, ?_⟩
    cases kk with
    | true => rw [if_pos rfl]; exact ⟨F1, ρ, M1, _, a1, q2 rfl, k.go e1⟩
    | false => rw [if_neg Bool.false_ne_true]; exact k _ _ _ _ _ e1 a1 (.bl false) (q3 rfl)⟩
theorem je_or (h : JE X B a ρ M fun d M1 => ∃ k, d = .bl k ∧ (k = false → JE X B (.BoolOp .Or (b :: es) pos) ρ M1 Q) ∧ (k = true → Q (.bl true) M1)) : JE X B (.BoolOp .Or (a :: b :: es) pos) ρ M Q :=
  JE.of (pe_or pe_J pe_J) fun σ H F at_ Qh k => ⟨F, ρ, M, _, at_, h, fun v H1 F1 d M1 e1 a1 r1 q1 => by
    obtain ⟨kk, rfl, q2, q3⟩ := q1
    cases r1
    refine ⟨kk, rfl, ?_⟩
    cases kk with
    | false => rw [if_neg Bool.false_ne_true]; exact ⟨F1, ρ, M1, _, a1, q2 rfl, k.go e1⟩
    | true => rw [if_pos rfl]; exact k _ _ _ _ _ e1 a1 (.bl true) (q3 rfl)⟩
theorem je_not (h : JE X B a ρ M fun d M1 => ∃ k, d = .bl k ∧ Q (.bl (!k)) M1) : JE X B (.UnaryOp .Not a pos) ρ M Q :=
  JE.of (pe_not pe_J) fun σ H F at_ Qh k => ⟨F, ρ, M, _, at_, h, fun v H1 F1 d M1 e1 a1 r1 q1 => by
    obtain ⟨kk, rfl, q2⟩ := q1
    cases r1
    exact ⟨kk, rfl, k _ _ _ _ _ e1 a1 (.bl _) q2⟩⟩
theorem je_if (h : JT X B c ρ M fun k M1 => (k = true → JE X B a ρ M1 Q) ∧ (k = false → JE X B b ρ M1 Q)) : JE X B (.IfExp c a b pos) ρ M Q :=
  JE.of (pe_ifExp pt_J pe_J pe_J) fun σ H F at_ Qh k => ⟨F, ρ, M, _, at_, h, fun kk H1 F1 M1 e1 a1 q1 => by
    cases kk with
    | true => rw [if_pos rfl]; exact ⟨F1, ρ, M1, _, a1, q1.1 rfl, k.go e1⟩
    | false => rw [if_neg Bool.false_ne_true]; exact ⟨F1, ρ, M1, _, a1, q1.2 rfl, k.go e1⟩⟩

/-! ### arguments, displays -/
theorem ja_nil (q : Ql [] M) : JA X B [] ρ M Ql := JA.of pa_nil fun σ H F at_ Qh k => k [] H F [] M (Same.refl _) at_ .nil q
theorem ja_cons (h : JE X B e ρ M fun d M1 => JA X B es ρ M1 fun ds M2 => Ql (d :: ds) M2) (hs : starEach (e :: es) X.env = (false, eval e X.env) :: starEach es X.env := by exact se_cons rfl) : JA X B (e :: es) ρ M Ql :=
  JA.of (pa_cons pe_J pa_J hs) fun σ H F at_ Qh k => ⟨F, ρ, M, _, at_, h, fun v H1 F1 d M1 e1 a1 r1 q1 => ⟨F1, ρ, M1, _, a1, q1, fun vs H2 F2 ds M2 e2 a2 r2 q2 => k _ _ _ _ _ (e1.trans e2) a2 (.cons (r1.mono e2) r2) q2⟩⟩
theorem je_tup {j} (h : JA X B es ρ M fun ds M1 => ds.length ≤ sizeLine ∧ Q (.tup ds) M1) : JE X B (.Tuple es j pos) ρ M Q :=
  JE.of (pe_tup pa_J) fun σ H F at_ Qh k => ⟨F, ρ, M, _, at_, h, fun vs H1 F1 ds M1 e1 a1 r1 q1 => ⟨by rw [r1.length]; exact q1.1, fun p hp =>
    k _ _ _ _ _ (e1.trans (a1.newF hp _).2) (a1.newF hp (.tup vs)).1 (.tup (.inl (.inl upd_same)) (r1.mono (a1.newF hp _).2)) q1.2⟩⟩
/-- a list that nobody changes -/
theorem je_lst (h : JA X B es ρ M fun ds M1 => ds.length ≤ sizeLine ∧ Q (.lst ds) M1) : JE X B (.List es pos) ρ M Q :=
  JE.of (pe_lst pa_J) fun σ H F at_ Qh k => ⟨F, ρ, M, _, at_, h, fun vs H1 F1 ds M1 e1 a1 r1 q1 => ⟨by rw [r1.length]; exact q1.1, fun p hp =>
    k _ _ _ _ _ (e1.trans (a1.newF hp _).2) (a1.newF hp (.lst vs)).1 (.lst (.inl upd_same) (r1.mono (a1.newF hp _).2)) q1.2⟩⟩
/-- a list of one's own -/
theorem je_lstO (h : JA X B es ρ M fun ds M1 => ds.length ≤ sizeLine ∧ ∀ p, Q (.ref p) (M1 ++ [(p, .lst ds)])) : JE X B (.List es pos) ρ M Q :=
  JE.of (pe_lst pa_J) fun σ H F at_ Qh k => ⟨F, ρ, M, _, at_, h, fun vs H1 F1 ds M1 e1 a1 r1 q1 => ⟨by rw [r1.length]; exact q1.1, fun p hp =>
    k _ _ _ _ _ e1 (a1.newO (c := .lst ds) hp ⟨vs, upd_same, r1⟩) (.ref p) (q1.2 p)⟩⟩

/-! ### sequences: data or owned -/
inductive Sq (M : Mem) : D → List D → Prop
  | tup (xs : List D) : Sq M (.tup xs) xs
  | lst (xs : List D) : Sq M (.lst xs) xs
  | scr (ns : List Int) : Sq M (.scr ns) (ns.map D.int)
  | own {k : Nat} {p : Addr} {xs : List D} (h : M[k]? = some (p, .lst xs)) : Sq M (.ref p) xs
inductive SqLs (M : Mem) : D → List D → Prop
  | lst (xs : List D) : SqLs M (.lst xs) xs
  | scr (ns : List Int) : SqLs M (.scr ns) (ns.map D.int)
  | own {k : Nat} {p : Addr} {xs : List D} (h : M[k]? = some (p, .lst xs)) : SqLs M (.ref p) xs
theorem Sq.at {K : PySem.W.Frag} {ρ : Ev} {F H : Hp} {σ : L2.St} {d : D} {xs : List D} {v : V} (h : Sq M d xs) (a : At K B ρ M F σ H) (r : Dv K F v d) : ∃ p vs, v = .ref p ∧ (SqL K H p vs ∨ SqT K H p vs) ∧ DvL K F vs xs := by
  cases h with
  | tup => cases r with | tup h1 h2 => exact ⟨_, _, rfl, .inr (sqT_mono a.fh h1), h2⟩
  | lst => cases r with | lst h1 h2 => exact ⟨_, _, rfl, .inl (Same.seq a.fh (.inl h1)), h2⟩
  | scr => cases r with | scr h1 => exact ⟨_, _, rfl, .inl (Same.seq a.fh h1), DvL.of_ints _⟩
  | own h =>
    cases r
    obtain ⟨_, vs, h1, h2⟩ := a.ow.ok _ (List.mem_of_getElem? h)
    exact ⟨_, vs, rfl, .inl (.inl (.inl h1)), h2⟩
theorem SqLs.at {K : PySem.W.Frag} {ρ : Ev} {F H : Hp} {σ : L2.St} {d : D} {xs : List D} {v : V} (h : SqLs M d xs) (a : At K B ρ M F σ H) (r : Dv K F v d) : ∃ p vs, v = .ref p ∧ SqL K H p vs ∧ DvL K F vs xs := by
  cases h with
  | lst => cases r with | lst h1 h2 => exact ⟨_, _, rfl, Same.seq a.fh (.inl h1), h2⟩
  | scr => cases r with | scr h1 => exact ⟨_, _, rfl, Same.seq a.fh h1, DvL.of_ints _⟩
  | own h =>
    cases r
    obtain ⟨_, vs, h1, h2⟩ := a.ow.ok _ (List.mem_of_getElem? h)
    exact ⟨_, vs, rfl, .inl (.inl h1), h2⟩
theorem atI_dv {K : PySem.W.Frag} {F : Hp} {vs : List V} {xs : List D} {i : Int} {d : D} (r : DvL K F vs xs) (h : atI xs i = some d) : ∃ v, atI vs i = some v ∧ Dv K F v d := by
  unfold atI at h ⊢
  rw [r.length]
  cases e : ixN xs.length i with
  | none => rw [e] at h; cases h
  | some j => rw [e] at h; exact r.get h
/-- xs[i] -/
theorem je_ix (h : JE X B a ρ M fun x M1 => JE X B b ρ M1 fun y M2 => ∃ xs i d, Sq M2 x xs ∧ y = .int i ∧ atI xs i = some d ∧ Q d M2) (hs : PlainIx b := by exact fun _ _ => rfl) : JE X B (.Subscript a b pos) ρ M Q :=
  JE.of (pe_ix ix_seq pe_J pe_J hs) fun σ H F at_ Qh k => tj_bin (r := rIx X.K) (h.imp fun x M1 h => h.imp fun y M2 h ρ σ H F v u at_ rv ru Qh k => by
    obtain ⟨xs, i, d, hs, rfl, hd, q⟩ := h
    cases ru
    obtain ⟨p, vs, rfl, hq, r⟩ := hs.at at_ rv
    obtain ⟨w, hw, rw'⟩ := atI_dv r hd
    have k' := k w H F d M2 (Same.refl _) at_ rw' q
    rcases hq with hq | hq
    · exact .inl ⟨p, vs, i, w, rfl, rfl, hq, hw, k'⟩
    · exact .inr (.inl ⟨p, vs, i, w, rfl, rfl, hq, hw, k'⟩)) at_ k
/-- s[i] -/
theorem je_ixS (h : JE X B a ρ M fun x M1 => JE X B b ρ M1 fun y M2 => ∃ (z : Str) (i : Int) (c : Nat), x = .str z ∧ y = .int i ∧ z.length ≤ sizeLine ∧ atI z.cps.toList i = some c ∧ Q (.str ⟨#[c]⟩) M2) (hs : PlainIx b := by exact fun _ _ => rfl) : JE X B (.Subscript a b pos) ρ M Q :=
  JE.of (pe_ix ix_str pe_J pe_J hs) fun σ H F at_ Qh k => tj_bin (r := rIxS) (h.imp fun x M1 h => h.imp fun y M2 h ρ σ H F v u at_ rv ru Qh k => by
    obtain ⟨z, i, c, rfl, rfl, hz, hc, q⟩ := h
    cases rv
    cases ru
    exact ⟨z, i, c, rfl, rfl, hz, hc, k _ H F _ M2 (Same.refl _) at_ (.str _) q⟩) at_ k

/-! ### calls of built-ins -/
theorem je_callB {id : String} {x : Str} {r : List V → Hp → VK → Prop} (hc : CallR X (.builtin id) r) (hm : X.mg x = none) (hv : bootBuiltins x = some (.builtin id)) (h : JA X B (e :: es) ρ M fun ds M1 => DRn X B r ds M1 Q)
    (hg : Gl X x := by rfl) (hn : x ≠ "__name__" := by decide) (hdb : (x == ("__debug__" : Str)) = false := by decide)
    (he : starEach (e :: es) X.env = (false, eval e X.env) :: starEach es X.env := by exact se_cons rfl) (hpl : (backTo pos (starEach es X.env)).any (·.1) = false := by exact se_any rfl) : JE X B (.Call (.Name x p2) (e :: es) [] pos) ρ M Q :=
  JE.of (pe_callB hc hg hm hv pa_J hn hdb he hpl) fun σ H F at_ Qh k => ⟨F, ρ, M, _, at_, h, fun vs H1 F1 ds M1 e1 a1 r1 q1 => q1 ρ σ H1 F1 vs a1 r1 Qh (k.go e1)⟩
theorem je_callTy {T : String} {x : Str} {r : List V → Hp → VK → Prop} (hc : CallR X (.type T) r) (hm : X.mg x = none) (hv : bootBuiltins x = some (.type T)) (h : JA X B (e :: es) ρ M fun ds M1 => DRn X B r ds M1 Q)
    (hg : Gl X x := by rfl) (hn : x ≠ "__name__" := by decide) (hdb : (x == ("__debug__" : Str)) = false := by decide)
    (he : starEach (e :: es) X.env = (false, eval e X.env) :: starEach es X.env := by exact se_cons rfl) (hpl : (backTo pos (starEach es X.env)).any (·.1) = false := by exact se_any rfl) : JE X B (.Call (.Name x p2) (e :: es) [] pos) ρ M Q :=
  JE.of (pe_callTy hc hg hm hv pa_J hn hdb he hpl) fun σ H F at_ Qh k => ⟨F, ρ, M, _, at_, h, fun vs H1 F1 ds M1 e1 a1 r1 q1 => q1 ρ σ H1 F1 vs a1 r1 Qh (k.go e1)⟩
theorem DvL.one {K : PySem.W.Frag} {F : Hp} {vs : List V} {d : D} (h : DvL K F vs [d]) : ∃ v, vs = [v] ∧ Dv K F v d := by
  cases h with | cons r t => cases t; exact ⟨_, rfl, r⟩
theorem DvL.two {K : PySem.W.Frag} {F : Hp} {vs : List V} {d e : D} (h : DvL K F vs [d, e]) : ∃ v w, vs = [v, w] ∧ Dv K F v d ∧ Dv K F w e := by
  cases h with | cons r t => obtain ⟨w, rfl, r2⟩ := t.one; exact ⟨_, _, rfl, r, r2⟩
theorem dn_len {ds : List D} (h : ∃ d xs, ds = [d] ∧ Sq M d xs ∧ Q (.int (xs.length : Nat)) M) : DRn X B (fun xs H Q => ∃ p ys, xs = [V.ref p] ∧ (SqL X.K H p ys ∨ SqT X.K H p ys) ∧ Q (.int (ys.length : Nat)) H) ds M Q := by
  intro ρ σ H F vs at_ r Qh k
  obtain ⟨d, xs, rfl, hs, q⟩ := h
  obtain ⟨v, rfl, rv⟩ := r.one
  obtain ⟨p, ws, rfl, hq, rw'⟩ := hs.at at_ rv
  exact ⟨p, ws, rfl, hq, k _ H F _ M (Same.refl _) at_ (by rw [rw'.length]; exact .int _) q⟩
theorem je_len (hm : X.mg "len" = none) (h : JA X B (e :: es) ρ M fun ds M1 => ∃ d xs, ds = [d] ∧ Sq M1 d xs ∧ Q (.int (xs.length : Nat)) M1)
    (he : starEach (e :: es) X.env = (false, eval e X.env) :: starEach es X.env := by exact se_cons rfl) (hpl : (backTo pos (starEach es X.env)).any (·.1) = false := by exact se_any rfl) (hg : Gl X "len" := by rfl) : JE X B (.Call (.Name "len" p2) (e :: es) [] pos) ρ M Q :=
  je_callB call_len_seq hm PySem.boot_len ⟨fun pins s σ H F pos' I a => thn (h.run pins s σ H F pos' I a) fun us s' ⟨vs, H', F', ds, M', I', rv, e, a', dv, q⟩ => ⟨vs, H', F', ds, M', I', rv, e, a', dv, dn_len q⟩⟩ hg (by decide) (by decide) he hpl
end
end J
namespace J
open PySem PySem.Spec PyProof.Rows L2

/-! ### targets -/
def KeepW (ix : List Nat) (σ σ' : L2.St) : Prop := ∀ vs : List Nat, (∀ j ∈ ix, j ∈ vs) → wipe σ' vs = wipe σ vs
/-- d is stored at the target; ix: the slots that it stores at -/
structure JG (X : Cx) (B : Bs) (tg : Expr) (ix : List Nat) (d : D) (ρ : Ev) (M : Mem) (Q : Ev → Mem → Prop) : Prop where
  run : ∀ pins s σ H F v u, Inv X pins σ H s → At X.K B ρ M F σ H → RelV v u → Dv X.K F v d → wpAny (model X.prog X.w) X.A (assign tg X.env u)
      (fun _ s' => ∃ σ' H' F' ρ' M', Inv X pins σ' H' s' ∧ Same F F' ∧ At X.K B ρ' M' F' σ' H' ∧ KeepW ix σ σ' ∧ Q ρ' M') X.xe s
structure JGs (X : Cx) (B : Bs) (tgs : List Expr) (ix : List Nat) (ds : List D) (ρ : Ev) (M : Mem) (Q : Ev → Mem → Prop) : Prop where
  run : ∀ pins s σ H F vs us, Inv X pins σ H s → At X.K B ρ M F σ H → Vals vs us → DvL X.K F vs ds → wpAny (model X.prog X.w) X.A (assignInOrder ((assignEach tgs X.env).map (·.2)) us)
      (fun _ s' => ∃ σ' H' F' ρ' M', Inv X pins σ' H' s' ∧ Same F F' ∧ At X.K B ρ' M' F' σ' H' ∧ KeepW ix σ σ' ∧ Q ρ' M') X.xe s
def KG (K : PySem.W.Frag) (B : Bs) (ix : List Nat) (σ : L2.St) (F : Hp) (Q : Ev → Mem → Prop) (Qh : L2.St → Hp → Prop) : Prop :=
  ∀ σ' H' F' ρ' M', Same F F' → At K B ρ' M' F' σ' H' → KeepW ix σ σ' → Q ρ' M' → Qh σ' H'
def tJG (X : Cx) (B : Bs) (tg : Expr) : TG := fun v σ H Qh => ∃ F ρ M d ix Q, At X.K B ρ M F σ H ∧ Dv X.K F v d ∧ JG X B tg ix d ρ M Q ∧ KG X.K B ix σ F Q Qh
def tJGs (X : Cx) (B : Bs) (tgs : List Expr) : TGs := fun vs σ H Qh => ∃ F ρ M ds ix Q, At X.K B ρ M F σ H ∧ DvL X.K F vs ds ∧ JGs X B tgs ix ds ρ M Q ∧ KG X.K B ix σ F Q Qh
section
variable {X : Cx} {B : Bs} {tg e c it : Expr} {tgs es : List Expr} {st : Stmt} {sts body : List Stmt} {ix : List Nat} {d : D} {ds : List D} {ρ : Ev} {M : Mem} {pos p2 p3 : Pos} {Qg : Ev → Mem → Prop} {Q : D → Mem → Prop} {P : Po}
theorem pg_J : PG X tg (tJG X B tg) := ⟨fun pins s σ H v u Qh I r ⟨F, ρ, M, d, ix, Q, a, dv, h, k⟩ =>
  thn (h.run pins s σ H F v u I a r dv) fun _ s' ⟨σ', H', F', ρ', M', I', e, a', w, q⟩ => ⟨σ', H', I', k _ _ _ _ _ e a' w q⟩⟩
theorem pgs_J : PGs X tgs (tJGs X B tgs) := ⟨fun pins s σ H v u Qh I r ⟨F, ρ, M, d, ix, Q, a, dv, h, k⟩ =>
  thn (h.run pins s σ H F v u I a r dv) fun _ s' ⟨σ', H', F', ρ', M', I', e, a', w, q⟩ => ⟨σ', H', I', k _ _ _ _ _ e a' w q⟩⟩
theorem JG.of {t : TG} (h : PG X tg t) (q : ∀ σ H F v, At X.K B ρ M F σ H → Dv X.K F v d → ∀ Qh, KG X.K B ix σ F Qg Qh → t v σ H Qh) : JG X B tg ix d ρ M Qg :=
  ⟨fun pins s σ H F v u I a r dv => thn (h.run pins s σ H v u (fun σ' H' => ∃ F' ρ' M', Same F F' ∧ At X.K B ρ' M' F' σ' H' ∧ KeepW ix σ σ' ∧ Qg ρ' M') I r (q σ H F v a dv _ fun σ' H' F' ρ' M' e a' w q => ⟨F', ρ', M', e, a', w, q⟩))
    fun _ s' ⟨σ', H', I', F', ρ', M', e, a', w, q⟩ => ⟨σ', H', F', ρ', M', I', e, a', w, q⟩⟩
theorem JGs.of {t : TGs} (h : PGs X tgs t) (q : ∀ σ H F vs, At X.K B ρ M F σ H → DvL X.K F vs ds → ∀ Qh, KG X.K B ix σ F Qg Qh → t vs σ H Qh) : JGs X B tgs ix ds ρ M Qg :=
  ⟨fun pins s σ H F v u I a r dv => thn (h.run pins s σ H v u (fun σ' H' => ∃ F' ρ' M', Same F F' ∧ At X.K B ρ' M' F' σ' H' ∧ KeepW ix σ σ' ∧ Qg ρ' M') I r (q σ H F v a dv _ fun σ' H' F' ρ' M' e a' w q => ⟨F', ρ', M', e, a', w, q⟩))
    fun _ s' ⟨σ', H', I', F', ρ', M', e, a', w, q⟩ => ⟨σ', H', F', ρ', M', I', e, a', w, q⟩⟩
theorem wipe_set (σ : L2.St) (i : Nat) (x : Option V) : ∀ vs : List Nat, i ∈ vs → wipe (σ.set i x) vs = wipe σ vs
  | [], h => by cases h
  | v :: vs, h => by
    unfold wipe
    by_cases hv : i ∈ vs
    · rw [wipe_set σ i x vs hv]
    · have e : i = v := by
        rcases List.mem_cons.mp h with h | h
        · exact h
        · exact absurd h hv
      subst e
      have comm : ∀ (us : List Nat), i ∉ us → wipe (σ.set i x) us = (wipe σ us).set i x := by
        intro us
        induction us with
        | nil => intro _; rfl
        | cons u us ih =>
          intro hn
          have hn' : i ≠ u ∧ i ∉ us := by simpa [List.mem_cons, not_or] using hn
          unfold wipe
          rw [ih hn'.2, List.set_comm _ _ hn'.1]
      rw [comm vs hv, List.set_set]
theorem KeepW.refl {σ : L2.St} : KeepW ix σ σ := fun _ _ => rfl
theorem jg_name (i : Nat) {x : Str} (hN : X.N.Nodup) (q : Qg (ρ.set i (some d)) M) (hi : X.N[i]? = some x := by rfl) (hx : Loc X.env.scope x := by first | exact Or.inl rfl | exact Or.inr rfl) (hf : X.fn x = true ∨ X.env.scope.names.lookup x = some .local := by first | exact .inl rfl | exact .inr rfl | assumption) :
    JG X B (.Name x pos) [i] d ρ M Qg :=
  JG.of (pg_name hN hi hx hf) fun σ H F v a dv Qh k => k _ _ _ _ _ (Same.refl _) (a.set i dv) (fun vs hv => wipe_set σ i (some v) vs (hv i (by simp))) q
theorem jgs_nil (q : Qg ρ M) : JGs X B [] [] [] ρ M Qg := JGs.of pgs_nil fun σ H F vs a dv Qh k => by cases dv; exact ⟨rfl, k _ _ _ _ _ (Same.refl _) a KeepW.refl q⟩
theorem jgs_cons {ix2 : List Nat} (h : JG X B tg ix d ρ M fun ρ1 M1 => JGs X B tgs ix2 ds ρ1 M1 Qg) (hs : (assignEach (tg :: tgs) X.env).map (·.2) = assign tg X.env :: (assignEach tgs X.env).map (·.2) := by rfl) : JGs X B (tg :: tgs) (ix ++ ix2) (d :: ds) ρ M Qg :=
  JGs.of (pgs_cons pg_J pgs_J hs) fun σ H F vs a dv Qh k => by
    cases dv with
    | cons r t =>
      exact ⟨_, _, rfl, F, ρ, M, d, ix, _, a, r, h, fun σ1 H1 F1 ρ1 M1 e1 a1 w1 q1 => ⟨F1, ρ1, M1, ds, ix2, _, a1, t.mono e1, q1, fun σ2 H2 F2 ρ2 M2 e2 a2 w2 q2 =>
        k _ _ _ _ _ (e1.trans e2) a2 (fun us hu => (w2 us fun j hj => hu j (List.mem_append_right _ hj)).trans (w1 us fun j hj => hu j (List.mem_append_left _ hj))) q2⟩⟩
theorem jg_tup {j} {n : Nat} (hc : X.calm = true) (h : ∃ ds, d = .tup ds ∧ ds.length = n ∧ JGs X B tgs ix ds ρ M Qg) (hn : (assignEach tgs X.env).length = n := by rfl) (hst : (assignEach tgs X.env).findIdx? (·.1) = none := by rfl) : JG X B (.Tuple tgs j pos) ix d ρ M Qg :=
  JG.of (pg_tup hc (pgs_J (B := B)) hn hst) fun σ H F v a dv Qh k => by
    obtain ⟨ds, rfl, hl, h⟩ := h
    cases dv with
    | tup h1 h2 => exact ⟨_, _, rfl, sqT_mono a.fh h1, by rw [h2.length]; exact hl, F, ρ, M, ds, ix, _, a, h2, h, k⟩

/-! ### statements -/
theorem js_cons (h : JS X B st ρ M { P with nx := fun ρ1 M1 => JSs X B sts ρ1 M1 P }) : JSs X B (st :: sts) ρ M P :=
  JSs.of (pss_cons ps_J pss_J) fun σ H F a E k => ⟨F, ρ, M, _, a, h, ⟨fun σ' H' F' ρ' M' e a' q => ⟨F', ρ', M', P, a', q, k.go e⟩, k.bk, k.ct, k.rt⟩⟩
theorem js_one (h : JS X B st ρ M P) : JSs X B [st] ρ M P := JSs.of (pss_one ps_J) fun σ H F a E k => ⟨F, ρ, M, _, a, h, k⟩
theorem js_nil (h : P.nx ρ M) : JSs X B [] ρ M P := JSs.of pss_nil fun σ H F a E k => k.nx _ _ _ _ _ (Same.refl _) a h
theorem JSs.imp {P' : Po} (h : JSs X B sts ρ M P) (h1 : ∀ ρ M, P.nx ρ M → P'.nx ρ M) (h2 : ∀ d M, P.rt d M → P'.rt d M) (h3 : ∀ ρ M, P.bk ρ M → P'.bk ρ M) (h4 : ∀ ρ M, P.ct ρ M → P'.ct ρ M) : JSs X B sts ρ M P' := ⟨fun pins s σ H F I a =>
  thn (h.run pins s σ H F I a) fun f s' q => by
    cases f with
    | next => obtain ⟨σ', H', F', ρ', M', I', e, a', q⟩ := q; exact ⟨σ', H', F', ρ', M', I', e, a', h1 _ _ q⟩
    | brk => obtain ⟨σ', H', F', ρ', M', I', e, a', q⟩ := q; exact ⟨σ', H', F', ρ', M', I', e, a', h3 _ _ q⟩
    | cont => obtain ⟨σ', H', F', ρ', M', I', e, a', q⟩ := q; exact ⟨σ', H', F', ρ', M', I', e, a', h4 _ _ q⟩
    | ret u => obtain ⟨v, σ', H', F', d, M', I', rv, e, a', dv, q⟩ := q; exact ⟨v, σ', H', F', d, M', I', rv, e, a', dv, h2 _ _ q⟩⟩
theorem js_pass (h : P.nx ρ M) : JS X B (.Pass pos) ρ M P := JS.of ps_pass fun σ H F a E k => k.nx _ _ _ _ _ (Same.refl _) a h
theorem js_break (h : P.bk ρ M) : JS X B (.Break pos) ρ M P := JS.of ps_break fun σ H F a E k => k.bk _ _ _ _ _ (Same.refl _) a h
theorem js_continue (h : P.ct ρ M) : JS X B (.Continue pos) ρ M P := JS.of ps_continue fun σ H F a E k => k.ct _ _ _ _ _ (Same.refl _) a h
theorem js_never (h : False) : JS X B st ρ M P := h.elim
theorem jss_never (h : False) : JSs X B sts ρ M P := h.elim
theorem js_ret (h : JE X B e ρ M P.rt) : JS X B (.Return (some e) pos) ρ M P :=
  JS.of (ps_ret pe_J) fun σ H F a E k => ⟨F, ρ, M, _, a, h, fun v H' F' d M' e a' dv q => k.rt _ _ _ _ _ _ _ e a' dv q⟩
theorem js_retN (h : P.rt .non M) : JS X B (.Return none pos) ρ M P := JS.of ps_retN fun σ H F a E k => k.rt _ _ _ _ _ _ _ (Same.refl _) a .non h
theorem js_expr (h : JE X B e ρ M fun _ M1 => P.nx ρ M1) (hs : swapsWith e none pos.line X.env = pure false := by rfl) : JS X B (.Expr e pos) ρ M P :=
  JS.of (ps_expr pe_J hs) fun σ H F a E k => ⟨F, ρ, M, _, a, h, fun v H' F' d M' e a' dv q => k.nx _ _ _ _ _ e a' q⟩
theorem js_doc {x j} (h : P.nx ρ M) : JS X B (.Expr (.Constant (.str x) j pos) p2) ρ M P := JS.of ps_doc fun σ H F a E k => k.nx _ _ _ _ _ (Same.refl _) a h
theorem js_set (i : Nat) {x : Str} (hN : X.N.Nodup) (h : JE X B e ρ M fun d M1 => P.nx (ρ.set i (some d)) M1) (hi : X.N[i]? = some x := by rfl) (hx : Loc X.env.scope x := by first | exact Or.inl rfl | exact Or.inr rfl)
    (hs : swapsWith e (some (.Name x p2)) pos.line X.env = pure false := by rfl) (hf : X.fn x = true ∨ X.env.scope.names.lookup x = some .local := by first | exact .inl rfl | exact .inr rfl | assumption) : JS X B (.Assign [.Name x p2] e pos) ρ M P :=
  JS.of (ps_set hN hi hx pe_J hs hf) fun σ H F a E k => ⟨F, ρ, M, _, a, h, fun v H' F' d M' e a' dv q => k.nx _ _ _ _ _ e (a'.set i dv) q⟩
theorem js_asg {ix : List Nat} (h : JE X B e ρ M fun d M1 => JG X B tg ix d ρ M1 P.nx) (hs : swapsWithSole [tg] e pos.line X.env = pure false := by rfl) (hw : swappedStores [tg] e X.env = pure none := by rfl)
    (h1 : (assignEach [tg] X.env).map (·.2) = [assign tg X.env] := by rfl) : JS X B (.Assign [tg] e pos) ρ M P :=
  JS.of (ps_asg pe_J pg_J hs hw h1) fun σ H F a E k => ⟨F, ρ, M, _, a, h, fun v H' F' d M' e a' dv q => ⟨F', ρ, M', d, _, _, a', dv, q, fun σ2 H2 F2 ρ2 M2 e2 a2 w2 q2 => k.nx _ _ _ _ _ (e.trans e2) a2 q2⟩⟩
/-- a, b = x, y: two local names -/
theorem js_par (i j : Nat) {x y : Str} {a b : Expr} {px py pt : Pos} {kt k2 pt2} (hc : X.calm = true) (hN : X.N.Nodup) (h : JA X B [a, b] ρ M fun ds M1 => ∃ d e, ds = [d, e] ∧ P.nx ((ρ.set i (some d)).set j (some e)) M1) (hi : X.N[i]? = some x := by rfl) (hj : X.N[j]? = some y := by rfl) (hij : i ≠ j := by decide)
    (hx : X.env.scope.names.lookup x = some .local := by rfl) (hy : X.env.scope.names.lookup y = some .local := by rfl)
    (hw : swappedStores [.Tuple [.Name x px, .Name y py] kt pt] (.Tuple [a, b] k2 pt2) X.env = pure (some [x, y]) := by rfl)
    (hs : swapsWithSole [.Tuple [.Name x px, .Name y py] kt pt] (.Tuple [a, b] k2 pt2) pos.line X.env = pure false := by rfl) :
    JS X B (.Assign [.Tuple [.Name x px, .Name y py] kt pt] (.Tuple [a, b] k2 pt2) pos) ρ M P :=
  JS.of (ps_par hc hN hi hj hij hx hy pa_J hw hs) fun σ H F a E k => ⟨F, ρ, M, _, a, h, fun vs H' F' ds M' e a' dv q => by
    obtain ⟨d1, d2, rfl, q⟩ := q
    obtain ⟨v, w, rfl, r1, r2⟩ := dv.two
    exact ⟨v, w, rfl, k.nx _ _ _ _ _ e ((a'.set i r1).set j r2) q⟩⟩
theorem js_if {t u : List Stmt} (h : JT X B c ρ M fun k M1 => (k = true → JSs X B t ρ M1 P) ∧ (k = false → JSs X B u ρ M1 P)) : JS X B (.If c t u pos) ρ M P :=
  JS.of (ps_if pt_J pss_J pss_J) fun σ H F a E k => ⟨F, ρ, M, _, a, h, fun b H' F' M' e a' q => by
    cases b with
    | true => rw [if_pos rfl]; exact ⟨F', ρ, M', P, a', q.1 rfl, k.go e⟩
    | false => rw [if_neg Bool.false_ne_true]; exact ⟨F', ρ, M', P, a', q.2 rfl, k.go e⟩⟩
/-- name += e and the like: ints -/
theorem js_augI (i : Nat) {x : Str} {op : Operator} {f : Int → Int → Int} (hp : PIp X op (ipI f)) (hN : X.N.Nodup) (h : ∃ n, ρ[i]? = some (some (.int n)) ∧ JE X B e ρ M fun d M1 => ∃ m, d = .int m ∧ P.nx (ρ.set i (some (.int (f n m)))) M1)
    (hi : X.N[i]? = some x := by rfl) (hx : Loc X.env.scope x := by first | exact Or.inl rfl | exact Or.inr rfl) (hf : X.fn x = true ∨ X.env.scope.names.lookup x = some .local := by first | exact .inl rfl | exact .inr rfl | assumption) : JS X B (.AugAssign (.Name x p2) op e pos) ρ M P :=
  JS.of (ps_aug hN hi hx pe_J hp hf) fun σ H F a E k => by
    obtain ⟨n, hn, h⟩ := h
    obtain ⟨v, hv, rv⟩ := a.sl.2 i _ hn
    cases rv
    exact ⟨_, hv, F, ρ, M, _, a, h, fun v H' F' d M' e a' dv q => by
      obtain ⟨m, rfl, q⟩ := q
      cases dv
      exact ⟨n, m, rfl, rfl, k.nx _ _ _ _ _ e (a'.set i (.int _)) q⟩⟩
/-- while, by a word with a measure -/
theorem js_while (hp : PassesOwn (model X.prog X.w) X.A X.env X.xe) (h : ∃ W : Nat → Ev → Mem → Prop, (∃ m, W m ρ M) ∧ ∀ m ρ' M', W m ρ' M' → JT X B c ρ' M' fun k M1 =>
      (k = true → JSs X B body ρ' M1 { nx := fun ρ2 M2 => ∃ m', m' < m ∧ W m' ρ2 M2, ct := fun ρ2 M2 => ∃ m', m' < m ∧ W m' ρ2 M2, bk := P.nx, rt := P.rt }) ∧ (k = false → P.nx ρ' M1)) : JS X B (.While c body [] pos) ρ M P :=
  JS.of (ps_while hp pt_J pss_J) fun σ H F a E k => by
    obtain ⟨W, ⟨m0, w0⟩, turn⟩ := h
    refine ⟨fun m σ' H' => ∃ F' ρ' M', Same F F' ∧ At X.K B ρ' M' F' σ' H' ∧ W m ρ' M', ⟨m0, F, ρ, M, Same.refl _, a, w0⟩, ?_⟩
    rintro m σ' H' ⟨F', ρ', M', e', a', w'⟩
    refine ⟨F', ρ', M', _, a', turn m ρ' M' w', fun b H1 F1 M1 e1 a1 q => ?_⟩
    cases b with
    | true =>
      rw [if_pos rfl]
      refine ⟨fun σ2 H2 => ∃ F2 ρ2 M2, Same F F2 ∧ At X.K B ρ2 M2 F2 σ2 H2 ∧ ∃ m', m' < m ∧ W m' ρ2 M2, fun σ2 H2 ⟨F2, ρ2, M2, e2, a2, m', hm, w2⟩ => ⟨m', hm, F2, ρ2, M2, e2, a2, w2⟩, ?_⟩
      exact ⟨F1, ρ', M1, _, a1, q.1 rfl, ⟨fun σ2 H2 F2 ρ2 M2 e2 a2 q2 => ⟨F2, ρ2, M2, (e'.trans e1).trans e2, a2, q2⟩, fun σ2 H2 F2 ρ2 M2 e2 a2 q2 => k.nx _ _ _ _ _ ((e'.trans e1).trans e2) a2 q2,
        fun σ2 H2 F2 ρ2 M2 e2 a2 q2 => ⟨F2, ρ2, M2, (e'.trans e1).trans e2, a2, q2⟩, fun _ _ _ _ _ _ _ e2 => k.rt _ _ _ _ _ _ _ ((e'.trans e1).trans e2)⟩⟩
    | false =>
      rw [if_neg Bool.false_ne_true]
      exact k.nx _ _ _ _ _ (e'.trans e1) a1 (q.2 rfl)

/-! ### the memory between statements -/
theorem jss_sub {M' : Mem} (hs : M'.Sublist M) (h : JSs X B sts ρ M' P) : JSs X B sts ρ M P := ⟨fun pins s σ H F I a => h.run pins s σ H F I (a.sub hs)⟩
theorem jss_perm {M' : Mem} (hs : M.Perm M') (h : JSs X B sts ρ M' P) : JSs X B sts ρ M P := ⟨fun pins s σ H F I a => h.run pins s σ H F I (a.perm hs)⟩
theorem jss_weak {ρ' : Ev} (hl : ρ'.length = ρ.length) (hw : ∀ (i : Nat) (d : D), ρ'[i]? = some (some d) → ρ[i]? = some (some d)) (h : JSs X B sts ρ' M P) : JSs X B sts ρ M P := ⟨fun pins s σ H F I a => h.run pins s σ H F I (a.weak hl hw)⟩
/-- the owned list in the k-th cell, held in slot i, is data from here on -/
theorem jss_freeze (k i : Nat) {p : Addr} {xs : List D} (hk : M[k]? = some (p, .lst xs)) (hi : ρ[i]? = some (some (.ref p))) (h : JSs X B sts (ρ.set i (some (.lst xs))) (M.eraseIdx k) P) : JSs X B sts ρ M P := ⟨fun pins s σ H F I a => by
  obtain ⟨F', e, a', dv⟩ := a.freeze hk
  obtain ⟨v, hv, rv⟩ := a.sl.2 i _ hi
  cases rv
  have a2 := a'.set i dv
  have es : σ.set i (some (V.ref p)) = σ := by
    apply List.ext_getElem?
    intro j
    by_cases q : i = j
    · subst q
      rw [List.getElem?_set_self (List.getElem?_eq_some_iff.mp hv).1, hv]
    · rw [List.getElem?_set_ne q]
  rw [es] at a2
  refine thn (h.run pins s σ H F' I a2) fun f s' q => ?_
  cases f with
  | next => obtain ⟨σ', H', F2, ρ', M', I', e2, a', q⟩ := q; exact ⟨σ', H', F2, ρ', M', I', e.trans e2, a', q⟩
  | brk => obtain ⟨σ', H', F2, ρ', M', I', e2, a', q⟩ := q; exact ⟨σ', H', F2, ρ', M', I', e.trans e2, a', q⟩
  | cont => obtain ⟨σ', H', F2, ρ', M', I', e2, a', q⟩ := q; exact ⟨σ', H', F2, ρ', M', I', e.trans e2, a', q⟩
  | ret u => obtain ⟨v, σ', H', F2, d, M', I', rv, e2, a', dv, q⟩ := q; exact ⟨v, σ', H', F2, d, M', I', rv, e.trans e2, a', dv, q⟩⟩
/-- an expression whose value is an owned list: the list as data -/
theorem je_frz (h : JE X B e ρ M fun d M1 => ∃ k p xs, d = .ref p ∧ M1[k]? = some (p, .lst xs) ∧ Q (.lst xs) (M1.eraseIdx k)) : JE X B e ρ M Q := ⟨fun pins s σ H F I a =>
  thn (h.run pins s σ H F I a) fun u s' ⟨v, H', F', d, M', I', rv, e, a', dv, q⟩ => by
    obtain ⟨k, p, xs, rfl, hk, q⟩ := q
    obtain ⟨F2, e2, a2, dv2⟩ := a'.freeze hk
    cases dv
    exact ⟨_, H', F2, _, _, I', rv, e.trans e2, a2, dv2, q⟩⟩
theorem je_subM {M' : Mem} (hs : M'.Sublist M) (h : JE X B e ρ M' Q) : JE X B e ρ M Q := ⟨fun pins s σ H F I a => h.run pins s σ H F I (a.sub hs)⟩
/-- cells dropped behind an expression -/
theorem je_drop (h : JE X B e ρ M fun d M1 => ∃ M2, M2.Sublist M1 ∧ Q d M2) : JE X B e ρ M Q := ⟨fun pins s σ H F I a =>
  thn (h.run pins s σ H F I a) fun u s' ⟨v, H', F', d, M', I', rv, e, a', dv, M2, hs, q⟩ => ⟨v, H', F', d, M2, I', rv, e, a'.sub hs, dv, q⟩⟩
end
end J
namespace J
open PySem PySem.Spec PyProof.Rows L2

/-! ### what is walked -/
/-- at each turn, where Ok says of the memory, the i-th of items -/
structure DWalk (K : PySem.W.Frag) (J : It) (F0 : Hp) (Ok : Mem → Prop) (items : List D) : Prop where
  go : ∀ B ρ M F σ H i, i < items.length → At K B ρ M F σ H → Same F0 F → Ok M → J.go i H
  stop : ∀ B ρ M F σ H, At K B ρ M F σ H → Same F0 F → Ok M → J.stop items.length H
  yld : ∀ B ρ M F σ H i v H', i < items.length → At K B ρ M F σ H → Same F0 F → Ok M → J.yld i H v H' → ∃ F' d, Same F F' ∧ At K B ρ M F' σ H' ∧ items[i]? = some d ∧ Dv K F' v d
structure JI (X : Cx) (B : Bs) (tg it : Expr) (ρ : Ev) (M : Mem) (Q : List D → (Mem → Prop) → Mem → Prop) : Prop where
  run : ∀ pins s σ H F, Inv X pins σ H s → At X.K B ρ M F σ H → wpAny (model X.prog X.w) X.A (eval it X.env) (fun v s1 => wpAny (model X.prog X.w) X.A (pyIter v)
      (PIE X pins σ tg fun J H' => ∃ F' M' items Ok, Same F F' ∧ At X.K B ρ M' F' σ H' ∧ DWalk X.K J F' Ok items ∧ Q items Ok M') X.xe s1) X.xe s
def tJI (X : Cx) (B : Bs) (tg it : Expr) : TI := fun σ H R => ∃ F ρ M Q, At X.K B ρ M F σ H ∧ JI X B tg it ρ M Q ∧ ∀ J H' F' M' items Ok, Same F F' → At X.K B ρ M' F' σ H' → DWalk X.K J F' Ok items → Q items Ok M' → R J H'
section
variable {X : Cx} {B : Bs} {tg e c it a b : Expr} {tgs es : List Expr} {st : Stmt} {sts body : List Stmt} {ix : List Nat} {d : D} {ds : List D} {ρ : Ev} {M : Mem} {pos p2 p3 : Pos} {Qi : List D → (Mem → Prop) → Mem → Prop} {Q : D → Mem → Prop} {P : Po}
theorem pie_mono {pins : List (Addr × Obj)} {σ : L2.St} {R R' : It → Hp → Prop} {v : Value} {s : Shared} (h : PIE X pins σ tg R v s) (w : ∀ J H, R J H → R' J H) : PIE X pins σ tg R' v s := by
  obtain ⟨it, fp, tn, J, H', e, I, T, t0, f, r⟩ := h
  exact ⟨it, fp, tn, J, H', e, I, T, t0, f, w _ _ r⟩
theorem pi_J : PI X tg it (tJI X B tg it) := ⟨fun pins s σ H R I ⟨F, ρ, M, Q, a, h, k⟩ =>
  thn (h.run pins s σ H F I a) fun v s1 h1 => thn h1 fun w s2 h2 => pie_mono h2 fun J H' ⟨F', M', items, Ok, e, a', dw, q⟩ => k J H' F' M' items Ok e a' dw q⟩
theorem JI.of {t : TI} (h : PI X tg it t) (q : ∀ σ H F, At X.K B ρ M F σ H → ∀ R, (∀ J H' F' M' items Ok, Same F F' → At X.K B ρ M' F' σ H' → DWalk X.K J F' Ok items → Qi items Ok M' → R J H') → t σ H R) : JI X B tg it ρ M Qi :=
  ⟨fun pins s σ H F I a => thn (h.run pins s σ H _ I (q σ H F a (fun J H' => ∃ F' M' items Ok, Same F F' ∧ At X.K B ρ M' F' σ H' ∧ DWalk X.K J F' Ok items ∧ Qi items Ok M') fun J H' F' M' items Ok e a' dw q => ⟨F', M', items, Ok, e, a', dw, q⟩))
    fun v s1 h1 => h1⟩
theorem dw_list {K : PySem.W.Frag} {F : Hp} {p : Addr} {vs : List V} {ds : List D} (h : SqL K F p vs) (r : DvL K F vs ds) : DWalk K (Itl K p) F (fun _ => True) ds where
  go := fun B ρ M F' σ H i hi a e _ => by
    have hi' : i < vs.length := by rw [r.length]; exact hi
    exact ⟨vs, vs[i], Same.seq (e.trans a.fh) h, by simp [hi']⟩
  stop := fun B ρ M F' σ H a e _ => ⟨vs, Same.seq (e.trans a.fh) h, by rw [r.length]; exact Nat.le_refl _⟩
  yld := fun B ρ M F' σ H i v H' hi a e _ y => by
    obtain ⟨rfl, y⟩ := y
    obtain ⟨d, hd, rv⟩ := r.getV (y vs (Same.seq (e.trans a.fh) h))
    exact ⟨F', d, Same.refl _, a, hd, rv.mono e⟩
theorem dw_tup {K : PySem.W.Frag} {F : Hp} {p : Addr} {vs : List V} {ds : List D} (h : SqT K F p vs) (r : DvL K F vs ds) : DWalk K (Itt K p) F (fun _ => True) ds where
  go := fun B ρ M F' σ H i hi a e _ => by
    have hi' : i < vs.length := by rw [r.length]; exact hi
    exact ⟨vs, vs[i], sqT_mono (e.trans a.fh) h, by simp [hi']⟩
  stop := fun B ρ M F' σ H a e _ => ⟨vs, sqT_mono (e.trans a.fh) h, by rw [r.length]; exact Nat.le_refl _⟩
  yld := fun B ρ M F' σ H i v H' hi a e _ y => by
    obtain ⟨rfl, y⟩ := y
    obtain ⟨d, hd, rv⟩ := r.getV (y vs (sqT_mono (e.trans a.fh) h))
    exact ⟨F', d, Same.refl _, a, hd, rv.mono e⟩
/-- an owned list that the body leaves as it is -/
theorem dw_own {K : PySem.W.Frag} {F : Hp} {k : Nat} {p : Addr} {ds : List D} : DWalk K (Itl K p) F (fun M => M[k]? = some (p, .lst ds)) ds where
  go := fun B ρ M F' σ H i hi a e hm => by
    obtain ⟨_, vs, h1, h2⟩ := a.ow.ok _ (List.mem_of_getElem? hm)
    have hi' : i < vs.length := by rw [h2.length]; exact hi
    exact ⟨vs, vs[i], .inl (.inl h1), by simp [hi']⟩
  stop := fun B ρ M F' σ H a e hm => by
    obtain ⟨_, vs, h1, h2⟩ := a.ow.ok _ (List.mem_of_getElem? hm)
    exact ⟨vs, .inl (.inl h1), by rw [h2.length]; exact Nat.le_refl _⟩
  yld := fun B ρ M F' σ H i v H' hi a e hm y => by
    obtain ⟨rfl, y⟩ := y
    obtain ⟨_, vs, h1, h2⟩ := a.ow.ok _ (List.mem_of_getElem? hm)
    obtain ⟨d, hd, rv⟩ := h2.getV (y vs (.inl (.inl h1)))
    exact ⟨F', d, Same.refl _, a, hd, rv⟩
/-- over a list -/
theorem ji_list (h : JE X B it ρ M fun d M1 => ∃ ds, d = .lst ds ∧ Qi ds (fun _ => True) M1) : JI X B tg it ρ M Qi :=
  JI.of (pi_list pe_J) fun σ H F a R k => ⟨F, ρ, M, _, a, h, fun v H' F' d M' e a' dv q => by
    obtain ⟨ds, rfl, q⟩ := q
    cases dv with
    | lst h1 h2 => exact ⟨_, rfl, ⟨_, Same.seq a'.fh (.inl h1)⟩, k _ _ _ _ _ _ e a' (dw_list (.inl h1) h2) q⟩⟩
theorem ji_own (h : JE X B it ρ M fun d M1 => ∃ (k : Nat) (p : Addr) (ds : List D), d = .ref p ∧ M1[k]? = some (p, Cl.lst ds) ∧ Qi ds (fun M : Mem => M[k]? = some (p, Cl.lst ds)) M1) : JI X B tg it ρ M Qi :=
  JI.of (pi_list pe_J) fun σ H F a R k => ⟨F, ρ, M, _, a, h, fun v H' F' d M' e a' dv q => by
    obtain ⟨kk, p, ds, rfl, hk, q⟩ := q
    cases dv
    obtain ⟨_, vs, h1, h2⟩ := a'.ow.ok _ (List.mem_of_getElem? hk)
    exact ⟨_, rfl, ⟨_, .inl (.inl h1)⟩, k _ _ _ _ _ _ e a' dw_own q⟩⟩
theorem ji_tup (h : JE X B it ρ M fun d M1 => ∃ ds, d = .tup ds ∧ Qi ds (fun _ => True) M1) : JI X B tg it ρ M Qi :=
  JI.of (pi_tup pe_J) fun σ H F a R k => ⟨F, ρ, M, _, a, h, fun v H' F' d M' e a' dv q => by
    obtain ⟨ds, rfl, q⟩ := q
    cases dv with
    | tup h1 h2 => exact ⟨_, rfl, ⟨_, sqT_mono a'.fh h1⟩, k _ _ _ _ _ _ e a' (dw_tup h1 h2) q⟩⟩
/-- lo, lo + c, .. -/
def rangeD (lo c : Int) (n : Nat) : List D := (List.range n).map fun i => .int (lo + (i : Nat) * c)
theorem rangeD_length (lo c : Int) (n : Nat) : (rangeD lo c n).length = n := by simp [rangeD]
theorem rangeD_get {lo c : Int} {n i : Nat} (h : i < n) : (rangeD lo c n)[i]? = some (.int (lo + (i : Nat) * c)) := by simp [rangeD, h]
theorem dw_range {K : PySem.W.Frag} {F : Hp} {lo : Int} {n : Nat} : DWalk K (Itr lo n) F (fun _ => True) (rangeD lo 1 n) where
  go := fun B ρ M F' σ H i hi a e _ => by rw [rangeD_length] at hi; exact hi
  stop := fun B ρ M F' σ H a e _ => by rw [rangeD_length]; exact Nat.le_refl _
  yld := fun B ρ M F' σ H i v H' hi a e _ y => by
    obtain ⟨rfl, rfl⟩ := y
    rw [rangeD_length] at hi
    exact ⟨F', _, Same.refl _, a, rangeD_get hi, by rw [Int.mul_one]; exact .int _⟩
theorem dw_rangeC {K : PySem.W.Frag} {F : Hp} {lo c : Int} {n : Nat} : DWalk K (Itc lo c n) F (fun _ => True) (rangeD lo c n) where
  go := fun B ρ M F' σ H i hi a e _ => by rw [rangeD_length] at hi; exact hi
  stop := fun B ρ M F' σ H a e _ => by rw [rangeD_length]; exact Nat.le_refl _
  yld := fun B ρ M F' σ H i v H' hi a e _ y => by
    obtain ⟨rfl, rfl⟩ := y
    rw [rangeD_length] at hi
    exact ⟨F', _, Same.refl _, a, rangeD_get hi, .int _⟩
theorem ji_range1 (hm : X.mg "range" = none) (h : JA X B [a] ρ M fun ds M1 => ∃ j : Int, ds = [.int j] ∧ -(2 ^ 62) ≤ j ∧ j < 2 ^ 62 ∧ Qi (rangeD 0 1 j.toNat) (fun _ => True) M1) (hg : Gl X "range" := by rfl) (hs : starEach [a] X.env = [(false, eval a X.env)] := by rfl) : JI X B tg (.Call (.Name "range" p2) [a] [] pos) ρ M Qi :=
  JI.of (pi_range1 hg hm pa_J hs) fun σ H F at_ R k => ⟨F, ρ, M, _, at_, h, fun vs H' F' ds M' e a' dv q => by
    obtain ⟨j, rfl, q1, q2, q⟩ := q
    obtain ⟨v, rfl, rv⟩ := dv.one
    cases rv
    exact ⟨j, rfl, q1, q2, k _ _ _ _ _ _ e a' dw_range q⟩⟩
theorem ji_range2 (hm : X.mg "range" = none) (h : JA X B [a, b] ρ M fun ds M1 => ∃ i j : Int, ds = [.int i, .int j] ∧ (-(2 ^ 62) ≤ i ∧ i < 2 ^ 62 ∧ -(2 ^ 62) ≤ j ∧ j < 2 ^ 62) ∧ Qi (rangeD i 1 (j - i).toNat) (fun _ => True) M1) (hg : Gl X "range" := by rfl)
    (hs : starEach [a, b] X.env = [(false, eval a X.env), (false, eval b X.env)] := by rfl) (hs2 : starEach [b] X.env = [(false, eval b X.env)] := by rfl) : JI X B tg (.Call (.Name "range" p2) [a, b] [] pos) ρ M Qi :=
  JI.of (pi_range2 hg hm pa_J hs hs2) fun σ H F at_ R k => ⟨F, ρ, M, _, at_, h, fun vs H' F' ds M' e a' dv q => by
    obtain ⟨i, j, rfl, q1, q⟩ := q
    obtain ⟨v, w, rfl, rv, rw'⟩ := dv.two
    cases rv
    cases rw'
    exact ⟨i, j, rfl, q1, k _ _ _ _ _ _ e a' dw_range q⟩⟩
theorem ji_range3 (hm : X.mg "range" = none) (h : JA X B [a, b, c] ρ M fun ds M1 => ∃ (i j st : Int) (n : Nat), ds = [.int i, .int j, .int st] ∧ RgC i j st n ∧ Qi (rangeD i st n) (fun _ => True) M1) (hg : Gl X "range" := by rfl)
    (hs : starEach [a, b, c] X.env = (false, eval a X.env) :: starEach [b, c] X.env := by rfl) (hpl : (backTo pos (starEach [b, c] X.env)).any (·.1) = false := by rfl) : JI X B tg (.Call (.Name "range" p2) [a, b, c] [] pos) ρ M Qi :=
  JI.of (pi_range3 hg hm pa_J hs hpl) fun σ H F at_ R k => ⟨F, ρ, M, _, at_, h, fun vs H' F' ds M' e a' dv q => by
    obtain ⟨i, j, st, n, rfl, q1, q⟩ := q
    cases dv with
    | cons rv t =>
      obtain ⟨v, w, rfl, r1, r2⟩ := t.two
      cases rv
      cases r1
      cases r2
      exact ⟨i, j, st, n, rfl, q1, k _ _ _ _ _ _ e a' dw_rangeC q⟩⟩
/-- a text, sign by sign -/
def signsD (z : Str) : List D := z.cps.toList.map fun c => .str ⟨#[c]⟩
theorem ji_str (h : JE X B it ρ M fun d M1 => ∃ z : Str, d = .str z ∧ Qi (signsD z) (fun _ => True) M1) : JI X B tg it ρ M Qi :=
  JI.of (pi_str pe_J) fun σ H F a R k => ⟨F, ρ, M, _, a, h, fun v H' F' d M' e a' dv q => by
    obtain ⟨z, rfl, q⟩ := q
    cases dv
    refine ⟨z, rfl, k _ _ _ _ _ _ e a' ⟨fun B ρ M F' σ H i hi a e _ => ?_, fun B ρ M F' σ H a e _ => ?_, fun B ρ M F' σ H i v H' hi a e _ y => ?_⟩ q⟩
    · show i < z.cps.size
      simpa [signsD] using hi
    · show z.cps.size ≤ _
      simp [signsD]
    · obtain ⟨rfl, cc, hc, rfl⟩ := y
      exact ⟨F', _, Same.refl _, a, by simp [signsD, hc], .str _⟩⟩
/-- pairs, new at each turn -/
theorem dw_pair {K : PySem.W.Frag} {F : Hp} {J : It} {Ok : Mem → Prop} {f g : Nat → Option D} {n : Nat} {items : List D} (hl : items.length = n) (hi : ∀ i x y, i < n → f i = some x → g i = some y → items[i]? = some (.tup [x, y]))
    (go : ∀ B ρ M F' σ H i, i < n → At K B ρ M F' σ H → Same F F' → Ok M → J.go i H) (stop : ∀ B ρ M F' σ H, At K B ρ M F' σ H → Same F F' → Ok M → J.stop n H)
    (yld : ∀ B ρ M F' σ H i v H', i < n → At K B ρ M F' σ H → Same F F' → Ok M → J.yld i H v H' → ∃ T x y vx vy, v = .ref T ∧ H T = none ∧ H' = upd H T (.tup [vx, vy]) ∧ f i = some x ∧ g i = some y ∧ Dv K F' vx x ∧ Dv K F' vy y) : DWalk K J F Ok items where
  go := fun B ρ M F' σ H i h a e o => go B ρ M F' σ H i (hl ▸ h) a e o
  stop := fun B ρ M F' σ H a e o => hl ▸ stop B ρ M F' σ H a e o
  yld := fun B ρ M F' σ H i v H' h a e o y => by
    obtain ⟨T, x, yy, vx, vy, rfl, hT, rfl, hf, hg, rx, ry⟩ := yld B ρ M F' σ H i v H' (hl ▸ h) a e o y
    obtain ⟨a2, e2⟩ := a.newF hT (.tup [vx, vy])
    exact ⟨_, _, e2, a2, hi i x yy (hl ▸ h) hf hg, .tup (.inl (.inl upd_same)) (.cons (rx.mono e2) (.cons (ry.mono e2) .nil))⟩
def enumD (ds : List D) : List D := ds.zipIdx.map fun p => .tup [.int (p.2 : Nat), p.1]
theorem enumD_length (ds : List D) : (enumD ds).length = ds.length := by simp [enumD]
theorem enumD_get {ds : List D} {i : Nat} {d : D} (h : ds[i]? = some d) : (enumD ds)[i]? = some (.tup [.int (i : Nat), d]) := by simp [enumD, List.getElem?_zipIdx, h]
def zipD (xs ys : List D) : List D := List.zipWith (fun x y => .tup [x, y]) xs ys
theorem zipD_get {xs ys : List D} {i : Nat} {x y : D} (h1 : xs[i]? = some x) (h2 : ys[i]? = some y) : (zipD xs ys)[i]? = some (.tup [x, y]) := by simp [zipD, List.getElem?_zipWith, h1, h2]
theorem zipD_length (xs ys : List D) : (zipD xs ys).length = min xs.length ys.length := by simp [zipD]
theorem dw_enumL {K : PySem.W.Frag} {F : Hp} {p : Addr} {vs : List V} {ds : List D} (h : SqL K F p vs) (r : DvL K F vs ds) : DWalk K (Ite K p) F (fun _ => True) (enumD ds) :=
  dw_pair (f := fun i => some (.int (i : Nat))) (g := fun i => ds[i]?) (n := ds.length) (enumD_length ds) (fun i x y hi hx hy => by cases hx; exact enumD_get hy)
    (fun B ρ M F' σ H i hi a e _ => by
      have hi' : i < vs.length := by rw [r.length]; exact hi
      exact ⟨vs, vs[i], Same.seq (e.trans a.fh) h, by simp [hi']⟩)
    (fun B ρ M F' σ H a e _ => ⟨vs, Same.seq (e.trans a.fh) h, by rw [r.length]; exact Nat.le_refl _⟩)
    (fun B ρ M F' σ H i v H' hi a e _ y => by
      obtain ⟨T, x, rfl, hT, rfl, y⟩ := y
      obtain ⟨d, hd, rv⟩ := r.getV (y vs (Same.seq (e.trans a.fh) h))
      exact ⟨T, _, d, _, x, rfl, hT, rfl, rfl, hd, .int _, rv.mono e⟩)
theorem ji_enumL {kk : Nat} {tpos : Pos} (hm : X.mg "enumerate" = none) (h : JA X B [e] ρ M fun ds M1 => ∃ xs, ds = [.lst xs] ∧ Qi (enumD xs) (fun _ => True) M1) (hg : Gl X "enumerate" := by rfl) (hs : starEach [e] X.env = [(false, eval e X.env)] := by rfl) :
    JI X B (.Tuple tgs kk tpos) (.Call (.Name "enumerate" p2) [e] [] pos) ρ M Qi :=
  JI.of (pi_enum hg hm pa_J hs) fun σ H F at_ R k => ⟨F, ρ, M, _, at_, h, fun vs H' F' ds M' e a' dv q => by
    obtain ⟨xs, rfl, q⟩ := q
    obtain ⟨v, rfl, rv⟩ := dv.one
    cases rv with
    | lst h1 h2 => exact ⟨_, _, rfl, Same.seq a'.fh (.inl h1), k _ _ _ _ _ _ e a' (dw_enumL (.inl h1) h2) q⟩⟩
/-- zip of two lists, of two tuples -/
theorem ji_zip {kk : Nat} {tpos : Pos} (hm : X.mg "zip" = none) (h : JA X B [a, b] ρ M fun ds M1 => ∃ xs ys, (ds = [.lst xs, .lst ys] ∨ ds = [.tup xs, .tup ys]) ∧ Qi (zipD xs ys) (fun _ => True) M1) (hg : Gl X "zip" := by rfl)
    (hs : starEach [a, b] X.env = (false, eval a X.env) :: starEach [b] X.env := by exact se_cons rfl) (hpl : (backTo pos (starEach [b] X.env)).any (·.1) = false := by exact se_any rfl) : JI X B (.Tuple tgs kk tpos) (.Call (.Name "zip" p2) [a, b] [] pos) ρ M Qi :=
  JI.of (RZ.pi_zipA hg hm pa_J hs hpl) fun σ H F at_ R k => ⟨F, ρ, M, _, at_, h, fun vs H' F' ds M' e a' dv q => by
    obtain ⟨xs, ys, hx, q⟩ := q
    rcases hx with rfl | rfl
    · obtain ⟨v, w, rfl, rv, rw'⟩ := dv.two
      cases rv with
      | lst h1 h2 =>
        rename_i p1 v1
        cases rw' with
        | lst g1 g2 =>
          rename_i p2 v2
          replace h1 : SqL X.K F' p1 v1 := .inl h1
          replace g1 : SqL X.K F' p2 v2 := .inl g1
          refine ⟨_, _, _, _, rfl, .inl ⟨Same.seq a'.fh h1, Same.seq a'.fh g1, k _ _ _ _ _ _ e a' (dw_pair (f := fun i => xs[i]?) (g := fun i => ys[i]?) (zipD_length xs ys) (fun i x y _ hx hy => zipD_get hx hy) (fun B ρ M F' σ H i hi a e _ => ?_) (fun B ρ M F' σ H a e _ => ?_) (fun B ρ M F' σ H i v H' hi a e _ y => ?_)) q⟩⟩
          · have i1 : i < v1.length := by rw [h2.length]; omega
            have i2 : i < v2.length := by rw [g2.length]; omega
            exact ⟨v1, v2, v1[i], v2[i], Same.seq (e.trans a.fh) h1, Same.seq (e.trans a.fh) g1, by simp [i1], by simp [i2]⟩
          · exact ⟨v1, v2, Same.seq (e.trans a.fh) h1, Same.seq (e.trans a.fh) g1, by rw [h2.length, g2.length]; omega⟩
          · obtain ⟨T, x, y, rfl, hT, rfl, y1, y2⟩ := y
            obtain ⟨d1, hd1, r1⟩ := h2.getV (y1 v1 (Same.seq (e.trans a.fh) h1))
            obtain ⟨d2, hd2, r2⟩ := g2.getV (y2 v2 (Same.seq (e.trans a.fh) g1))
            exact ⟨T, d1, d2, _, _, rfl, hT, rfl, hd1, hd2, r1.mono e, r2.mono e⟩
    · obtain ⟨v, w, rfl, rv, rw'⟩ := dv.two
      cases rv with
      | tup h1 h2 =>
        rename_i p1 v1
        cases rw' with
        | tup g1 g2 =>
          rename_i p2 v2
          refine ⟨_, _, _, _, rfl, .inr ⟨sqT_mono a'.fh h1, sqT_mono a'.fh g1, k _ _ _ _ _ _ e a' (dw_pair (f := fun i => xs[i]?) (g := fun i => ys[i]?) (zipD_length xs ys) (fun i x y _ hx hy => zipD_get hx hy) (fun B ρ M F' σ H i hi a e _ => ?_) (fun B ρ M F' σ H a e _ => ?_) (fun B ρ M F' σ H i v H' hi a e _ y => ?_)) q⟩⟩
          · have i1 : i < v1.length := by rw [h2.length]; omega
            have i2 : i < v2.length := by rw [g2.length]; omega
            exact ⟨v1, v2, v1[i], v2[i], sqT_mono (e.trans a.fh) h1, sqT_mono (e.trans a.fh) g1, by simp [i1], by simp [i2]⟩
          · exact ⟨v1, v2, sqT_mono (e.trans a.fh) h1, sqT_mono (e.trans a.fh) g1, by rw [h2.length, g2.length]; omega⟩
          · obtain ⟨T, x, y, rfl, hT, rfl, y1, y2⟩ := y
            obtain ⟨d1, hd1, r1⟩ := h2.getV (y1 v1 (sqT_mono (e.trans a.fh) h1))
            obtain ⟨d2, hd2, r2⟩ := g2.getV (y2 v2 (sqT_mono (e.trans a.fh) g1))
            exact ⟨T, d1, d2, _, _, rfl, hT, rfl, hd1, hd2, r1.mono e, r2.mono e⟩⟩

/-! ### for -/
theorem js_for (hp : PassesOwn (model X.prog X.w) X.A X.env X.xe) (hc : X.calm = true)
    (h : JI X B tg it ρ M fun items Ok M1 => ∃ (ix : List Nat) (W : Nat → Ev → Mem → Prop), W 0 ρ M1 ∧ (∀ i ρ' M', W i ρ' M' → Ok M') ∧
      (∀ i d ρ' M', items[i]? = some d → W i ρ' M' → JG X B tg ix d ρ' M' fun ρ2 M2 => JSs X B body ρ2 M2 { nx := W (i + 1), ct := W (i + 1), bk := P.nx, rt := P.rt }) ∧ (∀ ρ' M', W items.length ρ' M' → P.nx ρ' M'))
    (hs : ∀ x, foldedSetIterable it X.env x = pure x := by intro _; rfl) : JS X B (.For tg it body [] pos) ρ M P :=
  JS.of (ps_for hp hc pi_J (pg_J (B := B)) pss_J hs) fun σ H F at_ E k => ⟨F, ρ, M, _, at_, h, fun J H1 F1 M1 items Ok e1 a1 dw q => by
    obtain ⟨ix, W, w0, wok, turn, done⟩ := q
    refine ⟨fun i m σ' H' => m = items.length - i ∧ i ≤ items.length ∧ ∃ F' ρ' M', Same F1 F' ∧ At X.K B ρ' M' F' σ' H' ∧ W i ρ' M', ⟨_, rfl, Nat.zero_le _, F1, ρ, M1, Same.refl _, a1, w0⟩, ?_⟩
    rintro i m σ' H' ⟨rfl, hi, F', ρ', M', e', a', w'⟩
    by_cases hlt : i < items.length
    · refine .inr ⟨dw.go _ _ _ _ _ _ i hlt a' e' (wok _ _ _ w'), fun σ2 H2 => ∃ F2 ρ2 M2, Same F1 F2 ∧ At X.K B ρ2 M2 F2 σ2 H2 ∧ W (i + 1) ρ2 M2, fun σ2 H2 ⟨F2, ρ2, M2, e2, a2, w2⟩ => ⟨_, by omega, rfl, hlt, F2, ρ2, M2, e2, a2, w2⟩, fun x H2 y => ?_⟩
      obtain ⟨F2, d, e2, a2, hd, rd⟩ := dw.yld _ _ _ _ _ _ i x H2 hlt a' e' (wok _ _ _ w') y
      refine ⟨F2, ρ', M', d, ix, _, a2, rd, turn i d ρ' M' hd w', fun σ3 H3 F3 ρ3 M3 e3 a3 w3 q3 => ?_⟩
      have e13 := (e'.trans e2).trans e3
      exact ⟨F3, ρ3, M3, _, a3, q3, ⟨fun σ4 H4 F4 ρ4 M4 e4 a4 q4 => ⟨F4, ρ4, M4, e13.trans e4, a4, q4⟩, fun σ4 H4 F4 ρ4 M4 e4 a4 q4 => k.nx _ _ _ _ _ ((e1.trans e13).trans e4) a4 q4,
        fun σ4 H4 F4 ρ4 M4 e4 a4 q4 => ⟨F4, ρ4, M4, e13.trans e4, a4, q4⟩, fun _ _ _ _ _ _ _ e4 => k.rt _ _ _ _ _ _ _ ((e1.trans e13).trans e4)⟩⟩
    · have e : i = items.length := by omega
      subst e
      exact .inl ⟨dw.stop _ _ _ _ _ _ a' e' (wok _ _ _ w'), k.nx _ _ _ _ _ (e1.trans e') a' (done _ _ w')⟩⟩
end
end J
namespace J
open PySem PySem.Spec PyProof.Rows L2

/-! ### comprehensions -/
def wipeE (ρ : Ev) : List Nat → Ev
  | [] => ρ
  | v :: vs => (wipeE ρ vs).set v none
theorem wipeE_length (ρ : Ev) : ∀ vs : List Nat, (wipeE ρ vs).length = ρ.length
  | [] => rfl
  | v :: vs => by unfold wipeE; rw [List.length_set, wipeE_length ρ vs]
theorem wipeE_some {ρ : Ev} {i : Nat} {x : D} : ∀ {vs : List Nat}, (wipeE ρ vs)[i]? = some (some x) → ρ[i]? = some (some x) ∧ i ∉ vs
  | [], h => ⟨h, by simp⟩
  | v :: vs, h => by
    unfold wipeE at h
    by_cases hi : v = i
    · subst hi
      by_cases hv : v < (wipeE ρ vs).length
      · rw [List.getElem?_set_self hv] at h; cases h
      · rw [List.getElem?_eq_none (by simpa using hv)] at h; cases h
    · rw [List.getElem?_set_ne hi] at h
      obtain ⟨h1, h2⟩ := wipeE_some h
      exact ⟨h1, by simp only [List.mem_cons, not_or]; exact ⟨fun e => hi e.symm, h2⟩⟩
theorem wipe_in {σ : L2.St} {i : Nat} (hl : i < σ.length) : ∀ {vs : List Nat}, i ∈ vs → (wipe σ vs)[i]? = some none
  | [], h => by cases h
  | v :: vs, h => by
    unfold wipe
    by_cases hv : v = i
    · subst hv
      rw [List.getElem?_set_self (by rw [wipe_length]; exact hl)]
    · rw [List.getElem?_set_ne hv]
      rcases List.mem_cons.mp h with h | h
      · exact absurd h.symm hv
      · exact wipe_in hl h
theorem wipe_wipe (σ : L2.St) (vs : List Nat) : wipe (wipe σ vs) vs = wipe σ vs := by
  apply List.ext_getElem?
  intro i
  by_cases hl : i < σ.length
  · by_cases hi : i ∈ vs
    · rw [wipe_in (by rw [wipe_length]; exact hl) hi, wipe_in hl hi]
    · rw [wipe_out hi]
  · rw [List.getElem?_eq_none (by rw [wipe_length, wipe_length]; omega), List.getElem?_eq_none (by rw [wipe_length]; omega)]
section
variable {K : PySem.W.Frag} {B : Bs} {ρ ρ' : Ev} {M M' : Mem} {F F' H H' : Hp} {σ σ' : L2.St}
theorem At.wipe (a : At K B ρ M F σ H) (vs : List Nat) : At K B (wipeE ρ vs) M F (L2.wipe σ vs) H :=
  ⟨a.ff, a.fh, a.fr, a.kh, a.th, ⟨by rw [wipe_length, wipeE_length]; exact a.sl.1, fun i d e => by
    obtain ⟨e1, e2⟩ := wipeE_some e
    obtain ⟨v, h1, h2⟩ := a.sl.2 i d e1
    exact ⟨v, by rw [wipe_out e2]; exact h1, h2⟩⟩, a.ow, a.nw⟩
/-- other slots, whose data stand -/
theorem At.reslot (a : At K B ρ M F σ H) {F0 : Hp} (e : Same F0 F) (h : σ'.length = ρ'.length ∧ ∀ (i : Nat) (d : D), ρ'[i]? = some (some d) → ∃ v, σ'[i]? = some (some v) ∧ Dv K F0 v d) : At K B ρ' M F σ' H :=
  ⟨a.ff, a.fh, a.fr, a.kh, a.th, ⟨h.1, fun i d q => let ⟨v, h1, h2⟩ := h.2 i d q; ⟨v, h1, h2.mono e⟩⟩, a.ow, a.nw⟩
/-- seen from here on alone -/
theorem At.here (a : At K B ρ M F σ H) : At K ⟨F, H, M.map (·.1)⟩ ρ M F σ H :=
  ⟨Same.refl _, a.fh, fun _ h _ _ => h, fun _ _ _ h => h, fun _ h => h, a.sl, a.ow, fun c hc => .inl (List.mem_map_of_mem hc)⟩
theorem At.back {ρ0 : Ev} {σ0 : L2.St} {M0 : Mem} {F0 H0 : Hp} (a0 : At K B ρ0 M0 F0 σ0 H0) (a : At K ⟨F0, H0, M0.map (·.1)⟩ ρ M F σ H) : At K B ρ M F σ H := by
  have nin : ∀ b, b ∉ B.own → (B.H b).isSome = true → b ∉ M0.map (·.1) := fun b h1 h2 hm => by
    obtain ⟨c, hc, rfl⟩ := List.mem_map.mp hm
    rcases a0.nw c hc with z | z
    · exact h1 z
    · rw [z] at h2; cases h2
  refine ⟨a0.ff.trans a.ff, a.fh, fun b h1 h2 h3 => ?_, fun b o h1 e => ?_, fun b e => a0.th b (a.th b e), a.sl, a.ow, fun c hc => ?_⟩
  · refine a.fr b (a0.fr b h1 h2 h3) ?_ (nin b h3 h2)
    obtain ⟨o, ho⟩ := Option.isSome_iff_exists.mp h2
    show (H0 b).isSome = true
    rw [a0.kh b o h3 ho]; rfl
  · exact a.kh b o (nin b h1 (by rw [e]; rfl)) (a0.kh b o h1 e)
  · rcases a.nw c hc with z | z
    · obtain ⟨c0, hc0, e0⟩ := List.mem_map.mp z
      rw [← e0]
      exact a0.nw c0 hc0
    · exact .inr (a0.th _ z)
/-- an object that nobody knows of -/
structure Out (B : Bs) (M : Mem) (F : Hp) (p : Addr) : Prop where
  f : F p = none
  m : ∀ c ∈ M, c.1 ≠ p
  b : B.H p = none
theorem At.outNew (a : At K B ρ M F σ H) {p : Addr} (h : H p = none) : Out B M F p := ⟨a.fresh h, a.notM h, a.th _ h⟩
theorem At.outUpd (a : At K B ρ M F σ H) {p : Addr} (x : Out B M F p) (o : HO) : At K B ρ M F σ (upd H p o) := by
  refine ⟨a.ff, fun b u e => ?_, a.fr, fun b u h1 e => ?_, fun b e => ?_, a.sl, ⟨a.ow.nd, fun c hc => ?_⟩, a.nw⟩
  · rw [upd_ne (ne_of_none e x.f)]; exact a.fh _ _ e
  · rw [upd_ne (ne_of_none e x.b)]; exact a.kh b u h1 e
  · by_cases q : b = p
    · subst q; rw [upd_same] at e; cases e
    · rw [upd_ne q] at e; exact a.th _ e
  · obtain ⟨h1, h2⟩ := a.ow.ok c hc
    exact ⟨h1, h2.mono (Same.refl _) fun u e => by rw [upd_ne (x.m c hc)]; exact e⟩
theorem At.outKeep (a0 : At K B ρ M F σ H) {p : Addr} (x : Out B M F p) (hp : (H p).isSome = true) (a : At K ⟨F, H, M.map (·.1)⟩ ρ' M' F' σ' H') : Out B M' F' p ∧ H' p = H p := by
  have nm : p ∉ M.map (·.1) := fun hm => by
    obtain ⟨c, hc, e⟩ := List.mem_map.mp hm
    exact x.m c hc e
  obtain ⟨o, ho⟩ := Option.isSome_iff_exists.mp hp
  refine ⟨⟨a.fr p x.f hp nm, fun c hc e => ?_, x.b⟩, by rw [ho]; exact a.kh p o nm ho⟩
  rcases a.nw c hc with z | z
  · rw [e] at z; exact nm z
  · rw [e] at z
    have z : H p = none := z
    rw [z] at hp; cases hp
theorem At.adopt (a : At K B ρ M F σ H) {p : Addr} (x : Out B M F p) {vs : List V} {ds : List D} (hp : H p = some (.lst vs)) (r : DvL K F vs ds) : ∃ F', Same F F' ∧ At K B ρ M F' σ H ∧ Dv K F' (.ref p) (.lst ds) := by
  have sF : Same F (upd F p (.lst vs)) := fun b u e => by rw [upd_ne (ne_of_none e x.f)]; exact e
  refine ⟨_, sF, ⟨a.ff.trans sF, fun b u e => ?_, fun b h1 h2 h3 => ?_, a.kh, a.th, ⟨a.sl.1, fun i d e => ?_⟩, ⟨a.ow.nd, fun c hc => ?_⟩, a.nw⟩, .lst (.inl upd_same) (r.mono sF)⟩
  · by_cases q : b = p
    · subst q; rw [upd_same] at e; rw [hp]; exact e
    · rw [upd_ne q] at e; exact a.fh _ _ e
  · have q : b ≠ p := fun q => by subst q; rw [x.b] at h2; cases h2
    rw [upd_ne q]; exact a.fr b h1 h2 h3
  · obtain ⟨v, e1, e2⟩ := a.sl.2 i d e
    exact ⟨v, e1, e2.mono sF⟩
  · obtain ⟨g1, g2⟩ := a.ow.ok c hc
    exact ⟨by rw [upd_ne (x.m c hc)]; exact g1, g2.mono sF fun u e => e⟩
theorem At.adoptO (a : At K B ρ M F σ H) {p : Addr} (x : Out B M F p) {vs : List V} {ds : List D} (hp : H p = some (.lst vs)) (r : DvL K F vs ds) : At K B ρ (M ++ [(p, .lst ds)]) F σ H := by
  refine ⟨a.ff, a.fh, a.fr, a.kh, a.th, a.sl, ⟨?_, fun c hc => ?_⟩, fun c hc => ?_⟩
  · rw [List.map_append, List.nodup_append]
    refine ⟨a.ow.nd, by simp, fun y hy z hz e => ?_⟩
    have hz : z = p := by simpa using hz
    obtain ⟨c, hc, rfl⟩ := List.mem_map.mp hy
    exact x.m c hc (e.trans hz)
  · rcases List.mem_append.mp hc with hc | hc
    · exact a.ow.ok c hc
    · have e : c = _ := List.mem_singleton.mp hc
      subst e
      exact ⟨x.f, vs, hp, r⟩
  · rcases List.mem_append.mp hc with hc | hc
    · exact a.nw c hc
    · have e : c = _ := List.mem_singleton.mp hc
      subst e
      exact .inr x.b
end
abbrev bk (X : Cx) (scope : Scope) (s : Shared) (H : Hp) (C : Addr) (cl : List (Str × Addr)) (fp : List Addr) : Cx := X.blk s H scope (compEnvC scope cl C X.env) fp
def tJb (X : Cx) (scope : Scope) (e : Expr) : TE := fun σ H Qh => ∃ B F ρ M Q, At X.K B ρ M F σ H ∧ (∀ s H C cl fp, JE (bk X scope s H C cl fp) B e ρ M Q) ∧ KE X.K B ρ σ F Q Qh
def tJTb (X : Cx) (scope : Scope) (e : Expr) : TT := fun σ H Qh => ∃ B F ρ M Q, At X.K B ρ M F σ H ∧ (∀ s H C cl fp, JT (bk X scope s H C cl fp) B e ρ M Q) ∧ KT X.K B ρ σ F Q Qh
def tJGb (X : Cx) (scope : Scope) (tg : Expr) : TG := fun v σ H Qh => ∃ B F ρ M d ix Q, At X.K B ρ M F σ H ∧ Dv X.K F v d ∧ (∀ s H C cl fp, JG (bk X scope s H C cl fp) B tg ix d ρ M Q) ∧ KG X.K B ix σ F Q Qh
section
variable {X : Cx} {B : Bs} {tg e c it a b elt : Expr} {tgs es ifs : List Expr} {st : Stmt} {sts body : List Stmt} {ix : List Nat} {d : D} {ds : List D} {ρ : Ev} {M : Mem} {pos p2 p3 : Pos} {Qi : List D → (Mem → Prop) → Mem → Prop} {Q : D → Mem → Prop} {P : Po} {scope : Scope} {own : List (Str × Nat)}
theorem pe_Jb (s : Shared) (H : Hp) (C : Addr) (cl : List (Str × Addr)) (fp : List Addr) : PE (bk X scope s H C cl fp) e (tJb X scope e) := ⟨fun pins s1 σ H1 Qh I ⟨B, F, ρ, M, Q, a, h, k⟩ =>
  thn ((h s H C cl fp).run pins s1 σ H1 F I a) fun u s' ⟨v, H', F', d, M', I', rv, e, a', dv, q⟩ => ⟨v, H', I', rv, k v H' F' d M' e a' dv q⟩⟩
theorem pt_Jb (s : Shared) (H : Hp) (C : Addr) (cl : List (Str × Addr)) (fp : List Addr) : PT (bk X scope s H C cl fp) e (tJTb X scope e) := ⟨fun pins s1 σ H1 Qh I ⟨B, F, ρ, M, Q, a, h, k⟩ =>
  thn ((h s H C cl fp).run pins s1 σ H1 F I a) fun b s' ⟨H', F', M', I', e, a', q⟩ => ⟨H', I', k b H' F' M' e a' q⟩⟩
theorem pg_Jb (s : Shared) (H : Hp) (C : Addr) (cl : List (Str × Addr)) (fp : List Addr) : PG (bk X scope s H C cl fp) tg (tJGb X scope tg) := ⟨fun pins s1 σ H1 v u Qh I r ⟨B, F, ρ, M, d, ix, Q, a, dv, h, k⟩ =>
  thn ((h s H C cl fp).run pins s1 σ H1 F v u I a r dv) fun _ s' ⟨σ', H', F', ρ', M', I', e, a', w, q⟩ => ⟨σ', H', I', k _ _ _ _ _ e a' w q⟩⟩
/-- the turns of a comprehension: W by the turn, the list so far, the memory; a test that keeps the item or not -/
def LcT (X : Cx) (scope : Scope) (vs : List Nat) (tg elt : Expr) (T : Bs → Ev → Mem → (Bool → Mem → Prop) → Prop) (ρ : Ev) (items : List D) (Ok : Mem → Prop) (M1 : Mem) (Q : List D → Mem → Prop) : Prop :=
  ∃ (ix : List Nat) (W : Nat → List D → Mem → Prop), (∀ j ∈ ix, j ∈ vs) ∧ W 0 [] M1 ∧ (∀ i acc M', W i acc M' → Ok M') ∧
    (∀ i d acc M', items[i]? = some d → W i acc M' → ∀ B s H C cl fp, JG (bk X scope s H C cl fp) B tg ix d (wipeE ρ vs) M' fun ρ2 M2 => ∀ B2, T B2 ρ2 M2 fun k M3 =>
      (k = true → ∀ B3 s H C cl fp, JE (bk X scope s H C cl fp) B3 elt ρ2 M3 fun y M4 => acc.length < sizeLine ∧ W (i + 1) (acc ++ [y]) M4) ∧ (k = false → W (i + 1) acc M3)) ∧
    (∀ acc M', W items.length acc M' → Q acc M')
/-- what stands at a turn's begin -/
structure LcI (K : PySem.W.Frag) (B : Bs) (ρ : Ev) (σ : L2.St) (vs : List Nat) (F1 : Hp) (Dl : Addr) (W : List D → Mem → Prop) (H : Hp) (F : Hp) (M : Mem) (acc : List D) (ws : List V) : Prop where
  e : Same F1 F
  a : At K B (wipeE ρ vs) M F (wipe σ vs) H
  o : Out B M F Dl
  l : H Dl = some (.lst ws)
  r : DvL K F ws acc
  w : W acc M
theorem tJTb_yes : (fun (_ : L2.St) (H : Hp) (Qh : Bool → Hp → Prop) => Qh true H) = tYes := rfl
theorem lc_read {σ : L2.St} {F1 H1 : Hp} {M1 : Mem} {J : It} {items : List D} {Ok : Mem → Prop} {Ql : List D → Mem → Prop} {tt : TT} {T : Bs → Ev → Mem → (Bool → Mem → Prop) → Prop} {Qh : VK}
    (hT : ∀ B2 ρ2 M2 F2 σ2 H2 (T1 : Bool → Mem → Prop) (Kh : Bool → Hp → Prop), At X.K B2 ρ2 M2 F2 σ2 H2 → T B2 ρ2 M2 T1 → KT X.K B2 ρ2 σ2 F2 T1 Kh → tt σ2 H2 Kh)
    (a1 : At X.K B ρ M1 F1 σ H1) (dw : DWalk X.K J F1 Ok items) (h : LcT X scope (own.map (·.2)) tg elt T ρ items Ok M1 Ql)
    (k : ∀ Dl H' F' M' acc ws, Same F1 F' → At X.K B ρ M' F' σ H' → Out B M' F' Dl → H' Dl = some (.lst ws) → DvL X.K F' ws acc → Ql acc M' → Qh (.ref Dl) H') :
    ∀ Dl, H1 Dl = none → ∃ W : Nat → Nat → Hp → Prop, (∃ m, W 0 m (upd H1 Dl (.lst []))) ∧ ∀ i m H, W i m H →
      (J.stop i H ∧ Qh (.ref Dl) H) ∨ (J.go i H ∧ ∃ Nx : Hp → Prop, (∀ H', Nx H' → ∃ m', m' < m ∧ W (i + 1) m' H') ∧ ∀ x H', J.yld i H x H' → tJGb X scope tg x (wipe σ (own.map (·.2))) H' fun σ2 H2 => wipe σ2 (own.map (·.2)) = wipe σ (own.map (·.2)) ∧ tt σ2 H2 fun b H3 =>
        if b = true then tJb X scope elt σ2 H3 fun y H4 => ∃ acc, H4 Dl = some (.lst acc) ∧ acc.length < sizeLine ∧ Nx (upd H4 Dl (.lst (acc ++ [y]))) else Nx H3) := by
  obtain ⟨ix, W, hix, w0, wok, turn, done⟩ := h
  generalize hvs : own.map (·.2) = vs at hix turn ⊢
  intro Dl hDl
  have sl0 := (a1.wipe vs).sl
  refine ⟨fun i m H => m = items.length - i ∧ i ≤ items.length ∧ ∃ F' M' acc ws, LcI X.K B ρ σ vs F1 Dl (W i) H F' M' acc ws, ⟨_, rfl, Nat.zero_le _, F1, M1, [], [], Same.refl _, (a1.wipe vs).outUpd (a1.outNew hDl) _, a1.outNew hDl, upd_same, .nil, w0⟩, ?_⟩
  rintro i m H ⟨rfl, hi, F', M', acc, ws, L⟩
  by_cases hlt : i < items.length
  · refine .inr ⟨dw.go _ _ _ _ _ _ i hlt L.a L.e (wok _ _ _ L.w), fun H2 => ∃ F' M' acc ws, LcI X.K B ρ σ vs F1 Dl (W (i + 1)) H2 F' M' acc ws, fun H2 z => ⟨_, by omega, rfl, hlt, z⟩, fun x H2 y => ?_⟩
    -- the turn's item, seen from here
    have LD : (H Dl).isSome = true := by rw [L.l]; rfl
    obtain ⟨F2, d, e2, a2, hd, rd⟩ := dw.yld _ _ _ _ _ _ i x H2 hlt L.a.here L.e (wok _ _ _ L.w) y
    obtain ⟨o2, k2⟩ := L.a.outKeep L.o LD a2
    have b2 := L.a.back a2
    have LD2 : (H2 Dl).isSome = true := by rw [k2]; exact LD
    refine ⟨_, F2, _, M', d, ix, _, b2.here, rd, fun s H C cl fp => turn i d acc M' hd L.w ⟨F2, H2, M'.map (·.1)⟩ s H C cl fp, fun σ3 H3 F3 ρ3 M3 e3 a3 w3 q3 => ?_⟩
    have hw3 : wipe σ3 vs = wipe σ vs := (w3 vs hix).trans (wipe_wipe σ vs)
    refine ⟨hw3, ?_⟩
    obtain ⟨o3, k3⟩ := b2.outKeep o2 LD2 a3
    have b3 := b2.back a3
    have LD3 : (H3 Dl).isSome = true := by rw [k3]; exact LD2
    refine hT _ _ _ _ _ _ _ _ b3.here (q3 ⟨F3, H3, M3.map (·.1)⟩) fun bb H4 F4 M4 e4 a4 q4 => ?_
    obtain ⟨o4, k4⟩ := b3.outKeep o3 LD3 a4
    have b4 := b3.back a4
    have LD4 : (H4 Dl).isSome = true := by rw [k4]; exact LD3
    have kk4 : H4 Dl = some (.lst ws) := by rw [k4, k3, k2]; exact L.l
    have e14 : Same F1 F4 := ((L.e.trans e2).trans e3).trans e4
    cases bb with
    | true =>
      rw [if_pos rfl]
      refine ⟨_, F4, ρ3, M4, _, b4.here, q4.1 rfl ⟨F4, H4, M4.map (·.1)⟩, fun v H5 F5 dy M5 e5 a5 r5 q5 => ?_⟩
      obtain ⟨o5, k5⟩ := b4.outKeep o4 LD4 a5
      have b5 := b4.back a5
      obtain ⟨hz, hw⟩ := q5
      have e45 : Same F' F5 := ((e2.trans e3).trans e4).trans e5
      refine ⟨ws, by rw [k5]; exact kk4, by rw [L.r.length]; exact hz, F5, M5, acc ++ [dy], ws ++ [v], e14.trans e5, (b5.reslot (e14.trans e5) ⟨sl0.1, sl0.2⟩).outUpd o5 _, o5, upd_same, (L.r.mono e45).append (.cons r5 .nil), hw⟩
    | false =>
      rw [if_neg Bool.false_ne_true]
      exact ⟨F4, M4, acc, ws, e14, b4.reslot e14 ⟨sl0.1, sl0.2⟩, o4, kk4, L.r.mono ((e2.trans e3).trans e4), q4.2 rfl⟩
  · have e : i = items.length := by omega
    subst e
    exact .inl ⟨dw.stop _ _ _ _ _ _ L.a L.e (wok _ _ _ L.w), k Dl H F' M' acc ws L.e (L.a.reslot L.e ⟨a1.sl.1, a1.sl.2⟩) L.o L.l L.r (done _ _ L.w)⟩
abbrev TNo : Bs → Ev → Mem → (Bool → Mem → Prop) → Prop := fun _ _ M2 T1 => T1 true M2
abbrev TOne (X : Cx) (scope : Scope) (c : Expr) : Bs → Ev → Mem → (Bool → Mem → Prop) → Prop := fun B2 ρ2 M2 T1 => ∀ s H C cl fp, JT (bk X scope s H C cl fp) B2 c ρ2 M2 T1
theorem hT_no : ∀ B2 ρ2 M2 F2 σ2 H2 (T1 : Bool → Mem → Prop) (Kh : Bool → Hp → Prop), At X.K B2 ρ2 M2 F2 σ2 H2 → TNo B2 ρ2 M2 T1 → KT X.K B2 ρ2 σ2 F2 T1 Kh → tYes σ2 H2 Kh :=
  fun B2 ρ2 M2 F2 σ2 H2 T1 Kh a h k => k true H2 F2 M2 (Same.refl _) a h
theorem hT_one : ∀ B2 ρ2 M2 F2 σ2 H2 (T1 : Bool → Mem → Prop) (Kh : Bool → Hp → Prop), At X.K B2 ρ2 M2 F2 σ2 H2 → TOne X scope c B2 ρ2 M2 T1 → KT X.K B2 ρ2 σ2 F2 T1 Kh → tJTb X scope c σ2 H2 Kh :=
  fun B2 ρ2 M2 F2 σ2 H2 T1 Kh a h k => ⟨B2, F2, ρ2, M2, T1, a, h, k⟩
/-- [elt for tg in it], as data -/
theorem je_lc (own : List (Str × Nat)) (hc : X.calm = true) (hN : X.N.Nodup) (ok : BlkOk X.N X.env.scope scope own) (h : JI X B tg it ρ M fun items Ok M1 => LcT X scope (own.map (·.2)) tg elt TNo ρ items Ok M1 fun acc M' => Q (.lst acc) M')
    (hs : ∀ x, foldedSetIterable it X.env x = pure x := by intro _; rfl) : JE X B (.ListComp elt [⟨tg, it, [], 0⟩] scope pos) ρ M Q :=
  JE.of (pe_lc hc hN pi_J ok pg_Jb (fun _ _ _ _ _ => pts_nil) pe_Jb hs) fun σ H F at_ Qh k => ⟨F, ρ, M, _, at_, h, fun J H1 F1 M1 items Ok e1 a1 dw q =>
    lc_read hT_no a1 dw q fun Dl H' F' M' acc ws e' a' o l r q' => by
      obtain ⟨F2, e2, a2, dv⟩ := a'.adopt o l r
      exact k _ _ _ _ _ ((e1.trans e').trans e2) a2 dv q'⟩
/-- .. with one test -/
theorem je_lcIf (own : List (Str × Nat)) (hc : X.calm = true) (hN : X.N.Nodup) (ok : BlkOk X.N X.env.scope scope own) (h : JI X B tg it ρ M fun items Ok M1 => LcT X scope (own.map (·.2)) tg elt (TOne X scope c) ρ items Ok M1 fun acc M' => Q (.lst acc) M')
    (hs : ∀ x, foldedSetIterable it X.env x = pure x := by intro _; rfl) : JE X B (.ListComp elt [⟨tg, it, [c], 0⟩] scope pos) ρ M Q :=
  JE.of (pe_lc hc hN pi_J ok pg_Jb (fun s H C cl fp => pts_one (pt_Jb s H C cl fp)) pe_Jb hs) fun σ H F at_ Qh k => ⟨F, ρ, M, _, at_, h, fun J H1 F1 M1 items Ok e1 a1 dw q =>
    lc_read hT_one a1 dw q fun Dl H' F' M' acc ws e' a' o l r q' => by
      obtain ⟨F2, e2, a2, dv⟩ := a'.adopt o l r
      exact k _ _ _ _ _ ((e1.trans e').trans e2) a2 dv q'⟩
/-- .. as a list of one's own -/
theorem je_lcO (own : List (Str × Nat)) (hc : X.calm = true) (hN : X.N.Nodup) (ok : BlkOk X.N X.env.scope scope own) (h : JI X B tg it ρ M fun items Ok M1 => LcT X scope (own.map (·.2)) tg elt TNo ρ items Ok M1 fun acc M' => ∀ p, Q (.ref p) (M' ++ [(p, .lst acc)]))
    (hs : ∀ x, foldedSetIterable it X.env x = pure x := by intro _; rfl) : JE X B (.ListComp elt [⟨tg, it, [], 0⟩] scope pos) ρ M Q :=
  JE.of (pe_lc hc hN pi_J ok pg_Jb (fun _ _ _ _ _ => pts_nil) pe_Jb hs) fun σ H F at_ Qh k => ⟨F, ρ, M, _, at_, h, fun J H1 F1 M1 items Ok e1 a1 dw q =>
    lc_read hT_no a1 dw q fun Dl H' F' M' acc ws e' a' o l r q' => k _ _ _ _ _ (e1.trans e') (a'.adoptO o l r) (.ref _) (q' Dl)⟩
/-- y = [elt for tg in it] on one line -/
theorem js_setLc (i : Nat) (own : List (Str × Nat)) {y : Str} {py spos : Pos} (hc : X.calm = true) (hN : X.N.Nodup) (ok : BlkOk X.N X.env.scope scope own) (hsw : swapsWith (.ListComp elt [⟨tg, it, [], 0⟩] scope pos) (some (.Name y py)) spos.line X.env = pure true)
    (h : JI X B tg it ρ M fun items Ok M1 => LcT X scope (own.map (·.2)) tg elt TNo ρ items Ok M1 fun acc M' => P.nx (ρ.set i (some (.lst acc))) M')
    (hy : X.N[i]? = some y := by rfl) (hyl : X.env.scope.names.lookup y = some .local := by rfl) (hs : ∀ x, foldedSetIterable it X.env x = pure x := by intro _; rfl) : JS X B (.Assign [.Name y py] (.ListComp elt [⟨tg, it, [], 0⟩] scope pos) spos) ρ M P :=
  JS.of (ps_setLc hc hN hy hyl hsw pi_J ok pg_Jb (fun _ _ _ _ _ => pts_nil) pe_Jb hs) fun σ H F at_ E k => ⟨F, ρ, M, _, at_, h, fun J H1 F1 M1 items Ok e1 a1 dw q =>
    lc_read (Qh := fun x H1 => E.nx (σ.set i (some x)) H1) hT_no a1 dw q fun Dl H' F' M' acc ws e' a' o l r q' => by
      obtain ⟨F2, e2, a2, dv⟩ := a'.adopt o l r
      exact k.nx _ _ _ _ _ ((e1.trans e').trans e2) (a2.set i dv) q'⟩
theorem js_setLcIf (i : Nat) (own : List (Str × Nat)) {y : Str} {py spos : Pos} (hc : X.calm = true) (hN : X.N.Nodup) (ok : BlkOk X.N X.env.scope scope own) (hsw : swapsWith (.ListComp elt [⟨tg, it, [c], 0⟩] scope pos) (some (.Name y py)) spos.line X.env = pure true)
    (h : JI X B tg it ρ M fun items Ok M1 => LcT X scope (own.map (·.2)) tg elt (TOne X scope c) ρ items Ok M1 fun acc M' => P.nx (ρ.set i (some (.lst acc))) M')
    (hy : X.N[i]? = some y := by rfl) (hyl : X.env.scope.names.lookup y = some .local := by rfl) (hs : ∀ x, foldedSetIterable it X.env x = pure x := by intro _; rfl) : JS X B (.Assign [.Name y py] (.ListComp elt [⟨tg, it, [c], 0⟩] scope pos) spos) ρ M P :=
  JS.of (ps_setLc hc hN hy hyl hsw pi_J ok pg_Jb (fun s H C cl fp => pts_one (pt_Jb s H C cl fp)) pe_Jb hs) fun σ H F at_ E k => ⟨F, ρ, M, _, at_, h, fun J H1 F1 M1 items Ok e1 a1 dw q =>
    lc_read (Qh := fun x H1 => E.nx (σ.set i (some x)) H1) hT_one a1 dw q fun Dl H' F' M' acc ws e' a' o l r q' => by
      obtain ⟨F2, e2, a2, dv⟩ := a'.adopt o l r
      exact k.nx _ _ _ _ _ ((e1.trans e').trans e2) (a2.set i dv) q'⟩
/-- the common case: the i-th element is told by ys; nothing of the memory is touched -/
theorem lc_map {vs ix : List Nat} {items : List D} {Ok : Mem → Prop} {M1 : Mem} {Ql : List D → Mem → Prop} (ys : List D) (hix : ∀ j ∈ ix, j ∈ vs) (hOk : Ok M1) (hl : ys.length = items.length) (hz : items.length ≤ sizeLine)
    (turn : ∀ (i : Nat) (d y : D), items[i]? = some d → ys[i]? = some y → ∀ B s H C cl fp, JG (bk X scope s H C cl fp) B tg ix d (wipeE ρ vs) M1 fun ρ2 M2 => ∀ B3 s H C cl fp, JE (bk X scope s H C cl fp) B3 elt ρ2 M2 fun z M4 => z = y ∧ M4 = M1)
    (done : Ql ys M1) : LcT X scope vs tg elt TNo ρ items Ok M1 Ql := by
  refine ⟨ix, fun i acc M' => i ≤ items.length ∧ acc = ys.take i ∧ M' = M1, hix, ⟨Nat.zero_le _, by simp, rfl⟩, fun i acc M' h => h.2.2 ▸ hOk, fun i d acc M' hd h B s H C cl fp => ?_, fun acc M' h => ?_⟩
  · obtain ⟨hi, rfl, rfl⟩ := h
    have hlt := (List.getElem?_eq_some_iff.mp hd).1
    have hy : ys[i]? = some (ys[i]'(by omega)) := List.getElem?_eq_getElem (by omega)
    refine ⟨fun pins s1 σ H1 F v u I a r dv => ?_⟩
    refine thn ((turn i d _ hd hy B s H C cl fp).run pins s1 σ H1 F v u I a r dv) fun _ s' ⟨σ', H', F', ρ', M2, I', e, a', w, q⟩ => ⟨σ', H', F', ρ', M2, I', e, a', w, fun B2 => ⟨fun _ B3 s H C cl fp => (q B3 s H C cl fp).imp fun z M4 hz' => ?_, fun h => nomatch h⟩⟩
    obtain ⟨rfl, rfl⟩ := hz'
    refine ⟨by rw [List.length_take]; omega, hlt, ?_, rfl⟩
    rw [List.take_succ, hy]; rfl
  · obtain ⟨hi, rfl, rfl⟩ := h
    rw [← hl, List.take_length]
    exact done
end
end J
namespace J
open PySem PySem.Spec PyProof.Rows L2

/-! ### what a def promises, by data and cells -/
/-- from the arguments and the cells that are handed over: what is wanted of the result and of the cells behind it -/
abbrev DSp := List D → Mem → (D → Mem → Prop) → Prop
def lift (K : PySem.W.Frag) (sp : DSp) : Sp := fun vs H Qh E => ∃ F ds M Q, Same F H ∧ Owns K F H M ∧ DvL K F vs ds ∧ sp ds M Q ∧
  ∀ v H' F' d M', Same F F' → Same F' H' → (∀ a, F a = none → (H a).isSome = true → a ∉ M.map (·.1) → F' a = none) → (∀ a o, a ∉ M.map (·.1) → H a = some o → H' a = some o) → (∀ a, H' a = none → H a = none) →
    Owns K F' H' M' → (∀ c ∈ M', c.1 ∈ M.map (·.1) ∨ H c.1 = none) → Dv K F' v d → Q d M' → Qh v H'
abbrev bsOf (F H : Hp) (M : Mem) : Bs := ⟨F, H, M.map fun c => c.1⟩
def startE (N : List Str) (ds : List D) : Ev := ds.map some ++ List.replicate (N.length - ds.length) none
section
variable {P : Program} {w : World} {K : PySem.W.Frag} {mg : Str → Option Value} {base : Heap}
theorem at_start {N : List Str} {vs : List V} {ds : List D} {M : Mem} {F H : Hp} (sF : Same F H) (ow : Owns K F H M) (r : DvL K F vs ds) : At K (bsOf F H M) (startE N ds) M F (L2.start N vs) H :=
  ⟨Same.refl _, sF, fun _ h _ _ => h, fun _ _ _ h => h, fun _ h => h, ⟨by simp [L2.start, startE, r.length], fun i d e => by
    unfold startE at e
    unfold L2.start
    by_cases hi : i < ds.length
    · rw [List.getElem?_append_left (by simpa using hi), List.getElem?_map] at e
      cases q : ds[i]? with
      | none => rw [q] at e; cases e
      | some d' =>
        rw [q] at e
        cases e
        obtain ⟨v, h1, h2⟩ := r.get q
        exact ⟨v, by rw [List.getElem?_append_left (by rw [List.length_map, r.length]; exact hi), List.getElem?_map, h1]; rfl, h2⟩
    · rw [List.getElem?_append_right (by simpa using hi), List.getElem?_replicate] at e
      split at e <;> cases e⟩, ow, fun c hc => .inl (List.mem_map_of_mem hc)⟩
/-- a def's promise where nobody's repr is under way -/
structure FnG (P : Program) (w : World) (K : PySem.W.Frag) (mg : Str → Option Value) (base : Heap) (CX : CXT) (k : Nat) (f : Addr) (fd : FuncData) (ps : List Str) (sp : Sp) : Prop where
  len : ∀ vs H Q E, sp vs H Q E → vs.length = ps.length
  go : ∀ (A : Around), Room k A → A.guards = some [] → ∀ (outer : List Env) (s : Shared) (H : Hp) (args : Args) (us : List Value) (vs : List V) (Q : VK) (E : XK), Env0 P w K mg base A outer s H → BindsTo s fd args (ps.zip us) → Vals vs us → sp vs H Q E →
    codeAny (model P w) A (.call (.ref f) args) (CR CX outer P w H s Q E) s
theorem FnG.up {CX : CXT} {j k : Nat} {f : Addr} {fd : FuncData} {ps : List Str} {sp : Sp} (G : FnG P w K mg base CX j f fd ps sp) (h : j ≤ k) : FnG P w K mg base CX k f fd ps sp :=
  ⟨G.len, fun A hr => G.go A (hr.mono h)⟩
theorem kinds_of {N ps : List Str} {sc : Scope} (S : FnScope N ps sc) (us : List Value) (n : Nat) : ∀ y ∈ ps.zip us, sc.names.lookup y.1 = some .local ∨ (sc.names.lookup y.1 = some .cell ∧ ((cellsFrom n sc.names []).lookup y.1).isSome = true) := fun y hy =>
  (S.par y.1 (List.of_mem_zip (a := y.1) (b := y.2) hy).1).imp id fun q => ⟨q, PySem.W.cellsFrom_some _ _ _ (.inl q)⟩
theorem bodyG {CX : CXT} {x qual : Str} {st : Stmt} {f : Addr} {fd : FuncData} {N ps : List Str} {k : Nat} {sp : Sp} (F : Fun K x qual st f fd) (S : FnScope N ps (defScope st)) (len : ∀ vs H Q E, sp vs H Q E → vs.length = ps.length)
    (hbody : ∀ (cdv : Value) (A : Around) (outer : List Env) (s : Shared) (H : Hp) (vs : List V) (Q : VK) (E : XK), Room k (A.deeper (envOfC qual (defScope st) s.heap.objs.size f cdv)) → (A.deeper (envOfC qual (defScope st) s.heap.objs.size f cdv)).guards = some [] → sp vs H Q E →
      ∃ t, PSs (cxOf CX P w K mg base N qual (defScope st) f cdv A outer s H E) (defBody st) t ∧ t { nx := fun _ H' => Q .non H', rt := Q } (L2.start N vs) H) : FnG P w K mg base CX (k + 1) f fd ps sp where
  len := len
  go := fun A hr hgd outer s H args us vs Q E e0 hb r hsp => by
    obtain ⟨oc, od, kV, doc, pm, an, cdv, ct, osl, rfl, lk, hcd⟩ := F.ex
    have kb := fun b o e => (e0.bs b o e).1
    have KX : K.In s.heap := e0.mod.kin.keeps kb
    refine codeAny_call_function hr.depth (KX _ _ lk) rfl S.co S.gen rfl (PySem.W.codeRec_of KX hcd) (hb _ _ _ _ (wpAny_newFunctionEnv_cells S.kind (kinds_of S us _) fun env he s1 ic => ?_))
    subst he
    refine ⟨(e0.mod.nolimit.keeps kb).keeps ic.toInCall.keep, codeAny_func ?_⟩
    obtain ⟨t, ht, hq⟩ := hbody cdv A outer s H vs Q E (hr.deeper _) hgd hsp
    refine wpAny_mono (ht.run [] s1 (L2.start N vs) H _ (inv_start S hr.hd e0 (len _ _ _ _ hsp) r ic) hq) (fun fl s' hs => ?_) fun _ _ z => z
    cases fl with
    | ret u => exact let ⟨v, σ', H', J, rv, q⟩ := hs; ⟨v, H', J.os, J.bare, J.base, J.hok, rv, q⟩
    | next => exact let ⟨σ', H', J, q⟩ := hs; ⟨.non, H', J.os, J.bare, J.base, J.hok, rfl, q⟩
    | brk => exact let ⟨_, _, _, q⟩ := hs; False.elim q
    | cont => exact let ⟨_, _, _, q⟩ := hs; False.elim q
/-- THE RULE for a def -/
theorem def_ok {x qual : Str} {st : Stmt} {f : Addr} {fd : FuncData} {N ps : List Str} {k : Nat} {sp : DSp} (F : Fun K x qual st f fd) (S : FnScope N ps (defScope st)) (len : ∀ ds M Q, sp ds M Q → ds.length = ps.length)
    (hbody : ∀ (cdv : Value) (A : Around) (outer : List Env) (s : Shared) (H : Hp) (E : XK) (B : Bs) (ds : List D) (M : Mem) (Q : D → Mem → Prop), Room k (A.deeper (envOfC qual (defScope st) s.heap.objs.size f cdv)) →
      (A.deeper (envOfC qual (defScope st) s.heap.objs.size f cdv)).guards = some [] → sp ds M Q →
      JSs (cxOf CX0 P w K mg base N qual (defScope st) f cdv A outer s H E).nox B (defBody st) (startE N ds) M { nx := fun _ M' => Q .non M', rt := Q }) : FnG P w K mg base CX0 (k + 1) f fd ps (lift K sp) := by
  refine bodyG F S (fun vs H Q E h => ?_) fun cdv A outer s H vs Qh E hr hgd h => ?_
  · obtain ⟨F, ds, M, Q, _, _, r, h, _⟩ := h
    rw [r.length]; exact len _ _ _ h
  · obtain ⟨F, ds, M, Q, sF, ow, r, h, k⟩ := h
    have hs : At K (bsOf F H M) (startE N ds) M F (L2.start N vs) H := at_start sF ow r
    refine ⟨_, (pss_J (B := bsOf F H M)).nox, F, startE N ds, M, _, hs, hbody cdv A outer s H E (bsOf F H M) ds M Q hr hgd h, ?_⟩
    refine ⟨fun σ' H' F' ρ' M' e a' q => ?_, fun _ _ _ _ _ _ _ q => q.elim, fun _ _ _ _ _ _ _ q => q.elim, fun v H' F' ρ' σ' d M' e a' dv q => ?_⟩
    · exact k .non H' F' .non M' e a'.fh a'.fr a'.kh a'.th a'.ow a'.nw .non q
    · exact k v H' F' d M' e a'.fh a'.fr a'.kh a'.th a'.ow a'.nw dv q
end
section
variable {X : Cx} {B : Bs} {e a b c o : Expr} {es : List Expr} {ρ : Ev} {M : Mem} {pos p2 apos : Pos} {Q : D → Mem → Prop} {P : Po}
/-- behind a call: the cells that were handed over, Mc, are now M2; the others, Mf, stand -/
theorem at_call {K : PySem.W.Frag} {M0 Mc Mf M2 M3 : Mem} {F H F' H' : Hp} {σ : L2.St} (a : At K B ρ M0 F σ H) (hp : M0.Perm (Mc ++ Mf)) (e : Same F F') (fh : Same F' H') (fr : ∀ a, F a = none → (H a).isSome = true → a ∉ Mc.map (·.1) → F' a = none)
    (kh : ∀ a o, a ∉ Mc.map (·.1) → H a = some o → H' a = some o) (th : ∀ a, H' a = none → H a = none) (ow : Owns K F' H' M2) (nw : ∀ c ∈ M2, c.1 ∈ Mc.map (·.1) ∨ H c.1 = none) (h3 : (M2 ++ Mf).Perm M3) : At K B ρ M3 F' σ H' := by
  have a1 := a.perm hp
  have nd := a1.ow.nd
  rw [List.map_append, List.nodup_append] at nd
  obtain ⟨nd1, nd2, nd3⟩ := nd
  have inM : ∀ b, b ∉ B.own → (B.H b).isSome = true → b ∉ Mc.map (·.1) := fun b h1 h2 hm => by
    obtain ⟨c, hc, rfl⟩ := List.mem_map.mp hm
    rcases a1.nw c (List.mem_append_left _ hc) with z | z
    · exact h1 z
    · rw [z] at h2; cases h2
  have hf : ∀ c ∈ Mf, c.1 ∉ Mc.map (·.1) := fun c hc hm => nd3 c.1 hm c.1 (List.mem_map_of_mem hc) rfl
  have a4 : At K B ρ (M2 ++ Mf) F' σ H' := by
    refine ⟨a.ff.trans e, fh, fun b h1 h2 h3 => ?_, fun b o h1 h2 => kh b o (inM b h1 (by rw [h2]; rfl)) (a.kh b o h1 h2), fun b h => a.th b (th b h), ⟨a.sl.1, fun i d q => ?_⟩, ⟨?_, fun c hc => ?_⟩, fun c hc => ?_⟩
    · obtain ⟨o, ho⟩ := Option.isSome_iff_exists.mp h2
      exact fr b (a.fr b h1 h2 h3) (by rw [a.kh b o h3 ho]; rfl) (inM b h3 h2)
    · obtain ⟨v, g1, g2⟩ := a.sl.2 i d q
      exact ⟨v, g1, g2.mono e⟩
    · rw [List.map_append, List.nodup_append]
      refine ⟨ow.nd, nd2, fun x hx y hy exy => ?_⟩
      subst exy
      obtain ⟨c, hc, rfl⟩ := List.mem_map.mp hx
      obtain ⟨c', hc', e'⟩ := List.mem_map.mp hy
      rcases nw c hc with z | z
      · exact nd3 c.1 z c.1 hy rfl
      · have := (a1.ow.ok c' (List.mem_append_right _ hc')).2.some
        rw [e', z] at this; cases this
    · rcases List.mem_append.mp hc with hc | hc
      · exact ow.ok c hc
      · obtain ⟨g1, g2⟩ := a1.ow.ok c (List.mem_append_right _ hc)
        refine ⟨fr c.1 g1 g2.some (hf c hc), g2.mono e fun o ho => kh _ _ (hf c hc) ho⟩
    · rcases List.mem_append.mp hc with hc | hc
      · rcases nw c hc with z | z
        · obtain ⟨c', hc', e'⟩ := List.mem_map.mp z
          rw [← e']
          exact a1.nw c' (List.mem_append_left _ hc')
        · exact .inr (a.th _ z)
      · exact a1.nw c (List.mem_append_right _ hc)
  exact a4.perm h3
theorem owns_part {K : PySem.W.Frag} {M0 Mc Mf : Mem} {F H : Hp} {σ : L2.St} (a : At K B ρ M0 F σ H) (hp : M0.Perm (Mc ++ Mf)) : Owns K F H Mc := by
  have a1 := (a.perm hp).sub (List.sublist_append_left Mc Mf)
  exact a1.ow
/-- what a call asks: the cells Mc are handed over, the others stay -/
def DCall (sp : DSp) (ds : List D) (M : Mem) (Q : D → Mem → Prop) : Prop := ∃ Mc Mf, M.Perm (Mc ++ Mf) ∧ sp ds Mc fun d M2 => ∃ M3, (M2 ++ Mf).Perm M3 ∧ Q d M3
theorem lift_of {sp : DSp} {K : PySem.W.Frag} {ds : List D} {vs : List V} {M1 : Mem} {F H : Hp} {σ : L2.St} {Qh : VK} {E : XK} (h : DCall sp ds M1 Q) (a : At K B ρ M1 F σ H) (r : DvL K F vs ds) (k : KE K B ρ σ F Q Qh) : lift K sp vs H Qh E := by
  obtain ⟨Mc, Mf, hp, h⟩ := h
  exact ⟨F, ds, Mc, _, a.fh, owns_part a hp, r, h, fun v H' F' d M2 e fh fr kh th ow nw dv ⟨M3, hp3, q⟩ => k v H' F' d M3 e (at_call a hp e fh fr kh th ow nw hp3) dv q⟩
/-- the callee runs; its arguments in the parameters' order -/
theorem run_G {CX : CXT} {k : Nat} {f : Addr} {fd : FuncData} {ps : List Str} {sp : Sp} {E : XK} {pins : List (Addr × Obj)} {σ : L2.St} {H : Hp} {s : Shared} {Qh : VK} {us : List Value} {ks : List (Str × Value)} {vs : List V} {ws : List Value}
    (G : FnG X.prog X.w X.K X.mg X.base CX k f fd ps sp) (hr : Room k X.A) (hgd : X.A.guards = some []) (hx : Passes CX X E) (I : Inv X pins σ H s) (hb : BindsTo s fd ⟨us, ks⟩ (ps.zip ws)) (r : Vals vs ws) (h : sp vs H Qh E) :
    wpAny (model X.prog X.w) X.A (call (.ref f) us ks) (EP X pins σ Qh) X.xe s := by
  refine wpAny_call (codeAny_mono (G.go X.A hr hgd X.stack s H ⟨us, ks⟩ ws vs Qh E I.env0 hb r h) fun r s' hq => ?_)
  match r, hq with
  | .error e, hq => exact hx pins σ H s e s' I hq
  | .ok (.ret u), hq => exact I.after hq
theorem pe_callG {CX : CXT} {x : Str} {f : Addr} {fd : FuncData} {ps : List Str} {sp : Sp} {k : Nat} {E : XK} {t : TA} (G : FnG X.prog X.w X.K X.mg X.base CX k f fd ps sp) (hr : Room k X.A) (hgd : X.A.guards = some []) (hm : X.mg x = some (.ref f)) (hk : PySem.W.keepIn X.K (.ref f) = true)
    (hb : Binds X.K fd ps []) (hx : Passes CX X E) (ha : PA X (e :: es) t) (hg : Gl X x := by rfl) (hdb : (x == ("__debug__" : Str)) = false := by decide)
    (he : starEach (e :: es) X.env = (false, eval e X.env) :: starEach es X.env := by exact se_cons rfl) (hpl : (backTo pos (starEach es X.env)).any (·.1) = false := by exact se_any rfl) : PE X (.Call (.Name x p2) (e :: es) [] pos) fun σ H Qh => t σ H fun vs H1 => sp vs H1 Qh E :=
  ⟨fun pins s σ H Qh I h => wpAny_Call_Name_kw (ld_glob I hg hm (PySem.W.callWith_K (h₀ := X.base) I.ok.mod.kin hk (thn (ha.run pos pins s σ H _ I h) fun us s1 ⟨vs, H1, I1, r, q⟩ => ⟨I1.kIn, by
    have hl : us.length = ps.length := r.length.symm.trans (G.len _ _ _ _ q)
    have hb1 := hb s1 us I1.kIn (by rw [List.append_nil]; exact hl)
    rw [List.append_nil] at hb1
    exact run_G G hr hgd hx I1 hb1 r q⟩) he hpl) hdb)⟩
theorem je_call {x : Str} {f : Addr} {fd : FuncData} {ps : List Str} {sp : DSp} {k : Nat} (G : FnG X.prog X.w X.K X.mg X.base CX0 k f fd ps (lift X.K sp)) (hr : Room k X.A) (hgd : X.A.guards = some []) (hm : X.mg x = some (.ref f)) (hk : PySem.W.keepIn X.K (.ref f) = true) (hb : Binds X.K fd ps [])
    (h : JA X B (e :: es) ρ M fun ds M1 => DCall sp ds M1 Q) (hg : Gl X x := by rfl) (hdb : (x == ("__debug__" : Str)) = false := by decide)
    (he : starEach (e :: es) X.env = (false, eval e X.env) :: starEach es X.env := by exact se_cons rfl) (hpl : (backTo pos (starEach es X.env)).any (·.1) = false := by exact se_any rfl) : JE X B (.Call (.Name x p2) (e :: es) [] pos) ρ M Q :=
  JE.of (pe_callG (E := E0) G hr hgd hm hk hb pass0 pa_J hg hdb he hpl) fun σ H F at_ Qh k => ⟨F, ρ, M, _, at_, h, fun vs H1 F1 ds M1 e1 a1 r1 q1 => lift_of q1 a1 r1 (k.go e1)⟩
/-- f() -/
theorem je_call0 {x : Str} {f : Addr} {fd : FuncData} {ps : List Str} {sp : DSp} {k : Nat} (G : FnG X.prog X.w X.K X.mg X.base CX0 k f fd ps (lift X.K sp)) (hr : Room k X.A) (hgd : X.A.guards = some []) (hm : X.mg x = some (.ref f)) (hk : PySem.W.keepIn X.K (.ref f) = true) (hb : Binds X.K fd ps [])
    (h : DCall sp [] M Q) (hg : Gl X x := by rfl) (hdb : (x == ("__debug__" : Str)) = false := by decide) : JE X B (.Call (.Name x p2) [] [] pos) ρ M Q :=
  JE.of (t := fun σ H Qh => lift X.K sp [] H Qh E0) ⟨fun pins s σ H Qh I h => wpAny_Call_Name_kw (ld_glob I hg hm (PySem.W.callWith_K0 I.kIn hk (by
    have hb1 := hb s [] I.kIn (by rw [← G.len _ _ _ _ h]; rfl)
    exact run_G (us := []) (ws := []) G hr hgd pass0 I hb1 .nil h)) hdb)⟩ fun σ H F at_ Qh k => lift_of h at_ .nil k
/-- keywords' values, from the left -/
structure JK (X : Cx) (B : Bs) (kws : List Keyword) (ρ : Ev) (M : Mem) (Q : List D → Mem → Prop) : Prop where
  run : ∀ pos pins s σ H F, Inv X pins σ H s → At X.K B ρ M F σ H → wpAny (model X.prog X.w) X.A (evalAll ((backToKw pos (keywordEach kws X.env)).map (·.2)))
      (fun us s' => ∃ vs H' F' ds M', Inv X pins σ H' s' ∧ Vals vs us ∧ Same F F' ∧ At X.K B ρ M' F' σ H' ∧ DvL X.K F' vs ds ∧ Q ds M') X.xe s
def tJK (X : Cx) (B : Bs) (kws : List Keyword) : TA := fun σ H Qh => ∃ F ρ M Q, At X.K B ρ M F σ H ∧ JK X B kws ρ M Q ∧ KA X.K B ρ σ F Q Qh
theorem pk_J {kws : List Keyword} : PK X kws (tJK X B kws) := ⟨fun pos pins s σ H Qh I ⟨F, ρ, M, Q, a, h, k⟩ =>
  thn (h.run pos pins s σ H F I a) fun us s' ⟨vs, H', F', ds, M', I', rv, e, a', dv, q⟩ => ⟨vs, H', I', rv, k vs H' F' ds M' e a' dv q⟩⟩
theorem JK.of {kws : List Keyword} {t : TA} {Ql : List D → Mem → Prop} (h : PK X kws t) (q : ∀ σ H F, At X.K B ρ M F σ H → ∀ Qh, KA X.K B ρ σ F Ql Qh → t σ H Qh) : JK X B kws ρ M Ql :=
  ⟨fun pos pins s σ H F I a => thn (h.run pos pins s σ H (fun vs H' => ∃ F' ds M', Same F F' ∧ At X.K B ρ M' F' σ H' ∧ DvL X.K F' vs ds ∧ Ql ds M') I (q σ H F a _ fun v H' F' d M' e a' dv q => ⟨F', d, M', e, a', dv, q⟩))
    fun us s' ⟨vs, H', I', rv, F', ds, M', e, a', dv, q⟩ => ⟨vs, H', F', ds, M', I', rv, e, a', dv, q⟩⟩
theorem jk_nil {Ql : List D → Mem → Prop} (q : Ql [] M) : JK X B [] ρ M Ql := JK.of pk_nil fun σ H F at_ Qh k => k [] H F [] M (Same.refl _) at_ .nil q
theorem jk_cons {nm : Option Str} {kpos : Pos} {kws : List Keyword} {Ql : List D → Mem → Prop} (h : JE X B e ρ M fun d M1 => JK X B kws ρ M1 fun ds M2 => Ql (d :: ds) M2) : JK X B (⟨nm, e, kpos⟩ :: kws) ρ M Ql :=
  JK.of (pk_cons pe_J pk_J) fun σ H F at_ Qh k => ⟨F, ρ, M, _, at_, h, fun v H1 F1 d M1 e1 a1 r1 q1 => ⟨F1, ρ, M1, _, a1, q1, fun vs H2 F2 ds M2 e2 a2 r2 q2 => k _ _ _ _ _ (e1.trans e2) a2 (.cons (r1.mono e2) r2) q2⟩⟩
/-- how a call by keywords alone binds -/
structure KB0 (K : PySem.W.Frag) (fd : FuncData) (ps ks : List Str) (g : {α : Type} → List α → List α) : Prop where
  to : ∀ (s : Shared) (ws : List Value), K.In s.heap → ws.length = ks.length → BindsTo s fd ⟨[], ks.zip ws⟩ (ps.zip (g ws))
  rel : ∀ {vs : List V} {ws : List Value}, vs.length = ks.length → Vals vs ws → Vals (g vs) (g ws)
  dat : ∀ {K : PySem.W.Frag} {F : Hp} {vs : List V} {ds : List D}, vs.length = ks.length → DvL K F vs ds → DvL K F (g vs) (g ds)
theorem je_callK0 {x : Str} {f : Addr} {fd : FuncData} {ps ks : List Str} {g : {α : Type} → List α → List α} {sp : DSp} {k : Nat} {kws : List Keyword} (G : FnG X.prog X.w X.K X.mg X.base CX0 k f fd ps (lift X.K sp)) (hr : Room k X.A) (hgd : X.A.guards = some []) (hm : X.mg x = some (.ref f)) (hk : PySem.W.keepIn X.K (.ref f) = true)
    (hb : KB0 X.K fd ps ks g) (h : JK X B kws ρ M fun ds M1 => ds.length = ks.length ∧ DCall sp (g ds) M1 Q) (hall : (backToKw pos (keywordEach kws X.env)).all (·.1.isSome) = true := by rfl) (hks : (backToKw pos (keywordEach kws X.env)).filterMap (·.1) = ks := by rfl)
    (hpl : (backToKw pos (keywordEach kws X.env)).any (·.1.isNone) = false := by rfl) (hg : Gl X x := by rfl) (hdb : (x == ("__debug__" : Str)) = false := by decide) : JE X B (.Call (.Name x p2) [] kws pos) ρ M Q :=
  JE.of (t := fun σ H Qh => tJK X B kws σ H fun vs H1 => vs.length = ks.length ∧ lift X.K sp (g vs) H1 Qh E0) ⟨fun pins s σ H Qh I h => wpAny_Call_Name_kw (ld_glob I hg hm (PySem.W.callWith_KW0 (h₀ := X.base) I.ok.mod.kin hk hall (thn (pk_J.run pos pins s σ H _ I h) fun ws s1 ⟨vs, H1, I1, r, hl, q⟩ => ⟨I1.kIn, by
      rw [hks]
      exact run_G (us := []) G hr hgd pass0 I1 (hb.to s1 ws I1.kIn (by rw [← r.length]; exact hl)) (hb.rel hl r) q⟩) hpl) hdb)⟩
    fun σ H F at_ Qh k => ⟨F, ρ, M, _, at_, h, fun vs H1 F1 ds M1 e1 a1 r1 q1 => ⟨r1.length.trans q1.1, lift_of q1.2 a1 (hb.dat (r1.length.trans q1.1) r1) (k.go e1)⟩⟩
/-- no cell is handed over -/
theorem dcall0 {sp : DSp} {ds : List D} (h : sp ds [] fun d M2 => M2 = [] ∧ Q d M) : DCall sp ds M Q → DCall sp ds M Q := id
theorem DCall.pure {sp : DSp} {ds : List D} (mono : ∀ Q Q' : D → Mem → Prop, (∀ d M, Q d M → Q' d M) → sp ds [] Q → sp ds [] Q') (h : sp ds [] fun d M2 => M2 = [] ∧ Q d M) : DCall sp ds M Q :=
  ⟨[], M, .refl _, mono _ _ (fun d M2 ⟨e, q⟩ => ⟨M, by subst e; exact .refl _, q⟩) h⟩

/-! ### built-ins -/
theorem JA.imp {Ql Ql' : List D → Mem → Prop} (h : JA X B es ρ M Ql) (w : ∀ d M', Ql d M' → Ql' d M') : JA X B es ρ M Ql' := ⟨fun pos pins s σ H F I at_ =>
  thn (h.run pos pins s σ H F I at_) fun u s' ⟨v, H', F', d, M', I', rv, e, a', dv, q⟩ => ⟨v, H', F', d, M', I', rv, e, a', dv, w _ _ q⟩⟩
theorem dn_all {ds : List D} (h : ∃ (d : D) (xs : List Bool), ds = [d] ∧ SqLs M d (xs.map D.bl) ∧ Q (.bl (xs.all id)) M) : DRn X B (rAll X.K) ds M Q := by
  intro ρ σ H F vs at_ r Qh k
  obtain ⟨d, xs, rfl, hs, q⟩ := h
  obtain ⟨v, rfl, rv⟩ := r.one
  obtain ⟨p, ws, rfl, hq, rw'⟩ := hs.at at_ rv
  have := rw'.bls
  subst this
  exact ⟨p, xs, rfl, hq, k _ H F _ M (Same.refl _) at_ (.bl _) q⟩
theorem dn_any {ds : List D} (h : ∃ (d : D) (xs : List Bool), ds = [d] ∧ SqLs M d (xs.map D.bl) ∧ Q (.bl (xs.any id)) M) : DRn X B (rAny X.K) ds M Q := by
  intro ρ σ H F vs at_ r Qh k
  obtain ⟨d, xs, rfl, hs, q⟩ := h
  obtain ⟨v, rfl, rv⟩ := r.one
  obtain ⟨p, ws, rfl, hq, rw'⟩ := hs.at at_ rv
  have := rw'.bls
  subst this
  exact ⟨p, xs, rfl, hq, k _ H F _ M (Same.refl _) at_ (.bl _) q⟩
theorem dn_sum {ds : List D} (h : ∃ (d : D) (xs : List Int), ds = [d] ∧ SqLs M d (xs.map D.int) ∧ Q (.int xs.sum) M) : DRn X B (rSum X.K) ds M Q := by
  intro ρ σ H F vs at_ r Qh k
  obtain ⟨d, xs, rfl, hs, q⟩ := h
  obtain ⟨v, rfl, rv⟩ := r.one
  obtain ⟨p, ws, rfl, hq, rw'⟩ := hs.at at_ rv
  have := rw'.ints
  subst this
  exact ⟨p, xs, rfl, hq, k _ H F _ M (Same.refl _) at_ (.int _) q⟩
theorem dn_sorted {ds : List D} (h : ∃ (d : D) (xs : List Int), ds = [d] ∧ SqLs M d (xs.map D.int) ∧ ∀ ys : List Int, ys.Perm xs → ys.Pairwise (· ≤ ·) → Q (.lst (ys.map D.int)) M) : DRn X B (rSortedI X.K) ds M Q := by
  intro ρ σ H F vs at_ r Qh k
  obtain ⟨d, xs, rfl, hs, q⟩ := h
  obtain ⟨v, rfl, rv⟩ := r.one
  obtain ⟨p, ws, rfl, hq, rw'⟩ := hs.at at_ rv
  have := rw'.ints
  subst this
  exact ⟨p, xs, rfl, hq, fun ys l hp hs hl => k _ _ _ _ _ (at_.newF hl _).2 (at_.newF hl (.lst (ys.map V.int))).1 (.lst (.inl upd_same) (DvL.of_ints ys)) (q ys hp hs)⟩
theorem dn_tuple {ds : List D} (h : ∃ (d : D) (xs : List D), ds = [d] ∧ Sq M d xs ∧ Q (.tup xs) M) : DRn X B (fun xs H Q => ∃ p ys, xs = [V.ref p] ∧ ((SqL X.K H p ys ∧ ∀ l, H l = none → Q (.ref l) (upd H l (.tup ys))) ∨ (SqT X.K H p ys ∧ Q (.ref p) H))) ds M Q := by
  intro ρ σ H F vs at_ r Qh k
  obtain ⟨d, xs, rfl, hs, q⟩ := h
  obtain ⟨v, rfl, rv⟩ := r.one
  cases hs with
  | tup => cases rv with | tup h1 h2 => exact ⟨_, _, rfl, .inr ⟨sqT_mono at_.fh h1, k _ _ _ _ _ (Same.refl _) at_ (.tup h1 h2) q⟩⟩
  | lst => cases rv with | lst h1 h2 => exact ⟨_, _, rfl, .inl ⟨Same.seq at_.fh (.inl h1), fun l hl => k _ _ _ _ _ (at_.newF hl _).2 (at_.newF hl _).1 (.tup (.inl (.inl upd_same)) (h2.mono (at_.newF hl _).2)) q⟩⟩
  | scr => cases rv with | scr h1 => exact ⟨_, _, rfl, .inl ⟨Same.seq at_.fh h1, fun l hl => k _ _ _ _ _ (at_.newF hl _).2 (at_.newF hl _).1 (.tup (.inl (.inl upd_same)) ((DvL.of_ints _).mono (at_.newF hl _).2)) q⟩⟩
  | own h =>
    cases rv
    obtain ⟨_, ws, h1, h2⟩ := at_.ow.ok _ (List.mem_of_getElem? h)
    exact ⟨_, _, rfl, .inl ⟨.inl (.inl h1), fun l hl => k _ _ _ _ _ (at_.newF hl _).2 (at_.newF hl _).1 (.tup (.inl (.inl upd_same)) (h2.mono (at_.newF hl _).2)) q⟩⟩
/-- list(xs), a list of one's own -/
theorem dn_listO {ds : List D} (h : ∃ (d : D) (xs : List D), ds = [d] ∧ Sq M d xs ∧ ∀ p, Q (.ref p) (M ++ [(p, .lst xs)])) : DRn X B (fun xs H Q => ∃ p ys, xs = [V.ref p] ∧ (SqL X.K H p ys ∨ SqT X.K H p ys) ∧ ∀ l, H l = none → Q (.ref l) (upd H l (.lst ys))) ds M Q := by
  intro ρ σ H F vs at_ r Qh k
  obtain ⟨d, xs, rfl, hs, q⟩ := h
  obtain ⟨v, rfl, rv⟩ := r.one
  obtain ⟨p, ws, rfl, hq, rw'⟩ := hs.at at_ rv
  exact ⟨p, ws, rfl, hq, fun l hl => k _ _ _ _ _ (Same.refl _) (at_.newO (c := .lst xs) hl ⟨ws, upd_same, rw'⟩) (.ref _) (q l)⟩
theorem dn_listF {ds : List D} (h : ∃ (d : D) (xs : List D), ds = [d] ∧ Sq M d xs ∧ Q (.lst xs) M) : DRn X B (fun xs H Q => ∃ p ys, xs = [V.ref p] ∧ (SqL X.K H p ys ∨ SqT X.K H p ys) ∧ ∀ l, H l = none → Q (.ref l) (upd H l (.lst ys))) ds M Q := by
  intro ρ σ H F vs at_ r Qh k
  obtain ⟨d, xs, rfl, hs, q⟩ := h
  obtain ⟨v, rfl, rv⟩ := r.one
  obtain ⟨p, ws, rfl, hq, rw'⟩ := hs.at at_ rv
  exact ⟨p, ws, rfl, hq, fun l hl => k _ _ _ _ _ (at_.newF hl _).2 (at_.newF hl _).1 (.lst (.inl upd_same) (rw'.mono (at_.newF hl _).2)) q⟩
theorem dn_int {ds : List D} (h : (∃ i, ds = [.int i] ∧ Q (.int i) M) ∨ ∃ k, ds = [.bl k] ∧ Q (.int (if k then 1 else 0)) M) : DRn X B (fun xs H Q => (∃ i, xs = [V.int i] ∧ Q (.int i) H) ∨ ∃ k, xs = [V.bl k] ∧ Q (.int (if k then 1 else 0)) H) ds M Q := by
  intro ρ σ H F vs at_ r Qh k
  rcases h with ⟨i, rfl, q⟩ | ⟨kk, rfl, q⟩
  · obtain ⟨v, rfl, rv⟩ := r.one
    cases rv
    exact .inl ⟨i, rfl, k _ _ _ _ _ (Same.refl _) at_ (.int _) q⟩
  · obtain ⟨v, rfl, rv⟩ := r.one
    cases rv
    exact .inr ⟨kk, rfl, k _ _ _ _ _ (Same.refl _) at_ (.int _) q⟩
theorem dn_abs {ds : List D} (h : ∃ i : Int, ds = [.int i] ∧ Q (.int (if i < 0 then -i else i)) M) : DRn X B (fun xs H Q => ∃ i, xs = [V.int i] ∧ Q (.int (if i < 0 then -i else i)) H) ds M Q := by
  intro ρ σ H F vs at_ r Qh k
  obtain ⟨i, rfl, q⟩ := h
  obtain ⟨v, rfl, rv⟩ := r.one
  cases rv
  exact ⟨i, rfl, k _ _ _ _ _ (Same.refl _) at_ (.int _) q⟩
theorem dn_max2 {ds : List D} (h : ∃ i j : Int, ds = [.int i, .int j] ∧ Q (.int (if j > i then j else i)) M) : DRn X B (fun xs H Q => ∃ i j, xs = [V.int i, V.int j] ∧ Q (.int (if j > i then j else i)) H) ds M Q := by
  intro ρ σ H F vs at_ r Qh k
  obtain ⟨i, j, rfl, q⟩ := h
  obtain ⟨v, w, rfl, rv, rw'⟩ := r.two
  cases rv
  cases rw'
  exact ⟨i, j, rfl, k _ _ _ _ _ (Same.refl _) at_ (.int _) q⟩
theorem dn_min2 {ds : List D} (h : ∃ i j : Int, ds = [.int i, .int j] ∧ Q (.int (if j < i then j else i)) M) : DRn X B (fun xs H Q => ∃ i j, xs = [V.int i, V.int j] ∧ Q (.int (if j < i then j else i)) H) ds M Q := by
  intro ρ σ H F vs at_ r Qh k
  obtain ⟨i, j, rfl, q⟩ := h
  obtain ⟨v, w, rfl, rv, rw'⟩ := r.two
  cases rv
  cases rw'
  exact ⟨i, j, rfl, k _ _ _ _ _ (Same.refl _) at_ (.int _) q⟩

/-! data that == and repr can read -/
mutual
def D.py : D → PyData
  | .non => .none
  | .bl b => .bool b
  | .int i => .int i
  | .str x => .str x
  | .tup xs => .tuple (D.pys xs)
  | .lst xs => .list (D.pys xs)
  | _ => .none
def D.pys : List D → List PyData
  | [] => []
  | d :: ds => D.py d :: D.pys ds
end
mutual
/-- plain: None, bools, ints, texts, tuples and lists of such -/
def D.plain : D → Bool
  | .non => true
  | .bl _ => true
  | .int _ => true
  | .str _ => true
  | .tup xs => D.plains xs
  | .lst xs => D.plains xs
  | _ => false
def D.plains : List D → Bool
  | [] => true
  | d :: ds => D.plain d && D.plains ds
end
mutual
theorem Dv.dp {K : PySem.W.Frag} {F : Hp} : ∀ {d : D} {v : V}, Dv K F v d → d.plain = true → Dp K F v d.py
  | .non, _, h, _ => by cases h; exact .non
  | .bl _, _, h, _ => by cases h; exact .bl _
  | .int _, _, h, _ => by cases h; exact .int _
  | .str _, _, h, _ => by cases h; exact .str _
  | .tup ds, _, h, p => by cases h with | tup h1 h2 => rw [D.py]; rw [D.plain] at p; exact .tup h1 (DvL.dp h2 p)
  | .lst ds, _, h, p => by cases h with | lst h1 h2 => rw [D.py]; rw [D.plain] at p; exact .lst (.inl h1) (DvL.dp h2 p)
  | .ty _, _, _, p => by simp [D.plain] at p
  | .ref _, _, _, p => by simp [D.plain] at p
  | .scr _, _, _, p => by simp [D.plain] at p
  | .dct _, _, _, p => by simp [D.plain] at p
  | .obj _ _, _, _, p => by simp [D.plain] at p
theorem DvL.dp {K : PySem.W.Frag} {F : Hp} : ∀ {ds : List D} {vs : List V}, DvL K F vs ds → D.plains ds = true → DpAll K F vs (D.pys ds)
  | [], _, h, _ => by cases h; rw [D.pys]; exact .nil
  | d :: ds, _, h, p => by
    cases h with
    | cons h1 h2 =>
      rw [D.plains, Bool.and_eq_true] at p
      rw [D.pys]
      exact .cons (Dv.dp h1 p.1) (DvL.dp h2 p.2)
end
theorem dr_eqD {x y x' y' : D} (hx : Vw M x x') (hy : Vw M y y') (px : x'.plain = true) (py : y'.plain = true) (sx : SeqAt.shaped x'.py = true) (sy : SeqAt.shaped y'.py = true) (q : Q (.bl (PyData.eqv x'.py y'.py)) M) : DR2 X B (rEqD X.K) x y M Q := by
  intro ρ σ H F v u at_ rv ru Qh k
  exact ⟨_, _, (hx.dv at_ rv).dp px, (hy.dv at_ ru).dp py, sx, sy, k _ _ _ _ _ (Same.refl _) at_ (.bl _) q⟩
theorem dr_neD {x y x' y' : D} (hx : Vw M x x') (hy : Vw M y y') (px : x'.plain = true) (py : y'.plain = true) (sx : SeqAt.shaped x'.py = true) (sy : SeqAt.shaped y'.py = true) (q : Q (.bl (!PyData.eqv x'.py y'.py)) M) : DR2 X B (rNeD X.K) x y M Q := by
  intro ρ σ H F v u at_ rv ru Qh k
  exact ⟨_, _, (hx.dv at_ rv).dp px, (hy.dv at_ ru).dp py, sx, sy, k _ _ _ _ _ (Same.refl _) at_ (.bl _) q⟩
end
end J
namespace J
open PySem PySem.Spec PyProof.Rows L2
section
variable {X : Cx} {B : Bs} {e a b c o : Expr} {es : List Expr} {ρ : Ev} {M : Mem} {pos p2 p3 apos cpos : Pos} {Q : D → Mem → Prop} {Ql : List D → Mem → Prop} {P : Po} {d : D} {Qg : Ev → Mem → Prop}
/-! ### isinstance -/
def D.tyn : D → Option String
  | .non => some "NoneType"
  | .bl _ => some "bool"
  | .int _ => some "int"
  | .str _ => some "str"
  | .tup _ => some "tuple"
  | .lst _ => some "list"
  | .dct _ => some "dict"
  | _ => none
theorem Dv.tyX {K : PySem.W.Frag} {F : Hp} {v : V} {t : String} (h : Dv K F v d) (ht : d.tyn = some t) : TyX K F v (.type t) := by
  cases h with
  | non => cases ht; exact .base .non
  | bl b => cases ht; exact .base (.bl b)
  | int i => cases ht; exact .base (.int i)
  | str x => cases ht; exact .base (.str x)
  | tup h1 h2 =>
    cases ht
    rcases h1 with (h | ⟨o, h⟩) | ⟨o, its, n, h, hc, _⟩
    · exact .base (.tup h)
    · exact .fTuple h
    · exact .kTuple h hc
  | lst h1 h2 =>
    cases ht
    rcases h1 with h | ⟨o, h⟩
    · exact .base (.lst h)
    · exact .base (.frz h)
  | dct h1 h2 => cases ht; exact .base (.dK h1)
  | ty n => cases ht
  | ref a => cases ht
  | scr h1 => cases ht
  | obj h1 h2 => cases ht
theorem dn_isi {ds : List D} (h : ∃ (x x' : D) (n t : String) (k : Bool), ds = [x, .ty n] ∧ Vw M x x' ∧ x'.tyn = some t ∧ kitB t n = some k ∧ Q (.bl k) M) : DRn X B (rIsi X.K) ds M Q := by
  intro ρ σ H F vs at_ r Qh k
  obtain ⟨x, x', n, t, kk, rfl, hw, ht, hk, q⟩ := h
  obtain ⟨v, w, rfl, rv, rw'⟩ := r.two
  cases rw'
  exact ⟨v, _, _, _, kk, rfl, .ty n, (hw.dv at_ rv).tyX ht, kit_ty hk, k _ _ _ _ _ (Same.refl _) at_ (.bl _) q⟩

/-! ### in: flat items -/
theorem dr_in {x y : D} {neg : Bool} (h : ∃ (v : V) (xs : List D) (vs : List V), x.flat = some v ∧ Sq M y xs ∧ xs.map D.flat = vs.map some ∧ Q (.bl (if neg then !inV v vs else inV v vs)) M) : DR2 X B (rIn X.K neg) x y M Q := by
  intro ρ σ H F v u at_ rv ru Qh k
  obtain ⟨w, xs, ws, hx, hs, hf, q⟩ := h
  have e1 := rv.of_flat hx
  subst e1
  obtain ⟨p, us, rfl, hq, rw'⟩ := hs.at at_ ru
  have fl : ∀ {z : D} {w : V}, z.flat = some w → flatV w = true := fun {z w} hz => by
    cases z <;> simp only [D.flat] at hz <;> first | (cases hz; rfl) | cases hz
  have all : ∀ {us ws : List V} {xs : List D}, DvL X.K F us xs → xs.map D.flat = ws.map some → us = ws ∧ us.all flatV = true := by
    intro us ws xs
    induction xs generalizing us ws with
    | nil =>
      intro h1 h2
      cases h1
      cases ws with
      | nil => exact ⟨rfl, rfl⟩
      | cons w ws => cases h2
    | cons x xs ih =>
      intro h1 h2
      cases h1 with
      | cons r t =>
        cases ws with
        | nil => cases h2
        | cons w ws =>
          rw [List.map_cons, List.map_cons, List.cons.injEq] at h2
          obtain ⟨i1, i2⟩ := ih t h2.2
          have := r.of_flat h2.1
          subst this i1
          exact ⟨rfl, by rw [List.all_cons, fl h2.1, i2]; rfl⟩
  obtain ⟨e2, f2⟩ := all rw' hf
  subst e2
  exact ⟨p, us, rfl, hq, fl hx, f2, k _ _ _ _ _ (Same.refl _) at_ (.bl _) q⟩
theorem inV_int (i : Int) : ∀ ns : List Int, inV (.int i) (ns.map V.int) = decide (i ∈ ns)
  | [] => by simp [inV]
  | n :: ns => by
    have ih := inV_int i ns
    unfold inV at ih ⊢
    rw [List.map_cons, List.any_cons, ih]
    show ((n == i) || decide (i ∈ ns)) = decide (i ∈ n :: ns)
    rw [Bool.eq_iff_iff, Bool.or_eq_true, beq_iff_eq, decide_eq_true_iff, decide_eq_true_iff, List.mem_cons]
    exact or_congr eq_comm Iff.rfl
theorem inV_str (i : Str) : ∀ ns : List Str, inV (.str i) (ns.map V.str) = decide (i ∈ ns)
  | [] => by simp [inV]
  | n :: ns => by
    have ih := inV_str i ns
    unfold inV at ih ⊢
    rw [List.map_cons, List.any_cons, ih]
    show ((n == i) || decide (i ∈ ns)) = decide (i ∈ n :: ns)
    rw [Bool.eq_iff_iff, Bool.or_eq_true, beq_iff_eq, decide_eq_true_iff, decide_eq_true_iff, List.mem_cons]
    exact or_congr eq_comm Iff.rfl
theorem flats_int : ∀ ns : List Int, (ns.map D.int).map D.flat = (ns.map V.int).map some
  | [] => rfl
  | n :: ns => by rw [List.map_cons, List.map_cons, flats_int ns]; rfl
theorem flats_str : ∀ ns : List Str, (ns.map D.str).map D.flat = (ns.map V.str).map some
  | [] => rfl
  | n :: ns => by rw [List.map_cons, List.map_cons, flats_str ns]; rfl
theorem dr_inI {x y : D} {neg : Bool} (h : ∃ (i : Int) (ns : List Int), x = .int i ∧ Sq M y (ns.map D.int) ∧ Q (.bl (if neg then !decide (i ∈ ns) else decide (i ∈ ns))) M) : DR2 X B (rIn X.K neg) x y M Q := by
  obtain ⟨i, ns, rfl, hs, q⟩ := h
  exact dr_in ⟨_, _, _, rfl, hs, flats_int ns, by rw [inV_int]; exact q⟩
theorem dr_inS {x y : D} {neg : Bool} (h : ∃ (i : Str) (ns : List Str), x = .str i ∧ Sq M y (ns.map D.str) ∧ Q (.bl (if neg then !decide (i ∈ ns) else decide (i ∈ ns))) M) : DR2 X B (rIn X.K neg) x y M Q := by
  obtain ⟨i, ns, rfl, hs, q⟩ := h
  exact dr_in ⟨_, _, _, rfl, hs, flats_str ns, by rw [inV_str]; exact q⟩

/-! ### methods of owned lists -/
theorem je_bm {T id : String} {name : Str} {r : V → List V → Hp → VK → Prop} (pa : PlainAttrs T) (slot : Slot T name id) (hty : typeOf (.builtin id) = pure (.type "method_descriptor")) (hm : MtR X id r)
    (h : JE X B o ρ M fun x M1 => (∀ ρ σ H F v, At X.K B ρ M1 F σ H → Dv X.K F v x → tyV X.K T v H) ∧ JA X B (e :: es) ρ M1 fun ds M2 => DRm X B r x ds M2 Q) (hbase : attributeBase o name X.env (eval o X.env) = eval o X.env := by rfl)
    (hfew : ((backTo cpos (starEach (e :: es) X.env)).all (fun x => !x.1) && (backToKw cpos (keywordEach [] X.env)).all (fun x => x.1.isSome) && decide ((e :: es).length + ([] : List Keyword).length + (if ([] : List Keyword).isEmpty then 0 else 1) < 30)) = true := by rfl)
    (hline : (apos.endLine == cpos.line) = true := by rfl) (hs : starEach (e :: es) X.env = (false, eval e X.env) :: starEach es X.env := by exact se_cons rfl) (hplain : (backTo cpos (starEach es X.env)).any (·.1) = false := by exact se_any rfl) : JE X B (.Call (.Attribute o name apos) (e :: es) [] cpos) ρ M Q :=
  JE.of (pe_bm pa slot hty hm pe_J pa_J hbase hfew hline hs hplain) fun σ H F at_ Qh k => ⟨F, ρ, M, _, at_, h, fun v H1 F1 x M1 e1 a1 r1 q1 => ⟨q1.1 _ _ _ _ _ a1 r1, F1, ρ, M1, _, a1, q1.2, fun vs H2 F2 ds M2 e2 a2 r2 q2 => q2 ρ σ H2 F2 v vs a2 (r1.mono e2) r2 Qh (k.go (e1.trans e2))⟩⟩
theorem je_bm0 {T id : String} {name : Str} {r : V → List V → Hp → VK → Prop} (pa : PlainAttrs T) (slot : Slot T name id) (hty : typeOf (.builtin id) = pure (.type "method_descriptor")) (hm : MtR X id r)
    (h : JE X B o ρ M fun x M1 => (∀ ρ σ H F v, At X.K B ρ M1 F σ H → Dv X.K F v x → tyV X.K T v H) ∧ DRm X B r x [] M1 Q) (hbase : attributeBase o name X.env (eval o X.env) = eval o X.env := by rfl) (hline : (apos.endLine == cpos.line) = true := by rfl) : JE X B (.Call (.Attribute o name apos) [] [] cpos) ρ M Q :=
  JE.of (pe_bm0 pa slot hty hm pe_J hbase hline) fun σ H F at_ Qh k => ⟨F, ρ, M, _, at_, h, fun v H1 F1 x M1 e1 a1 r1 q1 => ⟨q1.1 _ _ _ _ _ a1 r1, q1.2 ρ σ H1 F1 v [] a1 r1 .nil Qh (k.go e1)⟩⟩
theorem ty_list {k : Nat} {p : Addr} {xs : List D} (hk : M[k]? = some (p, .lst xs)) : ∀ ρ σ H F v, At X.K B ρ M F σ H → Dv X.K F v (.ref p) → tyV X.K "list" v H := fun ρ σ H F v a r => by
  cases r
  obtain ⟨_, vs, h1, _⟩ := a.ow.ok _ (List.mem_of_getElem? hk)
  exact .inl ⟨rfl, vs, .inl (.inl h1)⟩
theorem mem_at (at_ : ∃ F σ H, At X.K B ρ M F σ H) {k : Nat} {p : Addr} {c : Cl} (hk : M[k]? = some (p, c)) : True := trivial
/-- xs.append(e) -/
theorem je_append (h : JE X B o ρ M fun x M1 => ∃ (k : Nat) (p : Addr) (xs : List D), x = .ref p ∧ M1[k]? = some (p, Cl.lst xs) ∧ JE X B e ρ M1 fun d M2 => ∃ (k2 : Nat) (ys : List D), M2[k2]? = some (p, Cl.lst ys) ∧ ys.length < sizeLine ∧ Q .non (M2.set k2 (p, Cl.lst (ys ++ [d]))))
    (hbase : attributeBase o "append" X.env (eval o X.env) = eval o X.env := by rfl)
    (hfew : ((backTo cpos (starEach [e] X.env)).all (fun x => !x.1) && (backToKw cpos (keywordEach [] X.env)).all (fun x => x.1.isSome) && decide ([e].length + ([] : List Keyword).length + (if ([] : List Keyword).isEmpty then 0 else 1) < 30)) = true := by rfl)
    (hline : (apos.endLine == cpos.line) = true := by rfl) (hs : starEach [e] X.env = (false, eval e X.env) :: starEach [] X.env := by exact se_cons rfl) (hplain : (backTo cpos (starEach [] X.env)).any (·.1) = false := by exact se_any rfl) : JE X B (.Call (.Attribute o "append" apos) [e] [] cpos) ρ M Q :=
  je_bm PySem.F.plainAttrs_list PySem.F.slot_list_append PySem.F.type_list_append mt_append (h.imp fun x M1 ⟨k, p, xs, ex, hk, h2⟩ => by
    subst ex
    refine ⟨ty_list hk, ja_cons (h2.imp fun d M2 ⟨k2, ys, hk2, hz, q⟩ => ja_nil ?_) hs⟩
    intro ρ σ H F v vs at_ rv r Qh kk
    cases rv
    obtain ⟨w, rfl, rw'⟩ := r.one
    obtain ⟨_, us, h1, h3⟩ := at_.ow.ok _ (List.mem_of_getElem? hk2)
    exact ⟨p, us, w, rfl, rfl, h1, by rw [h3.length]; exact hz, kk _ _ _ _ _ (Same.refl _) (at_.write hk2 (c' := .lst (ys ++ [d])) ⟨_, upd_same, h3.append (.cons rw' .nil)⟩) .non q⟩) hbase hfew hline hs hplain
/-- xs.pop() -/
theorem je_pop (h : JE X B o ρ M fun x M1 => ∃ (k : Nat) (p : Addr) (xs : List D) (d : D), x = .ref p ∧ M1[k]? = some (p, Cl.lst xs) ∧ xs[xs.length - 1]? = some d ∧ Q d (M1.set k (p, Cl.lst xs.dropLast)))
    (hbase : attributeBase o "pop" X.env (eval o X.env) = eval o X.env := by rfl) (hline : (apos.endLine == cpos.line) = true := by rfl) : JE X B (.Call (.Attribute o "pop" apos) [] [] cpos) ρ M Q :=
  je_bm0 PySem.F.plainAttrs_list PySem.F.slot_list_pop PySem.F.type_list_pop mt_pop (h.imp fun x M1 ⟨k, p, xs, d, ex, hk, hd, q⟩ => by
    subst ex
    refine ⟨ty_list hk, ?_⟩
    intro ρ σ H F v vs at_ rv r Qh kk
    cases rv
    cases r
    obtain ⟨_, us, h1, h3⟩ := at_.ow.ok _ (List.mem_of_getElem? hk)
    obtain ⟨w, hw, rw'⟩ := h3.get hd
    refine ⟨p, us, w, rfl, rfl, h1, by rw [h3.length]; exact hw, kk _ _ _ _ _ (Same.refl _) (at_.write hk (c' := .lst xs.dropLast) ⟨_, upd_same, ?_⟩) rw' q⟩
    rw [List.dropLast_eq_take, List.dropLast_eq_take, h3.length]
    exact h3.take _) hbase hline
/-- xs.pop(i) -/
theorem je_popAt (h : JE X B o ρ M fun x M1 => ∃ (k : Nat) (p : Addr) (xs : List D), x = .ref p ∧ M1[k]? = some (p, Cl.lst xs) ∧ JE X B e ρ M1 fun y M2 => ∃ (k2 : Nat) (ys : List D) (i : Int) (j : Nat) (d : D), y = .int i ∧ M2[k2]? = some (p, Cl.lst ys) ∧ -(2 ^ 63) ≤ i ∧ i < 2 ^ 63 ∧ seqIndex? i ys.length = some j ∧ ys[j]? = some d ∧ Q d (M2.set k2 (p, Cl.lst (ys.eraseIdx j))))
    (hbase : attributeBase o "pop" X.env (eval o X.env) = eval o X.env := by rfl)
    (hfew : ((backTo cpos (starEach [e] X.env)).all (fun x => !x.1) && (backToKw cpos (keywordEach [] X.env)).all (fun x => x.1.isSome) && decide ([e].length + ([] : List Keyword).length + (if ([] : List Keyword).isEmpty then 0 else 1) < 30)) = true := by rfl)
    (hline : (apos.endLine == cpos.line) = true := by rfl) (hs : starEach [e] X.env = (false, eval e X.env) :: starEach [] X.env := by exact se_cons rfl) (hplain : (backTo cpos (starEach [] X.env)).any (·.1) = false := by exact se_any rfl) : JE X B (.Call (.Attribute o "pop" apos) [e] [] cpos) ρ M Q :=
  je_bm PySem.F.plainAttrs_list PySem.F.slot_list_pop PySem.F.type_list_pop mt_popAt (h.imp fun x M1 ⟨k, p, xs, ex, hk, h2⟩ => by
    subst ex
    refine ⟨ty_list hk, ja_cons (h2.imp fun d M2 ⟨k2, ys, i, j, z, ez, hk2, b1, b2, hj, hz, q⟩ => ja_nil ?_) hs⟩
    subst ez
    intro ρ σ H F v vs at_ rv r Qh kk
    cases rv
    obtain ⟨w, rfl, rw'⟩ := r.one
    cases rw'
    obtain ⟨_, us, h1, h3⟩ := at_.ow.ok _ (List.mem_of_getElem? hk2)
    obtain ⟨u, hu, ru⟩ := h3.get hz
    exact ⟨p, us, i, j, u, rfl, rfl, h1, b1, b2, by rw [h3.length]; exact hj, hu, kk _ _ _ _ _ (Same.refl _) (at_.write hk2 (c' := .lst (ys.eraseIdx j)) ⟨_, upd_same, h3.eraseIdx j⟩) ru q⟩) hbase hfew hline hs hplain
/-- xs[i] = d, xs owned -/
theorem jg_ix (h : JE X B a ρ M fun x M1 => JE X B b ρ M1 fun y M2 => ∃ (k : Nat) (p : Addr) (xs : List D) (n : Int) (j : Nat), x = .ref p ∧ y = .int n ∧ M2[k]? = some (p, Cl.lst xs) ∧ ixN xs.length n = some j ∧ Qg ρ (M2.set k (p, Cl.lst (xs.set j d))))
    (ha : ∀ v, assign (.Subscript a b pos) X.env v = (do
      let ov ← holding [v] (eval a X.env)
      let iv ← holding [v, ov] (eval b X.env)
      standAt pos
      holding [v, ov, iv] (setItem ov iv v)
      release [v, ov, iv] []) := by intro _; rfl) : JG X B (.Subscript a b pos) [] d ρ M Qg :=
  JG.of (pg_sub pe_J pe_J set_list ha) fun σ H F v at_ dv Qh k => ⟨F, ρ, M, _, at_, h, fun vo H1 F1 x M1 e1 a1 r1 q1 => ⟨F1, ρ, M1, _, a1, q1, fun vi H2 F2 y M2 e2 a2 r2 q2 => by
    obtain ⟨kk, p, xs, n, j, rfl, rfl, hk, hj, q⟩ := q2
    cases r1
    cases r2
    obtain ⟨_, us, h1, h3⟩ := a2.ow.ok _ (List.mem_of_getElem? hk)
    exact ⟨p, us, n, j, rfl, rfl, h1, by rw [h3.length]; exact hj, k _ _ _ _ _ (e1.trans e2) (a2.write hk (c' := .lst (xs.set j d)) ⟨_, upd_same, DvL.set ((dv.mono e1).mono e2) j h3⟩) KeepW.refl q⟩⟩⟩
/-- the item of a list by values -/
def rGetL (K : PySem.W.Frag) : V → V → Hp → VK → Prop := fun o i H Qh => ∃ p xs n v, o = .ref p ∧ i = .int n ∧ 0 ≤ n ∧ SqL K H p xs ∧ xs[n.toNat]? = some v ∧ Qh v H
theorem get_list : PGet X (rGetL X.K) := by
  intro pins s σ H o i ov iv Qh I ro ri h
  obtain ⟨p, xs, n, v, rfl, rfl, h0, hq, hv, q⟩ := h
  cases ro
  obtain ⟨t, rfl⟩ := ri
  obtain ⟨its, r, pl, hz⟩ := I.list hq
  obtain ⟨w, hw, rw'⟩ := r.get hv
  have hn : n.toNat < xs.length := (List.getElem?_eq_some_iff.mp hv).1
  have := line63
  exact wpAny_getItem_list pl.isList h0 (by omega) (by simpa using hw) ⟨v, H, I, rw', q⟩
/-- xs[i] += e and the like, ints in an owned list -/
theorem js_augIx {op : Operator} {f : Int → Int → Int} (hp : PIp X op (ipI f)) (h : JE X B a ρ M fun x M1 => JE X B b ρ M1 fun y M2 => ∃ (k : Nat) (p : Addr) (xs : List D) (n : Int) (m : Int), x = .ref p ∧ y = .int n ∧ M2[k]? = some (p, Cl.lst xs) ∧ 0 ≤ n ∧ xs[n.toNat]? = some (.int m) ∧
      JE X B e ρ M2 fun z M3 => ∃ (i : Int) (k3 : Nat) (ys : List D), z = .int i ∧ M3[k3]? = some (p, Cl.lst ys) ∧ n.toNat < ys.length ∧ P.nx ρ (M3.set k3 (p, Cl.lst (ys.set n.toNat (.int (f m i))))))
    (ha : ∀ ov iv new, augStore b ov iv new = (do holding [new, ov, iv] (setItem ov iv new); release [new, ov, iv] []; pure .next) := by intros; rfl) : JS X B (.AugAssign (.Subscript a b p2) op e pos) ρ M P :=
  JS.of (ps_augS pe_J pe_J get_list pe_J hp set_list ha) fun σ H F at_ E k => ⟨F, ρ, M, _, at_, h, fun vo H1 F1 x M1 e1 a1 r1 q1 => ⟨F1, ρ, M1, _, a1, q1, fun vi H2 F2 y M2 e2 a2 r2 q2 => by
    obtain ⟨kk, p, xs, n, m, rfl, rfl, hk, h0, hm, h⟩ := q2
    cases r1
    cases r2
    obtain ⟨_, us, h1, h3⟩ := a2.ow.ok _ (List.mem_of_getElem? hk)
    obtain ⟨u, hu, ru⟩ := h3.get hm
    cases ru
    refine ⟨p, us, n, _, rfl, rfl, h0, .inl (.inl h1), hu, F2, ρ, M2, _, a2, h, fun vz H3 F3 z M3 e3 a3 r3 q3 => ?_⟩
    obtain ⟨i, k3, ys, rfl, hk3, hl, q⟩ := q3
    cases r3
    obtain ⟨_, ws, g1, g3⟩ := a3.ow.ok _ (List.mem_of_getElem? hk3)
    refine ⟨m, i, rfl, rfl, p, ws, n, n.toNat, rfl, rfl, g1, ?_, k.nx _ _ _ _ _ ((e1.trans e2).trans e3) (a3.write hk3 (c' := .lst (ys.set n.toNat (.int (f m i)))) ⟨_, upd_same, DvL.set (.int _) _ g3⟩) q⟩
    unfold ixN
    rw [if_pos h0, if_pos (by rw [g3.length]; omega)]⟩⟩

/-! ### slices -/
def cutD {α : Type} (xs : List α) (lo hi : Option Int) : List α := (xs.drop (HT.sIx xs.length 0 lo)).take (HT.sIx xs.length xs.length hi - HT.sIx xs.length 0 lo)
theorem DvL.cut {K : PySem.W.Frag} {F : Hp} {vs : List V} {ds : List D} (h : DvL K F vs ds) (lo hi : Option Int) : DvL K F (cutV vs lo hi) (cutD ds lo hi) := by
  unfold cutV cutD
  rw [h.length]
  exact (h.drop _).take _
/-- a part of a slice -/
def JO (X : Cx) (B : Bs) (e : Option Expr) (ρ : Ev) (M : Mem) (Q : Option Int → Mem → Prop) : Prop := match e with
  | none => Q none M
  | some e => JE X B e ρ M fun d M1 => ∃ i, d = .int i ∧ Q (some i) M1
def tJO (X : Cx) (B : Bs) (e : Option Expr) : TO := fun σ H Qh => ∃ F ρ M Q, At X.K B ρ M F σ H ∧ JO X B e ρ M Q ∧ ∀ o H' F' M', Same F F' → At X.K B ρ M' F' σ H' → Q o M' → Qh o H'
theorem po_J : ∀ {e : Option Expr}, PO X e (tJO X B e)
  | none => ⟨fun pins s σ H Qh I ⟨F, ρ, M, Q, a, h, k⟩ => po_none.run pins s σ H Qh I (k _ _ _ _ (Same.refl _) a h)⟩
  | some e => ⟨fun pins s σ H Qh I ⟨F, ρ, M, Q, a, h, k⟩ => (po_some (te := tJ X B e) pe_J).run pins s σ H Qh I ⟨F, ρ, M, _, a, h, fun v H' F' d M' e' a' dv q => by
      obtain ⟨i, rfl, q⟩ := q
      cases dv
      exact ⟨i, rfl, k _ _ _ _ e' a' q⟩⟩⟩
theorem je_slice {lo hi : Option Expr} {r : V → Option Int → Option Int → Hp → VK → Prop} (hr : SlR X r) (h : JE X B e ρ M fun x M1 => JO X B lo ρ M1 fun l M2 => JO X B hi ρ M2 fun u M3 => DR1 X B (fun v H Qh => r v l u H Qh) x M3 Q) : JE X B (.Subscript e (.Slice lo hi none p2) pos) ρ M Q :=
  JE.of (pe_slice hr pe_J (po_J (B := B)) (po_J (B := B))) fun σ H F at_ Qh k => ⟨F, ρ, M, _, at_, h, fun v H1 F1 x M1 e1 a1 r1 q1 => ⟨F1, ρ, M1, _, a1, q1, fun l H2 F2 M2 e2 a2 q2 => ⟨F2, ρ, M2, _, a2, q2, fun u H3 F3 M3 e3 a3 q3 =>
    q3 ρ σ H3 F3 v a3 ((r1.mono e2).mono e3) Qh (k.go ((e1.trans e2).trans e3))⟩⟩⟩
/-- t[lo:hi], a tuple -/
theorem d1_slT {x : D} {l u : Option Int} (h : ∃ xs, x = .tup xs ∧ Q (.tup (cutD xs l u)) M) : DR1 X B (fun v H Qh => rSlA X.K v l u H Qh) x M Q := by
  intro ρ σ H F v at_ rv Qh k
  obtain ⟨xs, rfl, q⟩ := h
  cases rv with
  | tup h1 h2 =>
    rename_i p vs
    refine ⟨p, vs, rfl, sqT_mono at_.fh h1, fun w => ?_, fun w p' hp' => ?_⟩
    · have e : cutD xs l u = xs := by
        rw [h2.length] at w
        unfold cutD
        rw [w.1, w.2, List.drop_zero, Nat.sub_zero, List.take_length]
      rw [e] at q
      exact k _ _ _ _ _ (Same.refl _) at_ (.tup h1 h2) q
    · exact k _ _ _ _ _ (at_.newF hp' _).2 (at_.newF hp' _).1 (.tup (.inl (.inl upd_same)) ((h2.cut l u).mono (at_.newF hp' _).2)) q
/-- xs[lo:hi], a list: a new one, as data -/
theorem d1_slL {x : D} {l u : Option Int} (h : ∃ xs, SqLs M x xs ∧ Q (.lst (cutD xs l u)) M) : DR1 X B (fun v H Qh => rSlL X.K v l u H Qh) x M Q := by
  intro ρ σ H F v at_ rv Qh k
  obtain ⟨xs, hs, q⟩ := h
  obtain ⟨p, vs, rfl, hq, r⟩ := hs.at at_ rv
  exact ⟨p, vs, rfl, hq, fun p' hp' => k _ _ _ _ _ (at_.newF hp' _).2 (at_.newF hp' _).1 (.lst (.inl upd_same) ((r.cut l u).mono (at_.newF hp' _).2)) q⟩
theorem d1_slLO {x : D} {l u : Option Int} (h : ∃ xs, SqLs M x xs ∧ ∀ p, Q (.ref p) (M ++ [(p, Cl.lst (cutD xs l u))])) : DR1 X B (fun v H Qh => rSlL X.K v l u H Qh) x M Q := by
  intro ρ σ H F v at_ rv Qh k
  obtain ⟨xs, hs, q⟩ := h
  obtain ⟨p, vs, rfl, hq, r⟩ := hs.at at_ rv
  exact ⟨p, vs, rfl, hq, fun p' hp' => k _ _ _ _ _ (Same.refl _) (at_.newO (c := .lst _) hp' ⟨_, upd_same, r.cut l u⟩) (.ref _) (q p')⟩
/-- t[::-1] of a tuple -/
theorem adj_rev (n : Nat) : Builtin.Slice.sliceAdjust none none (-1) (n : Int) = ((n : Int) - 1, -1) := by
  unfold Builtin.Slice.sliceAdjust
  simp
theorem plc_rev (n : Nat) : Builtin.Slice.slicePlaces ((n : Int) - 1) (-1) (-1) = n := by
  unfold Builtin.Slice.slicePlaces
  rw [if_neg (by decide)]
  by_cases h : n = 0
  · subst h; rfl
  · rw [if_pos (by omega), show (-(-1) : Int) = 1 by decide, Int.ediv_one]; omega
theorem fm_congr {α β : Type} {f g : α → Option β} : ∀ {l : List α}, (∀ x ∈ l, f x = g x) → l.filterMap f = l.filterMap g
  | [], _ => rfl
  | x :: l, h => by
    rw [List.filterMap_cons, List.filterMap_cons, h x List.mem_cons_self, fm_congr fun y hy => h y (List.mem_cons_of_mem _ hy)]
theorem pick_rev (xs : Array Value) : ((List.range xs.size).filterMap fun (m : Nat) => xs[(((xs.size : Int) - 1) + (m : Int) * (-1)).toNat]?).toArray = xs.toList.reverse.toArray := by
  rw [← PySem.W.krv_pick]
  show _ = (sliceRange _ _ _ |>.filterMap (xs[·]?)).toArray
  rw [PySem.W.krv_bounds]
  show _ = ((sliceRange ((xs.size : Int) - 1) (-1) (-1)).filterMap (xs[·]?)).toArray
  rw [PySem.W.krv_sliceRange, List.filterMap_map]
  apply congrArg
  apply fm_congr
  intro m hm
  have := List.mem_range.mp hm
  show _ = xs[xs.size - 1 - m]?
  rw [show (((xs.size : Int) - 1) + (m : Int) * (-1)).toNat = xs.size - 1 - m by omega]
theorem getItem_tup_rev {prog : Program} {w : World} {A : Around} {E : Value → Shared → Prop} {s : Shared} {t sl : Addr} {items : Array Value} {vk : Value} {Qv : Value → Shared → Prop} (ht : IsTup s.heap t items) (hs : s.heap.IsSliceOf sl .none .none vk) (pk : IsPart vk (some (-1)))
    (h : Qv (.ref s.heap.objs.size) { s with heap := s.heap.push { cls := .type "tuple", data := .seq items.toList.reverse.toArray } }) (hsz : items.size ≤ sizeLine) : wpAny (model prog w) A (getItem (.ref t) (.ref sl)) Qv E s := by
  have htake : sizeOk (.seq items.toList.reverse.toArray) := by
    show items.toList.reverse.toArray.size ≤ sizeLine
    simpa using hsz
  obtain ⟨os, hos, hcs, hds⟩ := id hs
  have hTs : s.TypeIs (.ref sl) "slice" := ⟨os, hos, hcs⟩
  unfold getItem
  refine wpAny_holding ?_
  refine wpAny_bind (wpAny_sequenceKey ht.typeIs (by decide) ?_)
  refine wpAny_bind (wpAny_callSpecial?_slot (name := Str.ofString "__getitem__") ht.typeIs slot_tuple_getitem (wpAny_call_entry slot_tuple_getitem ht.typeIs entry_tuple_getitem ?_ (args_tuple_getitem _ _)))
  show wpAny _ _ (Builtin.Tuple.tupleItemsOf (.ref t) >>= _) _ _ s
  refine wpAny_bind (tupleItemsOf_ ht (wpAny_bind (wpAny_typeOf hTs ?_)))
  rw [if_pos (by decide)]
  refine wpAny_bind ?_
  unfold Builtin.Slice.sliceApplied Builtin.Slice.sliceFields
  refine wpAny_bind (wpAny_bind (wpAny_field hos hds (x := .none) rfl (wpAny_bind (wpAny_field hos hds (x := .none) rfl (wpAny_bind (wpAny_field hos hds (x := vk) rfl (wpAny_pure ?_)))))))
  refine wpAny_bind (HT.slicePart_ pk ?_)
  show wpAny _ _ (if ((-1 : Int) == 0) = true then _ else _) _ _ s
  rw [if_neg (by decide)]
  refine wpAny_bind (slicePart_none (wpAny_bind (slicePart_none (wpAny_bind (wpAny_pure ?_)))))
  show wpAny _ _ (match Builtin.Slice.sliceAdjust none none (-1) (items.size : Int) with | (lo, hi) => pure (lo, (-1 : Int), Builtin.Slice.slicePlaces lo hi (-1))) _ _ s
  rw [adj_rev]
  show wpAny _ _ (pure (((items.size : Int) - 1), (-1 : Int), Builtin.Slice.slicePlaces ((items.size : Int) - 1) (-1) (-1))) _ _ s
  rw [plc_rev]
  refine wpAny_pure ?_
  show wpAny _ _ (if ((((items.size : Int) - 1) == 0 && (-1 : Int) == 1 && items.size == items.size) = true) then _ else _) _ _ s
  rw [if_neg (by intro q; rw [Bool.and_eq_true, Bool.and_eq_true] at q; exact absurd q.1.2 (by decide)), pick_rev]
  first
    | exact wpAny_bind (m := Builtin.Tuple.tupleExact _) (wpAny_newObj_type (wpAny_pure ⟨_, rfl, wpAny_pure h⟩) htake)
    | exact wpAny_bind (m := Builtin.Tuple.tupleExact _) (wpAny_newObj_type (wpAny_bind (wpAny_pure (wpAny_pure ⟨_, rfl, wpAny_pure h⟩))) htake)
    | exact wpAny_bind (wpAny_bind (m := Builtin.Tuple.tupleExact _) (wpAny_newObj_type (wpAny_pure (wpAny_pure ⟨_, rfl, wpAny_pure h⟩)) htake))
    | exact wpAny_bind (wpAny_bind (m := Builtin.Tuple.tupleExact _) (wpAny_newObj_type (wpAny_pure ⟨_, rfl, wpAny_pure h⟩) htake))
end
end J
namespace J
open PySem PySem.Spec PyProof.Rows L2
section
variable {X : Cx} {B : Bs} {e a b c o : Expr} {es tgs : List Expr} {ρ : Ev} {M : Mem} {pos p1 p2 p3 apos cpos : Pos} {Q : D → Mem → Prop} {Ql : List D → Mem → Prop} {P : Po} {d : D} {Qg : Ev → Mem → Prop} {Qi : List D → (Mem → Prop) → Mem → Prop}
/-- t[::-1], t a tuple -/
def tRevT (K : PySem.W.Frag) (te : TE) : TE := fun σ H Qh => te σ H fun x H1 => ∃ p xs, x = .ref p ∧ SqT K H1 p xs ∧ ∀ q, H1 q = none → Qh (.ref q) (upd H1 q (.tup xs.reverse))
theorem pe_revT {te : TE} {k : Nat} (he : PE X e te) : PE X (.Subscript e (.Slice none none (some (.UnaryOp .USub (.Constant (.int 1) k p1) p2)) p3) pos) (tRevT X.K te) := by
  refine ⟨fun pins s σ H Qh I h => Subscript_ (thn (he.run pins s σ H _ I h) fun v s1 ⟨x, H1, I1, r1, p, xs, ex, hx, q⟩ => ?_)⟩
  subst ex
  cases r1
  refine wpAny_Slice (thn (po_none.run pins s1 σ H1 (fun o H2 => o = none ∧ H2 = H1) I1 ⟨rfl, rfl⟩) fun vl s2 ⟨l, H2, I2, pl, el, e2⟩ => thn (po_none.run pins s2 σ H2 (fun o H3 => o = none ∧ H3 = H2) I2 ⟨rfl, rfl⟩) fun vu s3 ⟨u, H3, I3, pu, eu, e3⟩ =>
    thn ((po_some (pe_un un_neg pe_int) : PO X (some (.UnaryOp .USub (.Constant (.int 1) k p1) p2)) _).run pins s3 σ H3 (fun o H4 => o = some (-1) ∧ H4 = H3) I3 ⟨1, rfl, -1, rfl, rfl, rfl⟩) fun vs s4 ⟨o, H4, I4, ps, eo, e4⟩ => ?_)
  subst el e2 eu e3 eo e4
  have hvl : vl = .none := by cases pl; rfl
  have hvu : vu = .none := by cases pu; rfl
  subst hvl hvu
  have I5 : Inv X pins σ H4 { s4 with heap := s4.heap.push { cls := .type "slice", data := .fields #[.none, .none, vs] } } := I4.kept (t' := s4.toks) fun b ob q => Heap.get?_push_of_some _ q
  obtain ⟨its, r, ht, hz⟩ := I5.tuple hx
  have hlen := r.length
  show wpAny (model X.prog X.w) X.A (subscriptTail e (.Slice none none (some (.UnaryOp .USub (.Constant (.int 1) k p1) p2)) p3) (.ref p) (.ref s4.heap.objs.size)) (EP X pins σ Qh) X.xe { s4 with heap := s4.heap.push { cls := .type "slice", data := .fields #[.none, .none, vs] } }
  refine tail_any (ops := [.ref p, .ref s4.heap.objs.size]) ht.typeIs (slot_tuple_getitem.lookup) (getItem_tup_rev ht (Heap.IsSliceOf.new ..) ps ?_ (by rw [List.size_toArray]; omega)) (by with_unfolding_all rfl)
  refine ⟨.ref _, _, I5.laid (t' := s4.toks) (o := .tup xs.reverse) (fun b ob q => Heap.get?_push_of_some _ q) (Nat.le_refl _) ⟨by rw [List.length_reverse]; exact hz, its.reverse, r.reverse, ?_⟩, rfl, q _ (I5.hok.fresh (Nat.le_refl _))⟩
  have := IsTup.new (s4.heap.push { cls := .type "slice", data := .fields #[.none, .none, vs] }) its.reverse.toArray
  simpa using this
theorem je_revT {k : Nat} (h : JE X B e ρ M fun x M1 => ∃ xs, x = .tup xs ∧ Q (.tup xs.reverse) M1) : JE X B (.Subscript e (.Slice none none (some (.UnaryOp .USub (.Constant (.int 1) k p1) p2)) p3) pos) ρ M Q :=
  JE.of (pe_revT pe_J) fun σ H F at_ Qh k => ⟨F, ρ, M, _, at_, h, fun v H1 F1 x M1 e1 a1 r1 q1 => by
    obtain ⟨xs, rfl, q⟩ := q1
    cases r1 with
    | tup h1 h2 => exact ⟨_, _, rfl, sqT_mono a1.fh h1, fun q' hq' => k _ _ _ _ _ (e1.trans (a1.newF hq' _).2) (a1.newF hq' _).1 (.tup (.inl (.inl upd_same)) (h2.reverse.mono (a1.newF hq' _).2)) q⟩⟩
theorem je_revL {k : Nat} (h : JE X B e ρ M fun x M1 => ∃ xs, SqLs M1 x xs ∧ Q (.lst xs.reverse) M1) : JE X B (.Subscript e (.Slice none none (some (.UnaryOp .USub (.Constant (.int 1) k p1) p2)) p3) pos) ρ M Q :=
  JE.of (pe_revL pe_J) fun σ H F at_ Qh k => ⟨F, ρ, M, _, at_, h, fun v H1 F1 x M1 e1 a1 r1 q1 => by
    obtain ⟨xs, hs, q⟩ := q1
    obtain ⟨p, vs, rfl, hq, r⟩ := hs.at a1 r1
    exact ⟨_, _, rfl, hq, fun q' hq' => k _ _ _ _ _ (e1.trans (a1.newF hq' _).2) (a1.newF hq' _).1 (.lst (.inl upd_same) (r.reverse.mono (a1.newF hq' _).2)) q⟩⟩
/-- *e among items -/
theorem ja_star (h : JE X B e ρ M fun d M1 => ∃ xs, Sq M1 d xs ∧ JA X B es ρ M1 fun ds M2 => Ql (xs ++ ds) M2) (hs : starEach (.Starred e p1 :: es) X.env = (true, eval e X.env) :: starEach es X.env := by rfl) : JA X B (.Starred e p1 :: es) ρ M Ql :=
  JA.of (StX.pa_star pe_J pa_J hs) fun σ H F at_ Qh k => ⟨F, ρ, M, _, at_, h, fun v H1 F1 d M1 e1 a1 r1 q1 => by
    obtain ⟨xs, hs, q⟩ := q1
    obtain ⟨p, vs, rfl, hq, r⟩ := hs.at a1 r1
    exact ⟨p, vs, rfl, hq.symm, F1, ρ, M1, _, a1, q, fun ws H2 F2 ds M2 e2 a2 r2 q2 => k _ _ _ _ _ (e1.trans e2) a2 ((r.mono e2).append r2) q2⟩⟩
/-! lists: +, * -/
theorem rd_at {pins : List (Addr × Obj)} {σ : L2.St} {H : Hp} {s : Shared} {l : Addr} {xs : List V} (I : Inv X pins σ H s) (h : Rd H l (.lst xs)) : xs.length ≤ sizeLine ∧ ∃ (its : List Value) (n : Nat), Vals xs its ∧ s.heap.get? l = some { cls := .type "list", data := .seq its.toArray n } := h.ok I.hok
def rCatR : R2 := fun x y H Qh => ∃ l b xs zs, x = .ref l ∧ y = .ref b ∧ Rd H l (.lst xs) ∧ Rd H b (.lst zs) ∧ xs.length + zs.length ≤ sizeLine ∧ ∀ p, H p = none → Qh (.ref p) (upd H p (.lst (xs ++ zs)))
theorem op_catR : OpR X (binaryOp .Add) rCatR := by
  intro pins s σ H x y v u Qh I rx ry ⟨l, b, xs, zs, ex, ey, hl, hb, hz, q⟩
  subst ex ey
  cases rx
  cases ry
  obtain ⟨z1, i1, n1, r1, g1⟩ := rd_at I hl
  obtain ⟨z2, i2, n2, r2, g2⟩ := rd_at I hb
  refine PySem.P.add_list g1 g2 ?_ (by rw [List.size_toArray, List.size_toArray, ← r1.length, ← r2.length]; exact hz)
  rw [show i1.toArray ++ i2.toArray = (i1 ++ i2).toArray by simp]
  exact ⟨.ref _, _, I.lnew (t' := s.toks) (r1.append r2) (by rw [List.length_append]; exact hz), rfl, q _ I.fresh⟩
inductive SqLr (M : Mem) : D → List D → Prop
  | lst (xs : List D) : SqLr M (.lst xs) xs
  | own {k : Nat} {p : Addr} {xs : List D} (h : M[k]? = some (p, .lst xs)) : SqLr M (.ref p) xs
theorem SqLr.rd {K : PySem.W.Frag} {ρ : Ev} {F H : Hp} {σ : L2.St} {d : D} {xs : List D} {v : V} (h : SqLr M d xs) (a : At K B ρ M F σ H) (r : Dv K F v d) : ∃ p vs, v = .ref p ∧ Rd H p (.lst vs) ∧ DvL K F vs xs := by
  cases h with
  | lst => cases r with | lst h1 h2 => exact ⟨_, _, rfl, rd_mono a.fh h1, h2⟩
  | own h =>
    cases r
    obtain ⟨_, vs, h1, h2⟩ := a.ow.ok _ (List.mem_of_getElem? h)
    exact ⟨_, vs, rfl, .inl h1, h2⟩
/-- xs + ys of lists, as data -/
theorem je_cat (h : JE X B a ρ M fun x M1 => JE X B b ρ M1 fun y M2 => ∃ xs ys, SqLr M2 x xs ∧ SqLr M2 y ys ∧ xs.length + ys.length ≤ sizeLine ∧ Q (.lst (xs ++ ys)) M2) : JE X B (.BinOp a .Add b pos) ρ M Q :=
  je_op op_catR (h.imp fun x M1 h => h.imp fun y M2 h ρ σ H F v u at_ rv ru Qh k => by
    obtain ⟨xs, ys, hx, hy, hz, q⟩ := h
    obtain ⟨p, vs, rfl, hq, r1⟩ := hx.rd at_ rv
    obtain ⟨p', ws, rfl, hq', r2⟩ := hy.rd at_ ru
    exact ⟨p, p', vs, ws, rfl, rfl, hq, hq', by rw [r1.length, r2.length]; exact hz, fun l hl => k _ _ _ _ _ (at_.newF hl _).2 (at_.newF hl _).1 (.lst (.inl upd_same) ((r1.append r2).mono (at_.newF hl _).2)) q⟩)
theorem je_catO (h : JE X B a ρ M fun x M1 => JE X B b ρ M1 fun y M2 => ∃ xs ys, SqLr M2 x xs ∧ SqLr M2 y ys ∧ xs.length + ys.length ≤ sizeLine ∧ ∀ p, Q (.ref p) (M2 ++ [(p, Cl.lst (xs ++ ys))])) : JE X B (.BinOp a .Add b pos) ρ M Q :=
  je_op op_catR (h.imp fun x M1 h => h.imp fun y M2 h ρ σ H F v u at_ rv ru Qh k => by
    obtain ⟨xs, ys, hx, hy, hz, q⟩ := h
    obtain ⟨p, vs, rfl, hq, r1⟩ := hx.rd at_ rv
    obtain ⟨p', ws, rfl, hq', r2⟩ := hy.rd at_ ru
    exact ⟨p, p', vs, ws, rfl, rfl, hq, hq', by rw [r1.length, r2.length]; exact hz, fun l hl => k _ _ _ _ _ (Same.refl _) (at_.newO (c := .lst (xs ++ ys)) hl ⟨_, upd_same, r1.append r2⟩) (.ref _) (q l)⟩)
/-- [d] * n, a list of one's own -/
theorem je_repO (h : JE X B a ρ M fun x M1 => JE X B b ρ M1 fun y M2 => ∃ (k : Nat) (p : Addr) (xs : List D) (n : Int), x = .ref p ∧ y = .int n ∧ M2[k]? = some (p, Cl.lst xs) ∧ -(2 ^ 63) ≤ n ∧ n < 2 ^ 63 ∧ xs.length * n.toNat ≤ sizeLine ∧
    ∀ p', Q (.ref p') (M2 ++ [(p', Cl.lst (List.replicate n.toNat xs).flatten)])) : JE X B (.BinOp a .Mult b pos) ρ M Q :=
  je_op op_rep (h.imp fun x M1 h => h.imp fun y M2 h ρ σ H F v u at_ rv ru Qh k => by
    obtain ⟨kk, p, xs, n, rfl, rfl, hk, b1, b2, hz, q⟩ := h
    cases rv
    cases ru
    obtain ⟨_, vs, h1, h2⟩ := at_.ow.ok _ (List.mem_of_getElem? hk)
    exact ⟨p, n, vs, rfl, rfl, h1, b1, b2, by rw [h2.length]; exact hz, fun l hl => k _ _ _ _ _ (Same.refl _) (at_.newO (c := .lst (List.replicate n.toNat xs).flatten) hl ⟨_, upd_same, h2.rep n.toNat⟩) (.ref _) (q l)⟩)
/-- .. as data -/
theorem je_rep (h : JE X B a ρ M fun x M1 => JE X B b ρ M1 fun y M2 => ∃ (k : Nat) (p : Addr) (xs : List D) (n : Int), x = .ref p ∧ y = .int n ∧ M2[k]? = some (p, Cl.lst xs) ∧ -(2 ^ 63) ≤ n ∧ n < 2 ^ 63 ∧ xs.length * n.toNat ≤ sizeLine ∧
    Q (.lst (List.replicate n.toNat xs).flatten) M2) : JE X B (.BinOp a .Mult b pos) ρ M Q :=
  je_op op_rep (h.imp fun x M1 h => h.imp fun y M2 h ρ σ H F v u at_ rv ru Qh k => by
    obtain ⟨kk, p, xs, n, rfl, rfl, hk, b1, b2, hz, q⟩ := h
    cases rv
    cases ru
    obtain ⟨_, vs, h1, h2⟩ := at_.ow.ok _ (List.mem_of_getElem? hk)
    exact ⟨p, n, vs, rfl, rfl, h1, b1, b2, by rw [h2.length]; exact hz, fun l hl => k _ _ _ _ _ (at_.newF hl _).2 (at_.newF hl _).1 (.lst (.inl upd_same) ((h2.rep n.toNat).mono (at_.newF hl _).2)) q⟩)

/-! ### repr -/
mutual
theorem D.noDict : ∀ d : D, d.py.hasDict = false
  | .non => by rw [D.py]; simp only [PyData.hasDict]
  | .bl _ => by rw [D.py]; simp only [PyData.hasDict]
  | .int _ => by rw [D.py]; simp only [PyData.hasDict]
  | .str _ => by rw [D.py]; simp only [PyData.hasDict]
  | .tup xs => by rw [D.py]; simp only [PyData.hasDict]; exact D.noDicts xs
  | .lst xs => by rw [D.py]; simp only [PyData.hasDict]; exact D.noDicts xs
  | .ty _ => by rw [D.py]; simp only [PyData.hasDict]; all_goals nofun
  | .ref _ => by rw [D.py]; simp only [PyData.hasDict]; all_goals nofun
  | .scr _ => by rw [D.py]; simp only [PyData.hasDict]; all_goals nofun
  | .dct _ => by rw [D.py]; simp only [PyData.hasDict]; all_goals nofun
  | .obj _ _ => by rw [D.py]; simp only [PyData.hasDict]; all_goals nofun
theorem D.noDicts : ∀ ds : List D, PyData.hasDictAll (D.pys ds) = false
  | [] => by rw [D.pys]; simp only [PyData.hasDictAll]
  | d :: ds => by rw [D.pys]; simp only [PyData.hasDictAll, D.noDict d, D.noDicts ds, Bool.or_self]
end
/-- the text of repr -/
def D.repr (d : D) : Str := d.py.shown
def rRepr (K : PySem.W.Frag) : List V → Hp → VK → Prop := fun xs H Qh => ∃ (p : Addr) (d : D), xs = [.ref p] ∧ Dv K H (.ref p) d ∧ d.plain = true ∧ d.py.showable = true ∧ d.py.depth ≤ 60 ∧ d.repr.length ≤ sizeLine ∧ Qh (.str d.repr) H
theorem call_reprD {k : Nat} (hr : Room k X.A) (hgd : X.A.guards = some []) : CallR X (.builtin "repr") (rRepr X.K) := by
  intro pins s σ H xs us Qh I r h
  obtain ⟨p, d, rfl, dv, pl, sh, dp, hz, q⟩ := h
  obtain ⟨as, rd⟩ := Dp.reads I d.py (.ref p) (.ref p) (dv.dp pl) rfl
  rw [Vals.ref1 r]
  have hu := hr.un
  refine repr_of_reads' rd sh (fun h => by rw [D.noDict] at h; cases h) hgd (by omega) (fun _ _ e => e) (fun h' u tk hk => ?_) hz
  exact ⟨.str d.repr, H, I.kept hk, ⟨u, rfl⟩, q⟩
theorem dn_repr {ds : List D} (h : ∃ x d, ds = [x] ∧ Vw M x d ∧ ((∃ xs, d = .tup xs) ∨ ∃ xs, d = .lst xs) ∧ d.plain = true ∧ d.py.showable = true ∧ d.py.depth ≤ 60 ∧ d.repr.length ≤ sizeLine ∧ Q (.str d.repr) M) : DRn X B (rRepr X.K) ds M Q := by
  intro ρ σ H F vs at_ r Qh k
  obtain ⟨x, d, rfl, hw, hs, pl, sh, dp, hz, q⟩ := h
  obtain ⟨v, rfl, rv⟩ := r.one
  have dv := hw.dv at_ rv
  obtain ⟨p, rfl⟩ : ∃ p, v = .ref p := by
    rcases hs with ⟨xs, rfl⟩ | ⟨xs, rfl⟩
    · cases dv; exact ⟨_, rfl⟩
    · cases dv; exact ⟨_, rfl⟩
  exact ⟨p, d, rfl, dv, pl, sh, dp, hz, k _ _ _ _ _ (Same.refl _) at_ (.str _) q⟩

/-! ### len(set(ints)), all unlike -/
theorem je_lenSet (hm : X.mg "len" = none) (hm2 : X.mg "set" = none) (hc : X.calm = true) (h : JE X B a ρ M fun x M1 => ∃ ns : List Int, SqLs M1 x (ns.map D.int) ∧ ns.Nodup ∧ ns.length ≤ 4000 ∧ Q (.int (ns.length : Nat)) M1)
    (hg : Gl X "len" := by rfl) (hg2 : Gl X "set" := by rfl) (na : starEach [a] X.env = (false, eval a X.env) :: starEach [] X.env := by exact se_cons rfl) : JE X B (.Call (.Name "len" p1) [.Call (.Name "set" p2) [a] [] p3] [] pos) ρ M Q :=
  JE.of (RZ.pe_lenSetI hg hm hg2 hm2 pe_J hc na) fun σ H F at_ Qh k => ⟨F, ρ, M, _, at_, h, fun v H1 F1 x M1 e1 a1 r1 q1 => by
    obtain ⟨ns, hs, nd, hl, q⟩ := q1
    obtain ⟨p, vs, rfl, hq, r⟩ := hs.at a1 r1
    have := r.ints
    subst this
    exact ⟨p, ns, rfl, hq, nd, hl, k _ _ _ _ _ e1 a1 (.int _) q⟩⟩

/-! ### enumerate of a tuple -/
def IteT (K : PySem.W.Frag) (a : Addr) : It :=
  ⟨fun i H => ∃ (xs : List V) (x : V), SqT K H a xs ∧ xs[i]? = some x, fun i H v H' => ∃ T x, v = .ref T ∧ H T = none ∧ H' = upd H T (.tup [.int (i : Nat), x]) ∧ ∀ xs, SqT K H a xs → xs[i]? = some x, fun i H => ∃ xs : List V, SqT K H a xs ∧ xs.length = i⟩
theorem turn_enumT {P : Program} {w : World} {K : PySem.W.Frag} {elts : List Expr} {kk : Nat} {tpos : Pos} (a e it : Addr) (hne : e ≠ it) (hae : a ≠ it) :
    Turn P w K (.Tuple elts kk tpos) (IteT K a) [e, it] e (fun i h => (∃ old, IsEnum h e it ((i : Nat) : Int) old) ∧ h.IsTupleIter it a i ∧ a ≠ e) where
  mem := List.mem_cons_self
  obj := fun i h st b hb => by
    obtain ⟨⟨old, he⟩, ⟨o, ho, hc, hd⟩, _⟩ := st
    rcases List.mem_cons.mp hb with rfl | hb
    · exact ⟨_, he, fun v q => nomatch q⟩
    · rw [List.mem_singleton.mp hb]; exact ⟨o, ho, fun v q => by rw [hd] at q; cases q⟩
  keep := fun i h h' st k => ⟨let ⟨old, he⟩ := st.1; ⟨old, k e List.mem_cons_self _ he⟩, st.2.1.at fun o q => k it (by simp) o q, st.2.2⟩
  item := by
    intro X hP hw hK hc i pins s σ H E I hf st hg
    subst hP hw hK
    obtain ⟨⟨old, he⟩, hit, hae2⟩ := st
    obtain ⟨xs, x, hq, hx⟩ := hg
    obtain ⟨its, rv, p, hz⟩ := I.tuple hq
    have hl := rv.length
    have hi : i < its.toArray.size := by
      have := (List.getElem?_eq_some_iff.mp hx).1
      rw [List.size_toArray]; omega
    have hel : e < s.heap.objs.size := Heap.lt_size he
    have hil : it < s.heap.objs.size := by obtain ⟨_, q, _⟩ := id hit; exact Heap.lt_size q
    refine wpAny_pyNext_enum_itemC (Draws.tuple (A := X.A.in1) (I.ok.hd hc) it a hae its.toArray) he ⟨hit, p⟩ hi hne (by simp [hne, Ne.symm hae2]) fun u h' tk hu ho hst' hT hsz hk => ?_
    obtain ⟨u', hu', ru⟩ := rv.get hx
    have eu : u = u' := by
      have : its[i]? = some u := by simpa using hu
      rw [hu'] at this; exact (Option.some.inj this).symm
    subst eu
    refine ⟨_, rfl, wpAny_letOwnedTupleGo_enum (s := { s with heap := h', toks := tk + 1 }) ho fun h'' he' sb => ?_⟩
    have hT2 : h''.get? s.heap.objs.size = some { cls := .type "tuple", data := .seq #[.int (i : Nat) tk, u] } := (sb.2 _ (Nat.ne_of_gt hel)).trans hT
    have I1 : Inv X pins σ (upd H s.heap.objs.size (.tup [.int (i : Nat), x])) { s with heap := h'', toks := tk + 1 } :=
      I.turnedNew (ch := [e, it]) (fun b ob hb q => (sb.2 b (fun z => hb (by simp [z]))).trans (hk b ob (fun z => hb (by simp [z])) (fun z => hb (by simp [z])) q)) hf (Nat.le_refl _) ⟨by show 2 ≤ sizeLine; decide, [.int (i : Nat) tk, u], .cons ⟨_, rfl⟩ (.cons ru .nil), ⟨_, hT2, rfl, _, rfl⟩⟩
    refine ⟨.ref s.heap.objs.size, _, I1, rfl, ⟨_, x, rfl, I.hok.fresh (Nat.le_refl _), rfl, fun ys hy => by rw [I.tuple_inj hy hq]; exact hx⟩, ⟨⟨u, ?_⟩, hst'.1.at fun o q => (sb.2 it (Ne.symm hne)).trans q, hae2⟩, fun b hb => ?_⟩
    · rw [show ((i + 1 : Nat) : Int) = (i : Int) + 1 by omega]; exact he'
    · have hb' : b < s.heap.objs.size := by
        rcases List.mem_cons.mp hb with z | z
        · rw [z]; exact hel
        · rw [List.mem_singleton.mp z]; exact hil
      rw [upd_ne (Nat.ne_of_lt hb')]
      exact (hf b hb).1
  done := by
    intro X hP hw hK hc i pins s σ H E I hf st hg
    subst hP hw hK
    obtain ⟨⟨old, he⟩, hit, hae2⟩ := st
    obtain ⟨xs, hq, hx⟩ := hg
    obtain ⟨its, rv, p, hz⟩ := I.tuple hq
    obtain ⟨f0, f1, f2, f3, f4, f5⟩ := hf it (by simp)
    have hl := rv.length
    have hi : i = its.toArray.size := by rw [List.size_toArray]; omega
    subst hi
    exact wpAny_pyNext_enum_endD (Draws.tuple (A := X.A.in1) (I.ok.hd hc) it a hae its.toArray) he ⟨hit, p⟩ fun h' eb => ⟨rfl, I.turned (t' := s.toks) (fun b o hb q => eb b o hb q) f0 f1 f3 f4 f5⟩
  self := fun A i s Qv E st h => let ⟨⟨_, he⟩, _⟩ := st; wpAny_pyIter_enum he h
theorem dw_enumT {K : PySem.W.Frag} {F : Hp} {p : Addr} {vs : List V} {ds : List D} (h : SqT K F p vs) (r : DvL K F vs ds) : DWalk K (IteT K p) F (fun _ => True) (enumD ds) :=
  dw_pair (f := fun i => some (.int (i : Nat))) (g := fun i => ds[i]?) (n := ds.length) (enumD_length ds) (fun i x y hi hx hy => by cases hx; exact enumD_get hy)
    (fun B ρ M F' σ H i hi a e _ => by
      have hi' : i < vs.length := by rw [r.length]; exact hi
      exact ⟨vs, vs[i], sqT_mono (e.trans a.fh) h, by simp [hi']⟩)
    (fun B ρ M F' σ H a e _ => ⟨vs, sqT_mono (e.trans a.fh) h, r.length⟩)
    (fun B ρ M F' σ H i v H' hi a e _ y => by
      obtain ⟨T, x, rfl, hT, rfl, y⟩ := y
      obtain ⟨d, hd, rv⟩ := r.getV (y vs (sqT_mono (e.trans a.fh) h))
      exact ⟨T, _, d, _, x, rfl, hT, rfl, rfl, hd, .int _, rv.mono e⟩)
def iEnumT (K : PySem.W.Frag) (ta : TA) : TI := fun σ H R => ta σ H fun vs H1 => ∃ p xs, vs = [.ref p] ∧ SqT K H1 p xs ∧ R (IteT K p) H1
theorem meets_enum1 {v : Value} {ob : Obj} {Hh : Heap → Prop} (Bg : Begins v ob Hh) : Meets (Builtin.«enumerate.__new__» ⟨[.type "enumerate", v], []⟩) (fun _ R s => Hh s.heap ∧
      R (.ok (.ret (.ref (s.heap.push ob).objs.size))) { s with heap := (s.heap.push ob).push { cls := .type "enumerate", data := .fields #[.none, .bool false, .ref s.heap.objs.size, rawInt 0, .none, .none] } }) :=
  .of_wp fun prog w A R s h => by
    obtain ⟨hp, g, d, tk, os⟩ := s
    obtain ⟨h1, h⟩ := h
    have hsub := sub_enumerate
    have q1 : ∀ {A' : Around} {E : Value → Shared → Prop} {Q : Value → Shared → Prop}, Q (.ref hp.objs.size) ⟨hp.push ob, g, d, tk, os⟩ → wpAny (model prog w) A' (pyIter v) Q E ⟨hp, g, d, tk, os⟩ :=
      fun q => Bg.iter prog w _ _ ⟨hp, g, d, tk, os⟩ _ h1 q
    wp_walk using q1
    refine wpAny_stack_any fun st => wpAny_pure ?_
    split
    case _ c _ _ _ _ _ => cases hcc : (c == Value.type "enumerate") <;> (wp_walk using q1; exact ⟨_, rfl, h⟩)
    case _ => (wp_walk using q1; exact ⟨_, rfl, h⟩)
theorem call_enum1 {prog : Program} {w : World} {A : Around} {E : Value → Shared → Prop} {s : Shared} {v : Value} {ob : Obj} {Hh : Heap → Prop} {Qv : Value → Shared → Prop} (Bg : Begins v ob Hh) (h1 : Hh s.heap)
    (h : ∀ h', IsEnum h' (s.heap.objs.size + 1) s.heap.objs.size 0 .none → h'.get? s.heap.objs.size = some ob → (∀ b o, s.heap.get? b = some o → h'.get? b = some o) → Qv (.ref (s.heap.objs.size + 1)) { s with heap := h' }) :
    wpAny (model prog w) A (call (.type "enumerate") [v]) Qv E s := by
  refine callType_new F.called_enumerate (by decide) (F.typeCall_enumerate_1 _) (F.newCall_enumerate_1 _) (fun obj => F.args_object_init_2 obj _) F.entry_enumerate_new (meets_enum1 Bg) ⟨h1, ?_⟩
  have hz : (s.heap.push ob).objs.size = s.heap.objs.size + 1 := Heap.size_push ..
  have he := Heap.get?_push_size (s.heap.push ob) (o := { cls := .type "enumerate", data := .fields #[.none, .bool false, .ref s.heap.objs.size, rawInt 0, .none, .none] }) rfl
  show _ ∧ _
  rw [hz] at he ⊢
  exact ⟨⟨_, he, rfl⟩, h _ he (Heap.get?_push_of_some _ (Heap.get?_push_size _ Bg.free)) fun b o x => Heap.get?_push_of_some _ (Heap.get?_push_of_some _ x)⟩
theorem pi_enumT {ta : TA} {elts : List Expr} {kk : Nat} {tpos : Pos} (hm : X.mg "enumerate" = none) (ha : PA X [e] ta) (hg : Gl X "enumerate" := by rfl) (hs : starEach [e] X.env = [(false, eval e X.env)] := by rfl) :
    PI X (.Tuple elts kk tpos) (.Call (.Name "enumerate" p1) [e] [] pos) (iEnumT X.K ta) := by
  refine ⟨fun pins s σ H R I h => Call_ (ld_blt I hg hm boot_enumerate (PyProof.Rows.callWith_type1 (thn (ha.run pos pins s σ H _ I h) fun us s1 ⟨vs, H1, I1, r1, a, xs, ex, hq, q⟩ => ?_) hs rfl))⟩
  subst ex
  rw [Vals.ref1 r1]
  obtain ⟨its, rv, p', hz⟩ := I1.tuple hq
  refine call_enum1 (begins_tuple a its.toArray) p' fun h' he hit hk => wpAny_pyIter_enum he ?_
  have I2 : Inv X pins σ H1 { s1 with heap := h' } := I1.kept (t' := s1.toks) hk
  have hal : a < s1.heap.objs.size := by obtain ⟨o, ho, _⟩ := id p'; exact Heap.lt_size ho
  refine ⟨s1.heap.objs.size + 1, [s1.heap.objs.size + 1, s1.heap.objs.size], _, _, H1, rfl, I2, turn_enumT a (s1.heap.objs.size + 1) s1.heap.objs.size (Nat.succ_ne_self _) (Nat.ne_of_lt hal), ⟨⟨.none, he⟩, ⟨_, hit, rfl, rfl⟩, Nat.ne_of_lt (Nat.lt_succ_of_lt hal)⟩, fun b hb => ?_, q⟩
  have hle : s1.heap.objs.size ≤ b := by
    rcases List.mem_cons.mp hb with z | z
    · rw [z]; exact Nat.le_succ _
    · rw [List.mem_singleton.mp z]; exact Nat.le_refl _
  exact I1.fpOk hle (I1.hok.fresh hle)
theorem ji_enumT {kk : Nat} {tpos : Pos} (hm : X.mg "enumerate" = none) (h : JA X B [e] ρ M fun ds M1 => ∃ xs, ds = [.tup xs] ∧ Qi (enumD xs) (fun _ => True) M1) (hg : Gl X "enumerate" := by rfl) (hs : starEach [e] X.env = [(false, eval e X.env)] := by rfl) :
    JI X B (.Tuple tgs kk tpos) (.Call (.Name "enumerate" p2) [e] [] pos) ρ M Qi :=
  JI.of (pi_enumT hm pa_J hg hs) fun σ H F at_ R k => ⟨F, ρ, M, _, at_, h, fun vs H' F' ds M' e a' dv q => by
    obtain ⟨xs, rfl, q⟩ := q
    obtain ⟨v, rfl, rv⟩ := dv.one
    cases rv with
    | tup h1 h2 => exact ⟨_, _, rfl, sqT_mono a'.fh h1, k _ _ _ _ _ _ e a' (dw_enumT h1 h2) q⟩⟩
end
end J
namespace J
open PySem PySem.Spec PyProof.Rows L2
/-! ### the end: a law's row by the promise of its def -/
theorem run_law {P : Program} {w : World} {K : PySem.W.Frag} {mg mb : Str → Option Value} {k : Nat} {fa a : Addr} {fd : FuncData} {x : Str} {sp : DSp} {s1 : Shared} {vs : List Value} {ns : List Int}
    (KX : K.In s1.heap) (hns : s1.heap.Ns mainGlobals mg) (hb : s1.heap.Ns builtinsNs mb) (hbb : ∀ x : Str, x ≠ "__name__" → mb x = bootBuiltins x) (hlim : s1.heap.NoLimit) (hg : s1.gens = #[])
    (ha : s1.heap.get? a = some { cls := .type "list", data := .seq vs.toArray }) (hi : IntsAre vs ns) (hl : ns.length ≤ sizeLine) (hr : Room k callerA)
    (F : ∀ base : Heap, K.In base → base.Ns mainGlobals mg → FnG P w K mg base CX0 k fa fd [x] (lift K sp)) (hbind : ∀ (s : Shared) (u : Value), BindsTo s fd ⟨[u], []⟩ [(x, u)])
    (hsp : sp [.scr ns] [] fun d _ => d = .bl true) :
    codeAny (model P w) callerA (.call (.ref fa) ⟨[.ref a], []⟩) (fun r s' => r = .ok (.ret (.bool true)) ∧ OldK s1.heap s'.heap ∧ s'.os = s1.os ∧ AllBare s'.gens) s1 := by
  have rv := vals_ints hi
  have lv : vs.length ≤ sizeLine := by rw [← rv.length, List.length_map]; exact hl
  -- the heap that is tracked: the script alone, where it is no object of the module
  obtain ⟨H, hok, hone, hK, hS⟩ : ∃ H : Hp, HOk P w H s1.heap ∧ (∀ b o, H b = some o → b = a ∧ o = .frz { cls := .type "list", data := .seq vs.toArray } (.lst (ns.map V.int))) ∧ (∀ b o, K.lookup b = some o → H b = none) ∧ SqL K H a (ns.map V.int) := by
    cases hk : K.lookup a with
    | some o =>
      have e := KX a o hk
      rw [ha] at e
      cases e
      exact ⟨fun _ => none, (fun _ _ z => by cases z), (fun _ _ z => by cases z), (fun _ _ _ => rfl), .inr ⟨_, vs.toArray, _, hk, rfl, rfl, rfl, by simpa using lv, by simpa using rv⟩⟩
    | none =>
      have hat : upd (fun _ => none) a (HO.frz { cls := .type "list", data := .seq vs.toArray } (.lst (ns.map V.int))) a = some _ := upd_same
      refine ⟨_, fun b o z => ?_, fun b o z => ?_, fun b o z => ?_, .inl (.inr ⟨_, hat⟩)⟩
      · by_cases q : b = a
        · subst q
          rw [upd_same] at z
          cases z
          exact ⟨ha, by rw [List.length_map]; exact hl, vs, _, rv, ha⟩
        · rw [upd_ne q] at z; cases z
      · by_cases q : b = a
        · subst q
          rw [upd_same] at z
          cases z
          exact ⟨rfl, rfl⟩
        · rw [upd_ne q] at z; cases z
      · exact upd_ne fun q => by rw [q, hk] at z; cases z
  have at_ : ∀ b o, s1.heap.get? b = some o → H b = none → (hidT s1.heap H).get? b = some o := fun b o e n => hidT_get e n
  have dct : ∀ b o es ep, s1.heap.get? b = some o → o.data = .dict es ep → H b = none := fun b o es ep e d => by
    cases q : H b with
    | none => rfl
    | some u =>
      obtain ⟨rfl, _⟩ := hone b u q
      rw [ha] at e
      cases e
      cases d
  have nsK : ∀ {b : Addr} {m : Str → Option Value}, s1.heap.Ns b m → (hidT s1.heap H).Ns b m := fun {b m} ⟨o, es, ep, e, d, r⟩ => ⟨o, es, ep, at_ b o e (dct b o es ep e d), d, r⟩
  have hKb : K.In (hidT s1.heap H) := fun b o e => at_ b o (KX b o e) (hK b o e)
  have e0 : Env0 P w K mg (hidT s1.heap H) callerA [] s1 H := ⟨rfl, ⟨hKb, nsK hns, ⟨mb, nsK hb, hbb⟩, let ⟨mc, h1, h2⟩ := hlim; ⟨mc, nsK h1, h2⟩⟩, fun b o e => of_hidT e, Nat.le_of_eq (hidT_size _ _), trivial, fun b hb => (by cases hb), hok, .of_eq hg⟩
  have prom : lift K sp [.ref a] H (fun v _ => v = .bl true) fun _ _ _ => False :=
    ⟨H, [.scr ns], [], _, Same.refl _, ⟨List.nodup_nil, fun c hc => nomatch hc⟩, .cons (.scr hS) .nil, hsp, fun v H' F' d M' _ _ _ _ _ _ _ dv q => by
      subst q
      cases dv
      rfl⟩
  refine codeAny_mono ((F _ hKb (nsK hns)).go callerA hr rfl [] s1 H ⟨[.ref a], []⟩ [.ref a] [.ref a] _ _ e0 (hbind s1 (.ref a)) (.cons rfl .nil) prom) fun r s' h => ?_
  match r, h with
  | .error e, h => exact h.elim
  | .ok (.ret u), h =>
    obtain ⟨v, H', os, bare, un, hok', r', q⟩ := h
    have q' : v = .bl true := q
    subst q'
    obtain rfl : u = Value.bool true := r'
    refine ⟨rfl, OldK.of_keep fun b o e => ?_, os, bare⟩
    cases q : H b with
    | none => exact un.keep b o e q (by intro z; cases z) (by intro z; cases z)
    | some u =>
      obtain ⟨rfl, rfl⟩ := hone b u q
      obtain ⟨e2, _⟩ := hok' b _ (un.frzs b _ _ q)
      rw [ha] at e
      cases e
      exact e2
theorem walk_law {l : PySem.W.OpenLaw} {n k : Nat} {q : Program} {loose : List Str} {XP : (Str → Option Value) → Heap → Prop} {YP : World → Heap → Prop} {d : DefRec} {K : Params → PySem.W.Frag} {sp : World → DSp} {x : Str}
    (hn : l.most = some n) (hn2 : n ≤ sizeLine) (hdf : d.params.defaults = []) (hr : Room k callerA) (hY : ∀ (w : World) (h : Heap), YP w h → (K w.params).In h)
    (F : ∀ (w : World) (mg : Str → Option Value) (fa : Addr) (h : Heap), (K w.params).In h → h.Ns mainGlobals mg → mg d.name = some (.ref fa) →
      ∃ fd : FuncData, (∀ (s : Shared) (u : Value), BindsTo s fd ⟨[u], []⟩ [(x, u)]) ∧ ∀ base : Heap, (K w.params).In base → base.Ns mainGlobals mg → FnG l.prog w (K w.params) mg base CX0 k fa fd [x] (lift (K w.params) (sp w)))
    (hsp : ∀ (w : World) (ns : List Int), ns.length ≤ n → sp w [.scr ns] [] fun d _ => d = .bl true) : PySem.W.WalkO q loose XP YP l.row.toRowW d [] (fun f vs => PySem.call f vs) := by
  refine Att.attach_call hn hdf fun w s₀ s₁ mg mb fa o pm cd doc a vs ns G Y ho hd hcd hmg hobj hints hlen hg => ?_
  obtain ⟨fd, hb, hF⟩ := F w mg fa _ (hY w _ Y) G.T.g hmg
  exact run_law (hY w _ Y) G.T.g G.T.b G.T.builtins G.T.nolimit hg hobj hints (Nat.le_trans hlen hn2) hr hF hb (hsp w ns hlen)
end J
namespace J
open PySem PySem.Spec PyProof.Rows L2
/-- x names a def that keeps the promise sp at the level k -/
structure Has (P : Program) (w : World) (K : PySem.W.Frag) (mg : Str → Option Value) (base : Heap) (x : Str) (k : Nat) (ps : List Str) (sp : DSp) : Prop where
  ex : ∃ (f : Addr) (fd : FuncData), FnG P w K mg base CX0 k f fd ps (lift K sp) ∧ mg x = some (.ref f) ∧ PySem.W.keepIn K (.ref f) = true ∧ Binds K fd ps []
theorem Has.up {P : Program} {w : World} {K : PySem.W.Frag} {mg : Str → Option Value} {base : Heap} {x : Str} {j k : Nat} {ps : List Str} {sp : DSp} (h : Has P w K mg base x j ps sp) (hk : j ≤ k) : Has P w K mg base x k ps sp :=
  let ⟨f, fd, G, r⟩ := h.ex; ⟨f, fd, G.up hk, r⟩
theorem permI {M : Mem} : M.Perm ([] ++ M) := .refl _
theorem perm0 {M : Mem} : ([] ++ M).Perm M := .refl _
theorem permE {α : Type} {c : α} : ∀ {k : Nat} {M : List α}, M[k]? = some c → M.Perm ([c] ++ M.eraseIdx k)
  | 0, x :: M, h => by cases h; exact .refl _
  | k + 1, x :: M, h => (((permE (k := k) (M := M) h)).cons x).trans (.swap c x _)
  | _, [], h => by simp at h
theorem permS {α : Type} {c c' : α} : ∀ {k : Nat} {M : List α}, M[k]? = some c → ([c'] ++ M.eraseIdx k).Perm (M.set k c')
  | 0, x :: M, h => .refl _
  | k + 1, x :: M, h => (List.Perm.swap x c' _).trans ((permS (k := k) (M := M) (c := c) h).cons x)
  | _, [], h => by simp at h
section
variable {X : Cx} {B : Bs} {e a b c o : Expr} {es tgs : List Expr} {ρ : Ev} {M : Mem} {pos p1 p2 p3 apos cpos : Pos} {Q : D → Mem → Prop} {Ql : List D → Mem → Prop} {Qb : Bool → Mem → Prop} {P : Po} {d : D}
theorem je_callH {x : Str} {ps : List Str} {sp : DSp} {k : Nat} (G : Has X.prog X.w X.K X.mg X.base x k ps sp) (hr : Room k X.A) (hgd : X.A.guards = some []) (h : JA X B (e :: es) ρ M fun ds M1 => DCall sp ds M1 Q) (hg : Gl X x := by rfl) (hdb : (x == ("__debug__" : Str)) = false := by decide)
    (he : starEach (e :: es) X.env = (false, eval e X.env) :: starEach es X.env := by exact se_cons rfl) (hpl : (backTo pos (starEach es X.env)).any (·.1) = false := by exact se_any rfl) : JE X B (.Call (.Name x p2) (e :: es) [] pos) ρ M Q :=
  let ⟨_, _, G, hm, hk, hb⟩ := G.ex; je_call G hr hgd hm hk hb h hg hdb he hpl
theorem je_callH0 {x : Str} {ps : List Str} {sp : DSp} {k : Nat} (G : Has X.prog X.w X.K X.mg X.base x k ps sp) (hr : Room k X.A) (hgd : X.A.guards = some []) (h : DCall sp [] M Q) (hg : Gl X x := by rfl) (hdb : (x == ("__debug__" : Str)) = false := by decide) : JE X B (.Call (.Name x p2) [] [] pos) ρ M Q :=
  let ⟨_, _, G, hm, hk, hb⟩ := G.ex; je_call0 G hr hgd hm hk hb h hg hdb
/-! pure parts: one value for both ways -/
theorem je_chainP {op op' : CmpOp} {f g : Int → Int → Bool} (ho : OpR X (compareOp op) (rI0 fun i j => .bl (f i j))) (ho' : OpR X (compareOp op') (rI0 fun i j => .bl (g i j)))
    (h : JE X B a ρ M fun x M1 => JE X B b ρ M1 fun y M2 => ∃ i j l, x = .int i ∧ y = .int j ∧ JE X B c ρ M2 (fun z M3 => z = .int l ∧ M3 = M2) ∧ Q (.bl (f i j && g j l)) M2) (hm : lastMarks [op, op'] [b, c] = false := by with_unfolding_all rfl) : JE X B (.Compare a [op, op'] [b, c] pos) ρ M Q :=
  je_chain ho ho' (h.imp fun x M1 h => h.imp fun y M2 ⟨i, j, l, ex, ey, hc, q⟩ => by
    subst ex ey
    refine dr_I0 (gd := fun i j => .bl (f i j)) (fun _ _ _ => .bl _) ⟨i, j, rfl, rfl, _, rfl, fun hk => hc.imp fun z M3 ⟨ez, em⟩ => ?_, fun hk => ?_⟩
    · subst ez em
      refine dr_I0 (gd := fun i j => .bl (g i j)) (fun _ _ _ => .bl _) ⟨j, l, rfl, rfl, ?_⟩
      rw [hk, Bool.true_and] at q
      exact q
    · rw [hk, Bool.false_and] at q
      exact q) hm
theorem jt_chainP {op op' : CmpOp} {f g : Int → Int → Bool} (ho : OpR X (compareOp op) (rI0 fun i j => .bl (f i j))) (ho' : OpR X (compareOp op') (rI0 fun i j => .bl (g i j)))
    (h : JE X B a ρ M fun x M1 => JE X B b ρ M1 fun y M2 => ∃ i j l, x = .int i ∧ y = .int j ∧ JE X B c ρ M2 (fun z M3 => z = .int l ∧ M3 = M2) ∧ Qb (f i j && g j l) M2) (hm : lastMarks [op, op'] [b, c] = false := by with_unfolding_all rfl) : JT X B (.Compare a [op, op'] [b, c] pos) ρ M Qb :=
  jt_chain ho ho' (h.imp fun x M1 h => h.imp fun y M2 ⟨i, j, l, ex, ey, hc, q⟩ => by
    subst ex ey
    refine dr_I0 (gd := fun i j => .bl (f i j)) (fun _ _ _ => .bl _) ⟨i, j, rfl, rfl, _, rfl, fun hk => hc.imp fun z M3 ⟨ez, em⟩ => ?_, fun hk => ?_⟩
    · subst ez em
      refine dr_I0 (gd := fun i j => .bl (g i j)) (fun _ _ _ => .bl _) ⟨j, l, rfl, rfl, ?_⟩
      rw [hk, Bool.true_and] at q
      exact ⟨_, rfl, q⟩
    · rw [hk, Bool.false_and] at q
      exact ⟨_, rfl, q⟩) hm
theorem jt_andP (h : JT X B a ρ M fun k1 M1 => ∃ k2, (k1 = true → JW X B (.BoolOp .And (b :: es) pos) ρ M1 fun k' M' => k' = k2 ∧ M' = M1) ∧ Qb (k1 && k2) M1) : JW X B (.BoolOp .And (a :: b :: es) pos) ρ M Qb :=
  jw_and (h.imp fun k1 M1 ⟨k2, h2, q⟩ => ⟨fun hk => ⟨fun wh pins s σ H F I at_ => thn ((h2 hk).run wh pins s σ H F I at_) fun b' s' ⟨H', F', M', I', e', a', ek, em⟩ => ⟨H', F', M', I', e', a', by subst hk ek em; exact q⟩⟩, fun hk => by subst hk; exact q⟩)
theorem jt_orP (h : JT X B a ρ M fun k1 M1 => ∃ k2, (k1 = false → JW X B (.BoolOp .Or (b :: es) pos) ρ M1 fun k' M' => k' = k2 ∧ M' = M1) ∧ Qb (k1 || k2) M1) : JW X B (.BoolOp .Or (a :: b :: es) pos) ρ M Qb :=
  jw_or (h.imp fun k1 M1 ⟨k2, h2, q⟩ => ⟨fun hk => ⟨fun wh pins s σ H F I at_ => thn ((h2 hk).run wh pins s σ H F I at_) fun b' s' ⟨H', F', M', I', e', a', ek, em⟩ => ⟨H', F', M', I', e', a', by subst hk ek em; exact q⟩⟩, fun hk => by subst hk; exact q⟩)
theorem je_andP (h : JE X B a ρ M fun d M1 => ∃ k1 k2, d = .bl k1 ∧ (k1 = true → JE X B (.BoolOp .And (b :: es) pos) ρ M1 fun d' M' => d' = .bl k2 ∧ M' = M1) ∧ Q (.bl (k1 && k2)) M1) : JE X B (.BoolOp .And (a :: b :: es) pos) ρ M Q :=
  je_and (h.imp fun d M1 ⟨k1, k2, ed, h2, q⟩ => ⟨k1, ed, fun hk => (h2 hk).imp fun d' M' ⟨ed', em⟩ => by subst hk ed' em; exact q, fun hk => by subst hk; exact q⟩)
theorem je_orP (h : JE X B a ρ M fun d M1 => ∃ k1 k2, d = .bl k1 ∧ (k1 = false → JE X B (.BoolOp .Or (b :: es) pos) ρ M1 fun d' M' => d' = .bl k2 ∧ M' = M1) ∧ Q (.bl (k1 || k2)) M1) : JE X B (.BoolOp .Or (a :: b :: es) pos) ρ M Q :=
  je_or (h.imp fun d M1 ⟨k1, k2, ed, h2, q⟩ => ⟨k1, ed, fun hk => (h2 hk).imp fun d' M' ⟨ed', em⟩ => by subst hk ed' em; exact q, fun hk => by subst hk; exact q⟩)
theorem je_ifP (h : JT X B c ρ M fun k M1 => ∃ d, (k = true → JE X B a ρ M1 fun d' M' => d' = d ∧ M' = M1) ∧ (k = false → JE X B b ρ M1 fun d' M' => d' = d ∧ M' = M1) ∧ Q d M1) : JE X B (.IfExp c a b pos) ρ M Q :=
  je_if (h.imp fun k M1 ⟨d, h1, h2, q⟩ => ⟨fun hk => (h1 hk).imp fun d' M' ⟨ed', em⟩ => by subst ed' em; exact q, fun hk => (h2 hk).imp fun d' M' ⟨ed', em⟩ => by subst ed' em; exact q⟩)
/-! shorter words -/
theorem je_ltI (h : JE X B a ρ M fun x M1 => JE X B b ρ M1 fun y M2 => AI2 (fun i j => .bl (decide (i < j))) Q x y M2) : JE X B (.Compare a [.Lt] [b] pos) ρ M Q := je_cmp op_lt (mk_lt _) (h.imp fun _ _ h => h.imp fun _ _ h => dr_lt h)
theorem je_leI (h : JE X B a ρ M fun x M1 => JE X B b ρ M1 fun y M2 => AI2 (fun i j => .bl (decide (i ≤ j))) Q x y M2) : JE X B (.Compare a [.LtE] [b] pos) ρ M Q := je_cmp op_le (mk_le _) (h.imp fun _ _ h => h.imp fun _ _ h => dr_le h)
theorem je_gtI (h : JE X B a ρ M fun x M1 => JE X B b ρ M1 fun y M2 => AI2 (fun i j => .bl (decide (j < i))) Q x y M2) : JE X B (.Compare a [.Gt] [b] pos) ρ M Q := je_cmp op_gt (mk_gt _) (h.imp fun _ _ h => h.imp fun _ _ h => dr_gt h)
theorem je_geI (h : JE X B a ρ M fun x M1 => JE X B b ρ M1 fun y M2 => AI2 (fun i j => .bl (decide (j ≤ i))) Q x y M2) : JE X B (.Compare a [.GtE] [b] pos) ρ M Q := je_cmp op_ge (mk_ge _) (h.imp fun _ _ h => h.imp fun _ _ h => dr_ge h)
theorem je_eqI (h : JE X B a ρ M fun x M1 => JE X B b ρ M1 fun y M2 => AI2 (fun i j => .bl (decide (i = j))) Q x y M2) : JE X B (.Compare a [.Eq] [b] pos) ρ M Q := je_cmp op_eq (mk_eq _) (h.imp fun _ _ h => h.imp fun _ _ h => dr_eqI h)
theorem je_neI (h : JE X B a ρ M fun x M1 => JE X B b ρ M1 fun y M2 => AI2 (fun i j => .bl (!decide (i = j))) Q x y M2) : JE X B (.Compare a [.NotEq] [b] pos) ρ M Q := je_cmp op_ne (mk_ne _) (h.imp fun _ _ h => h.imp fun _ _ h => dr_neI h)
abbrev BI2 (g : Int → Int → Bool) (Q : Bool → Mem → Prop) (x y : D) (M : Mem) : Prop := ∃ i j, x = .int i ∧ y = .int j ∧ Q (g i j) M
theorem bi2 {g : Int → Int → Bool} {x y : D} (h : BI2 g Qb x y M) : AI2 (fun i j => .bl (g i j)) (asB Qb) x y M := let ⟨i, j, ex, ey, q⟩ := h; ⟨i, j, ex, ey, _, rfl, q⟩
theorem jt_ltI (h : JE X B a ρ M fun x M1 => JE X B b ρ M1 fun y M2 => BI2 (fun i j => decide (i < j)) Qb x y M2) : JT X B (.Compare a [.Lt] [b] pos) ρ M Qb := jt_cmp op_lt (mk_lt _) (h.imp fun _ _ h => h.imp fun _ _ h => dr_lt (bi2 h))
theorem jt_leI (h : JE X B a ρ M fun x M1 => JE X B b ρ M1 fun y M2 => BI2 (fun i j => decide (i ≤ j)) Qb x y M2) : JT X B (.Compare a [.LtE] [b] pos) ρ M Qb := jt_cmp op_le (mk_le _) (h.imp fun _ _ h => h.imp fun _ _ h => dr_le (bi2 h))
theorem jt_gtI (h : JE X B a ρ M fun x M1 => JE X B b ρ M1 fun y M2 => BI2 (fun i j => decide (j < i)) Qb x y M2) : JT X B (.Compare a [.Gt] [b] pos) ρ M Qb := jt_cmp op_gt (mk_gt _) (h.imp fun _ _ h => h.imp fun _ _ h => dr_gt (bi2 h))
theorem jt_geI (h : JE X B a ρ M fun x M1 => JE X B b ρ M1 fun y M2 => BI2 (fun i j => decide (j ≤ i)) Qb x y M2) : JT X B (.Compare a [.GtE] [b] pos) ρ M Qb := jt_cmp op_ge (mk_ge _) (h.imp fun _ _ h => h.imp fun _ _ h => dr_ge (bi2 h))
theorem jt_eqI (h : JE X B a ρ M fun x M1 => JE X B b ρ M1 fun y M2 => BI2 (fun i j => decide (i = j)) Qb x y M2) : JT X B (.Compare a [.Eq] [b] pos) ρ M Qb := jt_cmp op_eq (mk_eq _) (h.imp fun _ _ h => h.imp fun _ _ h => dr_eqI (bi2 h))
theorem jt_neI (h : JE X B a ρ M fun x M1 => JE X B b ρ M1 fun y M2 => BI2 (fun i j => !decide (i = j)) Qb x y M2) : JT X B (.Compare a [.NotEq] [b] pos) ρ M Qb := jt_cmp op_ne (mk_ne _) (h.imp fun _ _ h => h.imp fun _ _ h => dr_neI (bi2 h))
theorem jt_neS (h : JE X B a ρ M fun x M1 => JE X B b ρ M1 fun y M2 => ∃ i j : Str, x = .str i ∧ y = .str j ∧ Qb (!decide (i = j)) M2) : JT X B (.Compare a [.NotEq] [b] pos) ρ M Qb :=
  jt_cmp op_ne (mk_ne _) (h.imp fun _ _ h => h.imp fun _ _ ⟨i, j, ex, ey, q⟩ => dr_neS ⟨i, j, ex, ey, _, rfl, q⟩)
theorem jt_eqS (h : JE X B a ρ M fun x M1 => JE X B b ρ M1 fun y M2 => ∃ i j : Str, x = .str i ∧ y = .str j ∧ Qb (decide (i = j)) M2) : JT X B (.Compare a [.Eq] [b] pos) ρ M Qb :=
  jt_cmp op_eq (mk_eq _) (h.imp fun _ _ h => h.imp fun _ _ ⟨i, j, ex, ey, q⟩ => dr_eqS ⟨i, j, ex, ey, _, rfl, q⟩)
theorem je_eqS (h : JE X B a ρ M fun x M1 => JE X B b ρ M1 fun y M2 => ∃ i j : Str, x = .str i ∧ y = .str j ∧ Q (.bl (decide (i = j))) M2) : JE X B (.Compare a [.Eq] [b] pos) ρ M Q :=
  je_cmp op_eq (mk_eq _) (h.imp fun _ _ h => h.imp fun _ _ h => dr_eqS h)
theorem je_inI (hm : behindInMarks .In b = false) (h : JE X B a ρ M fun x M1 => JE X B b ρ M1 fun y M2 => ∃ (i : Int) (ns : List Int), x = .int i ∧ Sq M2 y (ns.map D.int) ∧ Q (.bl (decide (i ∈ ns))) M2) : JE X B (.Compare a [.In] [b] pos) ρ M Q :=
  je_cmp op_in_seq hm (h.imp fun _ _ h => h.imp fun _ _ h => dr_inI (neg := false) h)
theorem je_notInI (hm : behindInMarks .NotIn b = false) (h : JE X B a ρ M fun x M1 => JE X B b ρ M1 fun y M2 => ∃ (i : Int) (ns : List Int), x = .int i ∧ Sq M2 y (ns.map D.int) ∧ Q (.bl (!decide (i ∈ ns))) M2) : JE X B (.Compare a [.NotIn] [b] pos) ρ M Q :=
  je_cmp op_notIn_seq hm (h.imp fun _ _ h => h.imp fun _ _ h => dr_inI (neg := true) h)
theorem jt_inI (hm : behindInMarks .In b = false) (h : JE X B a ρ M fun x M1 => JE X B b ρ M1 fun y M2 => ∃ (i : Int) (ns : List Int), x = .int i ∧ Sq M2 y (ns.map D.int) ∧ Qb (decide (i ∈ ns)) M2) : JT X B (.Compare a [.In] [b] pos) ρ M Qb :=
  jt_cmp op_in_seq hm (h.imp fun _ _ h => h.imp fun _ _ ⟨i, ns, ex, hs, q⟩ => dr_inI (neg := false) ⟨i, ns, ex, hs, _, rfl, q⟩)
theorem jt_notInI (hm : behindInMarks .NotIn b = false) (h : JE X B a ρ M fun x M1 => JE X B b ρ M1 fun y M2 => ∃ (i : Int) (ns : List Int), x = .int i ∧ Sq M2 y (ns.map D.int) ∧ Qb (!decide (i ∈ ns)) M2) : JT X B (.Compare a [.NotIn] [b] pos) ρ M Qb :=
  jt_cmp op_notIn_seq hm (h.imp fun _ _ h => h.imp fun _ _ ⟨i, ns, ex, hs, q⟩ => dr_inI (neg := true) ⟨i, ns, ex, hs, _, rfl, q⟩)
theorem je_isi (hm : X.mg "isinstance" = none) (h : JA X B (e :: es) ρ M fun ds M1 => ∃ (x x' : D) (n t : String) (k : Bool), ds = [x, .ty n] ∧ Vw M1 x x' ∧ x'.tyn = some t ∧ kitB t n = some k ∧ Q (.bl k) M1) (hg : Gl X "isinstance" := by rfl)
    (he : starEach (e :: es) X.env = (false, eval e X.env) :: starEach es X.env := by exact se_cons rfl) (hpl : (backTo pos (starEach es X.env)).any (·.1) = false := by exact se_any rfl) : JE X B (.Call (.Name "isinstance" p2) (e :: es) [] pos) ρ M Q :=
  je_callB call_isi hm (by decide +kernel) (h.imp fun _ _ h => dn_isi h) hg (by decide) (by decide) he hpl
theorem je_all (hc : X.calm = true) (hm : X.mg "all" = none) (h : JA X B (e :: es) ρ M fun ds M1 => ∃ (d : D) (xs : List Bool), ds = [d] ∧ SqLs M1 d (xs.map D.bl) ∧ Q (.bl (xs.all id)) M1) (hg : Gl X "all" := by rfl)
    (he : starEach (e :: es) X.env = (false, eval e X.env) :: starEach es X.env := by exact se_cons rfl) (hpl : (backTo pos (starEach es X.env)).any (·.1) = false := by exact se_any rfl) : JE X B (.Call (.Name "all" p2) (e :: es) [] pos) ρ M Q :=
  je_callB (cr_all hc) hm (by decide +kernel) (h.imp fun _ _ h => dn_all h) hg (by decide) (by decide) he hpl
theorem je_sum (hc : X.calm = true) (hm : X.mg "sum" = none) (h : JA X B (e :: es) ρ M fun ds M1 => ∃ (d : D) (xs : List Int), ds = [d] ∧ SqLs M1 d (xs.map D.int) ∧ Q (.int xs.sum) M1) (hg : Gl X "sum" := by rfl)
    (he : starEach (e :: es) X.env = (false, eval e X.env) :: starEach es X.env := by exact se_cons rfl) (hpl : (backTo pos (starEach es X.env)).any (·.1) = false := by exact se_any rfl) : JE X B (.Call (.Name "sum" p2) (e :: es) [] pos) ρ M Q :=
  je_callB (cr_sum hc) hm (by decide +kernel) (h.imp fun _ _ h => dn_sum h) hg (by decide) (by decide) he hpl
theorem je_sorted (hm : X.mg "sorted" = none) (h : JA X B (e :: es) ρ M fun ds M1 => ∃ (d : D) (xs : List Int), ds = [d] ∧ SqLs M1 d (xs.map D.int) ∧ ∀ ys : List Int, ys.Perm xs → ys.Pairwise (· ≤ ·) → Q (.lst (ys.map D.int)) M1) (hg : Gl X "sorted" := by rfl)
    (he : starEach (e :: es) X.env = (false, eval e X.env) :: starEach es X.env := by exact se_cons rfl) (hpl : (backTo pos (starEach es X.env)).any (·.1) = false := by exact se_any rfl) : JE X B (.Call (.Name "sorted" p2) (e :: es) [] pos) ρ M Q :=
  je_callB cr_sortedI hm (by decide +kernel) (h.imp fun _ _ h => dn_sorted h) hg (by decide) (by decide) he hpl
theorem je_tuple (hm : X.mg "tuple" = none) (h : JA X B (e :: es) ρ M fun ds M1 => ∃ (d : D) (xs : List D), ds = [d] ∧ Sq M1 d xs ∧ Q (.tup xs) M1) (hg : Gl X "tuple" := by rfl)
    (he : starEach (e :: es) X.env = (false, eval e X.env) :: starEach es X.env := by exact se_cons rfl) (hpl : (backTo pos (starEach es X.env)).any (·.1) = false := by exact se_any rfl) : JE X B (.Call (.Name "tuple" p2) (e :: es) [] pos) ρ M Q :=
  je_callTy call_tuple_of hm (by decide +kernel) (h.imp fun _ _ h => dn_tuple h) hg (by decide) (by decide) he hpl
theorem je_listO (hm : X.mg "list" = none) (h : JA X B (e :: es) ρ M fun ds M1 => ∃ (d : D) (xs : List D), ds = [d] ∧ Sq M1 d xs ∧ ∀ p, Q (.ref p) (M1 ++ [(p, Cl.lst xs)])) (hg : Gl X "list" := by rfl)
    (he : starEach (e :: es) X.env = (false, eval e X.env) :: starEach es X.env := by exact se_cons rfl) (hpl : (backTo pos (starEach es X.env)).any (·.1) = false := by exact se_any rfl) : JE X B (.Call (.Name "list" p2) (e :: es) [] pos) ρ M Q :=
  je_callTy call_list_of hm (by decide +kernel) (h.imp fun _ _ h => dn_listO h) hg (by decide) (by decide) he hpl
theorem je_listF (hm : X.mg "list" = none) (h : JA X B (e :: es) ρ M fun ds M1 => ∃ (d : D) (xs : List D), ds = [d] ∧ Sq M1 d xs ∧ Q (.lst xs) M1) (hg : Gl X "list" := by rfl)
    (he : starEach (e :: es) X.env = (false, eval e X.env) :: starEach es X.env := by exact se_cons rfl) (hpl : (backTo pos (starEach es X.env)).any (·.1) = false := by exact se_any rfl) : JE X B (.Call (.Name "list" p2) (e :: es) [] pos) ρ M Q :=
  je_callTy call_list_of hm (by decide +kernel) (h.imp fun _ _ h => dn_listF h) hg (by decide) (by decide) he hpl
theorem je_intI (hm : X.mg "int" = none) (h : JA X B (e :: es) ρ M fun ds M1 => ∃ i, ds = [.int i] ∧ Q (.int i) M1) (hg : Gl X "int" := by rfl)
    (he : starEach (e :: es) X.env = (false, eval e X.env) :: starEach es X.env := by exact se_cons rfl) (hpl : (backTo pos (starEach es X.env)).any (·.1) = false := by exact se_any rfl) : JE X B (.Call (.Name "int" p2) (e :: es) [] pos) ρ M Q :=
  je_callTy call_int1 hm (by decide +kernel) (h.imp fun _ _ h => dn_int (.inl h)) hg (by decide) (by decide) he hpl
theorem je_intB (hm : X.mg "int" = none) (h : JA X B (e :: es) ρ M fun ds M1 => ∃ k, ds = [.bl k] ∧ Q (.int (if k then 1 else 0)) M1) (hg : Gl X "int" := by rfl)
    (he : starEach (e :: es) X.env = (false, eval e X.env) :: starEach es X.env := by exact se_cons rfl) (hpl : (backTo pos (starEach es X.env)).any (·.1) = false := by exact se_any rfl) : JE X B (.Call (.Name "int" p2) (e :: es) [] pos) ρ M Q :=
  je_callTy call_int1 hm (by decide +kernel) (h.imp fun _ _ h => dn_int (.inr h)) hg (by decide) (by decide) he hpl
theorem je_abs (hm : X.mg "abs" = none) (h : JA X B (e :: es) ρ M fun ds M1 => ∃ i : Int, ds = [.int i] ∧ Q (.int (if i < 0 then -i else i)) M1) (hg : Gl X "abs" := by rfl)
    (he : starEach (e :: es) X.env = (false, eval e X.env) :: starEach es X.env := by exact se_cons rfl) (hpl : (backTo pos (starEach es X.env)).any (·.1) = false := by exact se_any rfl) : JE X B (.Call (.Name "abs" p2) (e :: es) [] pos) ρ M Q :=
  je_callB call_abs hm (by decide +kernel) (h.imp fun _ _ h => dn_abs h) hg (by decide) (by decide) he hpl
theorem je_max2 (hc : X.calm = true) (hm : X.mg "max" = none) (h : JA X B (e :: es) ρ M fun ds M1 => ∃ i j : Int, ds = [.int i, .int j] ∧ Q (.int (if j > i then j else i)) M1) (hg : Gl X "max" := by rfl)
    (he : starEach (e :: es) X.env = (false, eval e X.env) :: starEach es X.env := by exact se_cons rfl) (hpl : (backTo pos (starEach es X.env)).any (·.1) = false := by exact se_any rfl) : JE X B (.Call (.Name "max" p2) (e :: es) [] pos) ρ M Q :=
  je_callB (call_max2 hc) hm (by decide +kernel) (h.imp fun _ _ h => dn_max2 h) hg (by decide) (by decide) he hpl
theorem je_min2 (hc : X.calm = true) (hm : X.mg "min" = none) (h : JA X B (e :: es) ρ M fun ds M1 => ∃ i j : Int, ds = [.int i, .int j] ∧ Q (.int (if j < i then j else i)) M1) (hg : Gl X "min" := by rfl)
    (he : starEach (e :: es) X.env = (false, eval e X.env) :: starEach es X.env := by exact se_cons rfl) (hpl : (backTo pos (starEach es X.env)).any (·.1) = false := by exact se_any rfl) : JE X B (.Call (.Name "min" p2) (e :: es) [] pos) ρ M Q :=
  je_callB (call_min2 hc) hm (by decide +kernel) (h.imp fun _ _ h => dn_min2 h) hg (by decide) (by decide) he hpl
theorem je_repr {k : Nat} (hr : Room k X.A) (hgd : X.A.guards = some []) (hm : X.mg "repr" = none) (h : JA X B (e :: es) ρ M fun ds M1 => ∃ x d, ds = [x] ∧ Vw M1 x d ∧ ((∃ xs, d = .tup xs) ∨ ∃ xs, d = .lst xs) ∧ d.plain = true ∧ d.py.showable = true ∧ d.py.depth ≤ 60 ∧ d.repr.length ≤ sizeLine ∧ Q (.str d.repr) M1) (hg : Gl X "repr" := by rfl)
    (he : starEach (e :: es) X.env = (false, eval e X.env) :: starEach es X.env := by exact se_cons rfl) (hpl : (backTo pos (starEach es X.env)).any (·.1) = false := by exact se_any rfl) : JE X B (.Call (.Name "repr" p2) (e :: es) [] pos) ρ M Q :=
  je_callB (call_reprD hr hgd) hm (by decide +kernel) (h.imp fun _ _ h => dn_repr h) hg (by decide) (by decide) he hpl
theorem je_slT {lo hi : Option Expr} (h : JE X B e ρ M fun x M1 => JO X B lo ρ M1 fun l M2 => JO X B hi ρ M2 fun u M3 => ∃ xs, x = .tup xs ∧ Q (.tup (cutD xs l u)) M3) : JE X B (.Subscript e (.Slice lo hi none p2) pos) ρ M Q :=
  je_slice sl_tupA (h.imp fun x M1 h => jo_imp h fun l M2 h => jo_imp h fun u M3 h => d1_slT h)
where jo_imp {e : Option Expr} {Q Q' : Option Int → Mem → Prop} {M : Mem} (h : JO X B e ρ M Q) (w : ∀ o M, Q o M → Q' o M) : JO X B e ρ M Q' := match e, h with
  | none, h => w _ _ h
  | some e, h => JE.imp h fun d M1 ⟨i, ed, q⟩ => ⟨i, ed, w _ _ q⟩
theorem je_slL {lo hi : Option Expr} (h : JE X B e ρ M fun x M1 => JO X B lo ρ M1 fun l M2 => JO X B hi ρ M2 fun u M3 => ∃ xs, SqLs M3 x xs ∧ Q (.lst (cutD xs l u)) M3) : JE X B (.Subscript e (.Slice lo hi none p2) pos) ρ M Q :=
  je_slice sl_list (h.imp fun x M1 h => je_slT.jo_imp h fun l M2 h => je_slT.jo_imp h fun u M3 h => d1_slL h)
theorem jt_callv (h : JE X B (.Call o es [] pos) ρ M (asB Qb)) : JT X B (.Call o es [] pos) ρ M Qb := jt_val h
end
end J
namespace J
open PySem PySem.Spec PyProof.Rows L2
section
variable {X : Cx} {B : Bs} {e a b : Expr} {ρ : Ev} {M : Mem} {pos p1 p2 p3 : Pos} {Q : D → Mem → Prop}
def rgI (a b : Int) : List Int := (List.range (b - a).toNat).map fun i => a + (i : Nat)
theorem rgV_rgI (a b : Int) : rgV a b = (rgI a b).map V.int := by unfold rgV rgI; rw [List.map_map]; rfl
/-- list(range(n)) -/
theorem je_listRg1 (hc : X.calm = true) (hm : X.mg "list" = none) (hm2 : X.mg "range" = none) (h : JE X B a ρ M fun d M1 => ∃ n : Int, d = .int n ∧ RgOk 0 n ∧ Q (.lst ((rgI 0 n).map D.int)) M1) (hg : Gl X "list" := by rfl) (hg2 : Gl X "range" := by rfl)
    (na : starEach [a] X.env = (false, eval a X.env) :: starEach [] X.env := by exact se_cons rfl) (na2 : starEach [.Call (.Name "range" p2) [a] [] p3] X.env = (false, eval (.Call (.Name "range" p2) [a] [] p3) X.env) :: starEach [] X.env := by rfl) :
    JE X B (.Call (.Name "list" p1) [.Call (.Name "range" p2) [a] [] p3] [] pos) ρ M Q :=
  JE.of (pe_listRg hc hg hm (prg_1 hg2 hm2 pe_J na) na2) fun σ H F at_ Qh k => ⟨F, ρ, M, _, at_, h, fun v H1 F1 d M1 e1 a1 r1 ⟨n, ed, hr, q⟩ => by
    subst ed
    cases r1
    refine ⟨n, rfl, hr, fun l hl => ?_⟩
    exact k _ _ _ _ _ (e1.trans (a1.newF hl _).2) (a1.newF hl (.lst (rgV 0 n))).1 (.lst (.inl upd_same) (by rw [rgV_rgI]; exact DvL.of_ints _)) q⟩
theorem je_listRg2 (hc : X.calm = true) (hm : X.mg "list" = none) (hm2 : X.mg "range" = none) (h : JE X B a ρ M fun d M1 => JE X B b ρ M1 fun d' M2 => ∃ n m : Int, d = .int n ∧ d' = .int m ∧ RgOk n m ∧ Q (.lst ((rgI n m).map D.int)) M2) (hg : Gl X "list" := by rfl) (hg2 : Gl X "range" := by rfl)
    (na : starEach [a, b] X.env = (false, eval a X.env) :: starEach [b] X.env := by exact se_cons rfl) (nb : starEach [b] X.env = (false, eval b X.env) :: starEach [] X.env := by exact se_cons rfl) (hp : (backTo p3 (starEach [b] X.env)).any (·.1) = false := by exact se_any rfl) (na2 : starEach [.Call (.Name "range" p2) [a, b] [] p3] X.env = (false, eval (.Call (.Name "range" p2) [a, b] [] p3) X.env) :: starEach [] X.env := by rfl) :
    JE X B (.Call (.Name "list" p1) [.Call (.Name "range" p2) [a, b] [] p3] [] pos) ρ M Q :=
  JE.of (pe_listRg hc hg hm (prg_2 hg2 hm2 pe_J pe_J na nb hp) na2) fun σ H F at_ Qh k => ⟨F, ρ, M, _, at_, h, fun v H1 F1 d M1 e1 a1 r1 h => ⟨F1, ρ, M1, _, a1, h, fun v2 H2 F2 d2 M2 e2 a2 r2 ⟨n, m, ed, ed2, hr, q⟩ => by
    subst ed ed2
    cases r1
    cases r2
    refine ⟨n, m, rfl, rfl, hr, fun l hl => ?_⟩
    exact k _ _ _ _ _ ((e1.trans e2).trans (a2.newF hl _).2) (a2.newF hl (.lst (rgV n m))).1 (.lst (.inl upd_same) (by rw [rgV_rgI]; exact DvL.of_ints _)) q⟩⟩
/-- a remainder, told by its bounds -/
theorem je_modR (h : JE X B a ρ M fun x M1 => JE X B b ρ M1 fun y M2 => ∃ i j, x = .int i ∧ y = .int j ∧ 0 < j ∧ ∀ r, 0 ≤ r → r < j → r = i % j → Q (.int r) M2) : JE X B (.BinOp a .Mod b pos) ρ M Q :=
  je_mod (h.imp fun _ _ h => h.imp fun _ _ ⟨i, j, ex, ey, hj, q⟩ => ⟨i, j, ex, ey, hj, q _ (Int.emod_nonneg _ (by omega)) (Int.emod_lt_of_pos _ hj) rfl⟩)
/-- a product, told alone -/
theorem je_mulR (h : JE X B a ρ M fun x M1 => JE X B b ρ M1 fun y M2 => ∃ i j, x = .int i ∧ y = .int j ∧ CMul i j ∧ ∀ r, r = i * j → Q (.int r) M2) : JE X B (.BinOp a .Mult b pos) ρ M Q :=
  je_mul (h.imp fun _ _ h => h.imp fun _ _ ⟨i, j, ex, ey, hj, q⟩ => ⟨i, j, ex, ey, hj, q _ rfl⟩)
/-- int of a truth: 0 or 1 -/
theorem je_intR {es : List Expr} (hm : X.mg "int" = none) (h : JA X B (e :: es) ρ M fun ds M1 => ∃ k, ds = [.bl k] ∧ ∀ r, 0 ≤ r → r ≤ 1 → Q (.int r) M1) (hg : Gl X "int" := by rfl)
    (he : starEach (e :: es) X.env = (false, eval e X.env) :: starEach es X.env := by exact se_cons rfl) (hpl : (backTo pos (starEach es X.env)).any (·.1) = false := by exact se_any rfl) : JE X B (.Call (.Name "int" p2) (e :: es) [] pos) ρ M Q :=
  je_intB hm (h.imp fun ds M1 ⟨k, e, q⟩ => ⟨k, e, q _ (by cases k <;> decide) (by cases k <;> decide)⟩) hg he hpl
end
end J
namespace J
open PySem PySem.Spec PyProof.Rows L2
section
variable {X : Cx} {B : Bs} {tg elt c : Expr} {scope : Scope} {ρ : Ev}
theorem JG.imp {ix : List Nat} {d : D} {M : Mem} {Qg Qg' : Ev → Mem → Prop} (h : JG X B tg ix d ρ M Qg) (w : ∀ ρ2 M2, Qg ρ2 M2 → Qg' ρ2 M2) : JG X B tg ix d ρ M Qg' := ⟨fun pins s1 σ H1 F v u I a r dv =>
  thn (h.run pins s1 σ H1 F v u I a r dv) fun _ s' ⟨σ', H', F', ρ', M2, I', e, a', k, q⟩ => ⟨σ', H', F', ρ', M2, I', e, a', k, w _ _ q⟩⟩
/-- the items that pass a test -/
theorem lc_filter {vs ix : List Nat} {items : List D} {Ok : Mem → Prop} {M1 : Mem} {Ql : List D → Mem → Prop} (f : D → Bool) (g : D → D) (hix : ∀ j ∈ ix, j ∈ vs) (hOk : Ok M1) (hz : items.length ≤ sizeLine)
    (turn : ∀ (i : Nat) (d : D), items[i]? = some d → ∀ B s H C cl fp, JG (bk X scope s H C cl fp) B tg ix d (wipeE ρ vs) M1 fun ρ2 M2 => ∀ B2, TOne X scope c B2 ρ2 M2 fun k M3 => k = f d ∧ M3 = M1 ∧
      (f d = true → ∀ B3 s H C cl fp, JE (bk X scope s H C cl fp) B3 elt ρ2 M1 fun z M4 => z = g d ∧ M4 = M1))
    (done : Ql ((items.filter f).map g) M1) : LcT X scope vs tg elt (TOne X scope c) ρ items Ok M1 Ql := by
  refine ⟨ix, fun i acc M' => i ≤ items.length ∧ acc = ((items.take i).filter f).map g ∧ M' = M1, hix, ⟨Nat.zero_le _, by simp, rfl⟩, fun i acc M' h => h.2.2 ▸ hOk, fun i d acc M' hd h B s H C cl fp => ?_, fun acc M' h => ?_⟩
  · obtain ⟨hi, rfl, rfl⟩ := h
    have hlt := (List.getElem?_eq_some_iff.mp hd).1
    have htk : items.take (i + 1) = items.take i ++ [d] := by rw [List.take_add_one, hd]; rfl
    refine (turn i d hd B s H C cl fp).imp fun ρ2 M2 q B2 s H C cl fp => (q B2 s H C cl fp).imp fun k M3 ⟨hk, hM, q2⟩ => ?_
    subst hk hM
    refine ⟨fun hk B3 s H C cl fp => (q2 hk B3 s H C cl fp).imp fun z M4 hz' => ?_, fun hk => ⟨hlt, ?_, rfl⟩⟩
    · obtain ⟨rfl, rfl⟩ := hz'
      refine ⟨?_, hlt, ?_, rfl⟩
      · rw [List.length_map]
        have := List.length_filter_le f (items.take i)
        rw [List.length_take] at this
        omega
      · rw [htk, List.filter_append, List.map_append, List.filter_cons_of_pos hk]; rfl
    · rw [htk, List.filter_append, List.filter_cons_of_neg (by rw [hk]; decide)]; simp
  · obtain ⟨hi, rfl, rfl⟩ := h
    rw [List.take_length]
    exact done
/-- each item by a turn of its own, the memory and the list by a word W -/
theorem lc_turns {vs : List Nat} {items : List D} {Ok : Mem → Prop} {M1 : Mem} {Ql : List D → Mem → Prop} (ix : List Nat) (W : Nat → List D → Mem → Prop) (hix : ∀ j ∈ ix, j ∈ vs) (w0 : W 0 [] M1) (wOk : ∀ i acc M', W i acc M' → Ok M') (hz : items.length ≤ sizeLine) (hw : ∀ i acc M', W i acc M' → acc.length = i)
    (turn : ∀ (i : Nat) (d : D) acc M', items[i]? = some d → W i acc M' → ∀ B s H C cl fp, JG (bk X scope s H C cl fp) B tg ix d (wipeE ρ vs) M' fun ρ2 M2 => ∀ B3 s H C cl fp, JE (bk X scope s H C cl fp) B3 elt ρ2 M2 fun z M4 => W (i + 1) (acc ++ [z]) M4)
    (done : ∀ acc M', W items.length acc M' → Ql acc M') : LcT X scope vs tg elt TNo ρ items Ok M1 Ql := by
  refine ⟨ix, W, hix, w0, wOk, fun i d acc M' hd h B s H C cl fp => ?_, done⟩
  have hlt := (List.getElem?_eq_some_iff.mp hd).1
  have hl := hw _ _ _ h
  refine (turn i d acc M' hd h B s H C cl fp).imp fun ρ2 M2 q B2 => ⟨fun _ B3 s H C cl fp => (q B3 s H C cl fp).imp fun z M4 hz' => ⟨by omega, hz'⟩, fun h => nomatch h⟩
end
end J
namespace J
open PySem PySem.Spec PyProof.Rows L2
/-- x names a def that may be called by keywords alone -/
structure HasK (P : Program) (w : World) (K : PySem.W.Frag) (mg : Str → Option Value) (base : Heap) (x : Str) (k : Nat) (ps ks : List Str) (g : {α : Type} → List α → List α) (sp : DSp) : Prop where
  ex : ∃ (f : Addr) (fd : FuncData), FnG P w K mg base CX0 k f fd ps (lift K sp) ∧ mg x = some (.ref f) ∧ PySem.W.keepIn K (.ref f) = true ∧ KB0 K fd ps ks g
theorem HasK.up {P : Program} {w : World} {K : PySem.W.Frag} {mg : Str → Option Value} {base : Heap} {x : Str} {j k : Nat} {ps ks : List Str} {g : {α : Type} → List α → List α} {sp : DSp} (h : HasK P w K mg base x j ps ks g sp) (hk : j ≤ k) : HasK P w K mg base x k ps ks g sp :=
  let ⟨f, fd, G, r⟩ := h.ex; ⟨f, fd, G.up hk, r⟩
theorem vals_rev {vs : List V} {ws : List Value} (h : Vals vs ws) : Vals vs.reverse ws.reverse := by
  induction vs generalizing ws with
  | nil => cases h; exact .nil
  | cons v vs ih =>
    cases h with
    | cons r t => rw [List.reverse_cons, List.reverse_cons]; exact (ih t).append (.cons r .nil)
theorem kb_rev {K : PySem.W.Frag} {x qual : Str} {st : Stmt} {f : Addr} {fd : FuncData} {ps ks : List Str} (F : Fun K x qual st f fd)
    (h : ∀ (kV doc pm : Value) (an : Option Addr) (cdv ct : Value) (us : List Value), us.length = ks.length → bindArgs (PySem.W.fnOf x qual (defArgs st) (defBody st) (defScope st) .none kV doc pm an cdv ct) ⟨[], ks.zip us⟩ = pure (ps.zip us.reverse)) : KB0 K fd ps ks List.reverse where
  to := fun s ws _ hl => by
    obtain ⟨oc, od, kV, doc, pm, an, cdv, ct, osl, rfl, lk, hcd⟩ := F.ex
    exact .of_eq (h kV doc pm an cdv ct ws hl)
  rel := fun _ r => vals_rev r
  dat := fun _ r => r.reverse
section
variable {X : Cx} {B : Bs} {ρ : Ev} {M : Mem} {pos p2 : Pos} {Q : D → Mem → Prop}
theorem je_callKH {x : Str} {ps ks : List Str} {g : {α : Type} → List α → List α} {sp : DSp} {k : Nat} {kws : List Keyword} (G : HasK X.prog X.w X.K X.mg X.base x k ps ks g sp) (hr : Room k X.A) (hgd : X.A.guards = some []) (h : JK X B kws ρ M fun ds M1 => ds.length = ks.length ∧ DCall sp (g ds) M1 Q)
    (hall : (backToKw pos (keywordEach kws X.env)).all (·.1.isSome) = true := by rfl) (hks : (backToKw pos (keywordEach kws X.env)).filterMap (·.1) = ks := by rfl)
    (hpl : (backToKw pos (keywordEach kws X.env)).any (·.1.isNone) = false := by rfl) (hg : Gl X x := by rfl) (hdb : (x == ("__debug__" : Str)) = false := by decide) : JE X B (.Call (.Name x p2) [] kws pos) ρ M Q :=
  let ⟨_, _, G, hm, hk, hb⟩ := G.ex; je_callK0 G hr hgd hm hk hb h hall hks hpl hg hdb
end
section
variable {X : Cx} {B : Bs} {a b : Expr} {ρ : Ev} {M : Mem} {pos : Pos} {Q : D → Mem → Prop}
/-- + of lists, the whole named -/
theorem je_catE (h : JE X B a ρ M fun x M1 => JE X B b ρ M1 fun y M2 => ∃ xs ys zs, SqLr M2 x xs ∧ SqLr M2 y ys ∧ xs ++ ys = zs ∧ zs.length ≤ sizeLine ∧ Q (.lst zs) M2) : JE X B (.BinOp a .Add b pos) ρ M Q :=
  je_cat (h.imp fun _ _ h => h.imp fun _ _ ⟨xs, ys, zs, h1, h2, e, hz, q⟩ => ⟨xs, ys, h1, h2, by rw [← List.length_append, e]; exact hz, by rw [e]; exact q⟩)
end
/-! what repr asks, of tuples of ints -/
theorem pys_ints : ∀ as : List Int, D.pys (as.map D.int) = as.map PyData.int
  | [] => by rw [List.map_nil, D.pys]; rfl
  | a :: as => by rw [List.map_cons, D.pys, pys_ints as, D.py]; rfl
theorem plains_ints : ∀ as : List Int, D.plains (as.map D.int) = true
  | [] => by rw [List.map_nil, D.plains]
  | a :: as => by rw [List.map_cons, D.plains, plains_ints as, D.plain]; rfl
theorem showAll_ints : ∀ as : List Int, (∀ a ∈ as, a.natAbs < 10 ^ 12) → PyData.showableAll (as.map PyData.int) = true
  | [], _ => by rw [List.map_nil, PyData.showableAll]
  | a :: as, h => by
    rw [List.map_cons, PyData.showableAll, showAll_ints as fun x hx => h x (List.mem_cons_of_mem _ hx), PyData.showable, Bool.and_true, decide_eq_true_iff]
    have := h a List.mem_cons_self
    by_cases h0 : a.natAbs = 0
    · rw [h0]; decide
    · exact Nat.lt_of_lt_of_le ((Nat.log2_lt h0).mpr (Nat.lt_of_lt_of_le this (by decide : 10 ^ 12 ≤ 2 ^ 40))) (by decide)
theorem depthAll_ints : ∀ as : List Int, PyData.depthAll (as.map PyData.int) ≤ 1
  | [] => by rw [List.map_nil, PyData.depthAll]; decide
  | a :: as => by
    have := depthAll_ints as
    rw [List.map_cons, PyData.depthAll, PyData.depth]
    · omega
    all_goals nofun
theorem sum_ints : ∀ as : List Int, (∀ a ∈ as, a.natAbs < 10 ^ 12) → ((PyData.shownAll (as.map PyData.int)).map (·.length)).sum ≤ 13 * as.length ∧ (PyData.shownAll (as.map PyData.int)).length = as.length
  | [], _ => by rw [List.map_nil, PyData.shownAll]; exact ⟨Nat.le_refl _, rfl⟩
  | a :: as, h => by
    have ih := sum_ints as fun x hx => h x (List.mem_cons_of_mem _ hx)
    have := PyData.shown_int_le (h a List.mem_cons_self)
    rw [List.map_cons, PyData.shownAll]
    simp only [List.map_cons, List.sum_cons, List.length_cons]
    omega
structure Shows (d : D) : Prop where
  pl : d.plain = true
  sh : d.py.showable = true
  dp : d.py.depth ≤ 60
  ln : d.repr.length ≤ sizeLine
theorem its_shows {as : List Int} (h : ∀ a ∈ as, a.natAbs < 10 ^ 12) (hl : as.length ≤ 100000) : Shows (.tup (as.map D.int)) where
  pl := by rw [D.plain]; exact plains_ints as
  sh := by rw [D.py, PyData.showable, pys_ints]; exact showAll_ints as h
  dp := by rw [D.py, PyData.depth, pys_ints]; have := depthAll_ints as; omega
  ln := by
    unfold D.repr
    rw [D.py, PyData.shown, pys_ints]
    refine Nat.le_trans (tupleText_len_le _) ?_
    have := sum_ints as h
    unfold sizeLine
    omega
end J
namespace J
open PySem PySem.Spec PyProof.Rows L2
/-! ### the names of the module -/
structure DefIn (K : PySem.W.Frag) (x : Str) (st : Stmt) : Prop where
  ex : ∃ (f : Addr) (fd : FuncData), PySem.W.nsIn K mainGlobals x = some (some (.ref f)) ∧ PySem.W.keepIn K (.ref f) = true ∧ Fun K x x st f fd
theorem defIn_mk {K : PySem.W.Frag} {x : Str} {st : Stmt} {f : Addr} {od an : Option Addr} {sl : Array (Option Value)} {oc kV dc pm cd ct : Value}
    (a : PySem.W.nsIn K mainGlobals x = some (some (.ref f))) (l : K.lookup f = some ⟨oc, od, .func (PySem.W.fnOf x x (defArgs st) (defBody st) (defScope st) .none kV dc pm an cd ct), sl⟩) (c : PySem.W.codeIn K cd x = true) (k : PySem.W.keepIn K (.ref f) = true) : DefIn K x st :=
  ⟨f, _, a, k, fun_mk l c k⟩
section
variable {P : Program} {w : World} {K : PySem.W.Frag} {h : Heap} {mg : Str → Option Value} {base : Heap}
theorem mkHas {x : Str} {st : Stmt} {ps : List Str} {sp : DSp} {k : Nat} (X : K.In h) (G : h.Ns mainGlobals mg) (d : DefIn K x st) (ok : ∀ {f : Addr} {fd : FuncData}, Fun K x x st f fd → FnG P w K mg base CX0 k f fd ps (lift K sp))
    (hb : ∀ (kV doc pm : Value) (an : Option Addr) (cdv ct : Value) (us : List Value), us.length = ps.length → bindArgs (PySem.W.fnOf x x (defArgs st) (defBody st) (defScope st) .none kV doc pm an cdv ct) ⟨us, []⟩ = pure (ps.zip us)) : Has P w K mg base x k ps sp := by
  obtain ⟨f, fd, a, kp, F⟩ := d.ex
  exact ⟨f, fd, ok F, PySem.W.mg_of X G a, kp, F.binds hb⟩
theorem mkHasK {x : Str} {st : Stmt} {ps ks : List Str} {sp : DSp} {k : Nat} (X : K.In h) (G : h.Ns mainGlobals mg) (d : DefIn K x st) (ok : ∀ {f : Addr} {fd : FuncData}, Fun K x x st f fd → FnG P w K mg base CX0 k f fd ps (lift K sp))
    (hb : ∀ (kV doc pm : Value) (an : Option Addr) (cdv ct : Value) (us : List Value), us.length = ks.length → bindArgs (PySem.W.fnOf x x (defArgs st) (defBody st) (defScope st) .none kV doc pm an cdv ct) ⟨[], ks.zip us⟩ = pure (ps.zip us.reverse)) : HasK P w K mg base x k ps ks List.reverse sp := by
  obtain ⟨f, fd, a, kp, F⟩ := d.ex
  exact ⟨f, fd, ok F, PySem.W.mg_of X G a, kp, kb_rev F hb⟩
theorem mkLaw {st : Stmt} {sp : DSp} {k : Nat} {fa : Addr} {P : Program} {w : World} (X : K.In h) (G : h.Ns mainGlobals mg) (hfa : mg "law" = some (.ref fa)) (d : DefIn K "law" st) (ok : ∀ (base : Heap) {f : Addr} {fd : FuncData}, Fun K "law" "law" st f fd → FnG P w K mg base CX0 k f fd ["script"] (lift K sp))
    (hb : ∀ (kV doc pm : Value) (an : Option Addr) (cdv ct u : Value), bindArgs (PySem.W.fnOf "law" "law" (defArgs st) (defBody st) (defScope st) .none kV doc pm an cdv ct) ⟨[u], []⟩ = pure [(("script" : Str), u)]) :
    ∃ fd : FuncData, (∀ (s : Shared) (u : Value), BindsTo s fd ⟨[u], []⟩ [(("script" : Str), u)]) ∧ ∀ base : Heap, K.In base → base.Ns mainGlobals mg → FnG P w K mg base CX0 k fa fd ["script"] (lift K sp) := by
  obtain ⟨f, fd, a, kp, F⟩ := d.ex
  have e := hfa.symm.trans (PySem.W.mg_of X G a)
  cases e
  refine ⟨fd, fun s u => ?_, fun base _ _ => ok base F⟩
  obtain ⟨oc, od, kV, doc, pm, an, cdv, ct, osl, rfl, lk, hcd⟩ := F.ex
  exact .of_eq (hb kV doc pm an cdv ct u)
abbrev DefInOf (X : K.In h) (x : Str) (st : Stmt) : Prop := DefIn K x st
theorem ci_mk {x : Str} {i : Int} {t : Tok} (X : K.In h) (G : h.Ns mainGlobals mg) (a : PySem.W.nsIn K mainGlobals x = some (some (.int i t))) : ∃ t, mg x = some (.int i t) := ⟨t, PySem.W.mg_of X G a⟩
end
end J
/-! polynomials as lists of coefficients, lowest first, and their values by a modulus -/
namespace J
def ev (as : List Int) (x : Int) : Int := as.foldr (fun a acc => acc * x + a) 0
theorem ev_nil (x : Int) : ev [] x = 0 := rfl
theorem ev_cons (a : Int) (as : List Int) (x : Int) : ev (a :: as) x = ev as x * x + a := rfl
def horner (p r : Int) (as : List Int) : Int := as.foldr (fun a acc => (acc * r + a) % p) 0
theorem horner_cons (p r a : Int) (as : List Int) : horner p r (a :: as) = (horner p r as * r + a) % p := rfl
/-- alike by the modulus -/
def Cg (p x y : Int) : Prop := p ∣ x - y
theorem Cg.refl (p x : Int) : Cg p x x := by unfold Cg; rw [Int.sub_self]; exact Int.dvd_zero p
theorem Cg.symm {p x y : Int} (h : Cg p x y) : Cg p y x := by
  obtain ⟨k, hk⟩ := h; exact ⟨-k, by grind⟩
theorem Cg.trans {p x y z : Int} (h : Cg p x y) (g : Cg p y z) : Cg p x z := by
  obtain ⟨k, hk⟩ := h; obtain ⟨l, hl⟩ := g; exact ⟨k + l, by grind⟩
theorem Cg.add {p x y z w : Int} (h : Cg p x y) (g : Cg p z w) : Cg p (x + z) (y + w) := by
  obtain ⟨k, hk⟩ := h; obtain ⟨l, hl⟩ := g; exact ⟨k + l, by grind⟩
theorem Cg.sub {p x y z w : Int} (h : Cg p x y) (g : Cg p z w) : Cg p (x - z) (y - w) := by
  obtain ⟨k, hk⟩ := h; obtain ⟨l, hl⟩ := g; exact ⟨k - l, by grind⟩
theorem Cg.mul {p x y z w : Int} (h : Cg p x y) (g : Cg p z w) : Cg p (x * z) (y * w) := by
  obtain ⟨k, hk⟩ := h; obtain ⟨l, hl⟩ := g; exact ⟨k * z + y * l, by grind⟩
theorem Cg.mod (p x : Int) : Cg p (x % p) x := ⟨-(x / p), by have := Int.mul_ediv_add_emod x p; grind⟩
theorem Cg.eqm {p x y : Int} (h : Cg p x y) : x % p = y % p := (Int.emod_eq_emod_iff_emod_sub_eq_zero).mpr (Int.emod_eq_zero_of_dvd h)
theorem Cg.of_eqm {p x y : Int} (h : x % p = y % p) : Cg p x y := (Cg.mod p x).symm.trans (h ▸ Cg.mod p y)
theorem Cg.eq {p x y : Int} (h : Cg p x y) (hx : 0 ≤ x) (hx2 : x < p) (hy : 0 ≤ y) (hy2 : y < p) : x = y := by
  have := h.eqm
  rwa [Int.emod_eq_of_lt hx hx2, Int.emod_eq_of_lt hy hy2] at this
theorem Cg.of_eq {p x y : Int} (h : x = y) : Cg p x y := h ▸ Cg.refl p x
theorem cg_ev {p : Int} (x : Int) : ∀ {as bs : List Int}, as.length = bs.length → (∀ (i : Nat) (a b : Int), as[i]? = some a → bs[i]? = some b → Cg p a b) → Cg p (ev as x) (ev bs x)
  | [], [], _, _ => Cg.refl _ _
  | a :: as, b :: bs, hl, h => by
    rw [ev_cons, ev_cons]
    exact ((cg_ev x (Nat.succ.inj hl) fun i a b h1 h2 => h (i + 1) a b (by simpa using h1) (by simpa using h2)).mul (Cg.refl _ _)).add (h 0 a b rfl rfl)
theorem cg_map_mod (p x : Int) (as : List Int) : Cg p (ev (as.map (· % p)) x) (ev as x) :=
  cg_ev x (by simp) fun i a b h1 h2 => by
    rw [List.getElem?_map, h2] at h1
    cases h1
    exact Cg.mod p b
theorem ev_arg {p x y : Int} (h : Cg p x y) : ∀ as : List Int, Cg p (ev as x) (ev as y)
  | [] => Cg.refl _ _
  | a :: as => by rw [ev_cons, ev_cons]; exact ((ev_arg h as).mul h).add (Cg.refl _ _)
theorem cg_horner (p r : Int) : ∀ as : List Int, Cg p (horner p r as) (ev as r)
  | [] => Cg.refl _ _
  | a :: as => by
    rw [horner_cons, ev_cons]
    exact (Cg.mod _ _).trans (((cg_horner p r as).mul (Cg.refl _ _)).add (Cg.refl _ _))
theorem horner_range {p : Int} (hp : 0 < p) (r : Int) : ∀ as : List Int, 0 ≤ horner p r as ∧ horner p r as < p
  | [] => ⟨Int.le_refl _, hp⟩
  | a :: as => ⟨Int.emod_nonneg _ (by omega), Int.emod_lt_of_pos _ hp⟩
theorem horner_eq {p : Int} (hp : 0 < p) (r : Int) (as : List Int) : horner p r as = ev as r % p := by
  have := (cg_horner p r as).eqm
  rwa [Int.emod_eq_of_lt (horner_range hp r as).1 (horner_range hp r as).2] at this
/-- residues -/
def Rs (p : Int) (as : List Int) : Prop := ∀ a ∈ as, 0 ≤ a ∧ a < p
theorem Rs.map_mod {p : Int} (hp : 0 < p) (as : List Int) : Rs p (as.map (· % p)) := fun a ha => by
  obtain ⟨b, _, rfl⟩ := List.mem_map.mp ha
  exact ⟨Int.emod_nonneg _ (by omega), Int.emod_lt_of_pos _ hp⟩
theorem ev_append (as bs : List Int) (x : Int) : ev (as ++ bs) x = ev as x + x ^ as.length * ev bs x := by
  induction as with
  | nil => simp [ev_nil]
  | cons a as ih => rw [List.cons_append, ev_cons, ev_cons, ih, List.length_cons]; grind
theorem ev_zipadd (x : Int) : ∀ as bs : List Int, bs.length ≤ as.length → ev (List.zipWith (· + ·) as bs ++ as.drop bs.length) x = ev as x + ev bs x
  | as, [], _ => by simp [ev_nil]
  | [], _ :: _, h => by simp at h
  | a :: as, b :: bs, h => by
    have := ev_zipadd x as bs (by simpa using h)
    simp only [List.zipWith_cons_cons, List.length_cons, List.drop_succ_cons, List.cons_append, ev_cons] at this ⊢
    rw [this]; grind
def addLong (p : Int) (as bs : List Int) : List Int := (List.zipWith (fun a b => (a + b) % p) as bs) ++ as.drop bs.length
def addP (p : Int) (as bs : List Int) : List Int := if bs.length ≤ as.length then addLong p as bs else addLong p bs as
theorem cg_append {p : Int} {as bs : List Int} {u v x : Int} (h1 : Cg p (ev as x) u) (h2 : Cg p (ev bs x) v) : Cg p (ev (as ++ bs) x) (u + x ^ as.length * v) := by
  rw [ev_append]; exact h1.add ((Cg.refl _ _).mul h2)
theorem addLong_ev {p : Int} {as bs : List Int} (x : Int) (h : bs.length ≤ as.length) : Cg p (ev (addLong p as bs) x) (ev as x + ev bs x) := by
  rw [← ev_zipadd x as bs h, ev_append]
  unfold addLong
  rw [ev_append]
  have e : List.zipWith (fun a b => (a + b) % p) as bs = (List.zipWith (· + ·) as bs).map (· % p) := by
    rw [List.map_zipWith]
  rw [e, List.length_map]
  exact (cg_map_mod p x _).add (Cg.refl _ _)
theorem addLong_length {p : Int} {as bs : List Int} (h : bs.length ≤ as.length) : (addLong p as bs).length = as.length := by
  unfold addLong; simp; omega
theorem addLong_rs {p : Int} (hp : 0 < p) {as bs : List Int} (h : Rs p as) : Rs p (addLong p as bs) := fun a ha => by
  unfold addLong at ha
  rcases List.mem_append.mp ha with ha | ha
  · obtain ⟨i, hi⟩ := List.getElem?_of_mem ha
    rw [List.getElem?_zipWith] at hi
    split at hi
    · cases hi; exact ⟨Int.emod_nonneg _ (by omega), Int.emod_lt_of_pos _ hp⟩
    · cases hi
  · exact h a (List.mem_of_mem_drop ha)
theorem addP_ev {p : Int} (as bs : List Int) (x : Int) : Cg p (ev (addP p as bs) x) (ev as x + ev bs x) := by
  unfold addP
  split
  · exact addLong_ev x ‹_›
  · rw [Int.add_comm]; exact addLong_ev x (by omega)
theorem addP_length {p : Int} (as bs : List Int) : (addP p as bs).length = max as.length bs.length := by
  unfold addP
  split
  · rw [addLong_length ‹_›]; omega
  · rw [addLong_length (by omega)]; omega
theorem addP_rs {p : Int} (hp : 0 < p) {as bs : List Int} (h : Rs p as) (g : Rs p bs) : Rs p (addP p as bs) := by
  unfold addP
  split
  · exact addLong_rs hp h
  · exact addLong_rs hp g
/-! products -/
def addAt (acc : List Int) (k : Nat) (c : Int) : List Int := acc.set k (acc.getD k 0 + c)
theorem addAt_length (acc : List Int) (k : Nat) (c : Int) : (addAt acc k c).length = acc.length := by simp [addAt]
theorem ev_addAt (x c : Int) : ∀ (acc : List Int) (k : Nat), k < acc.length → ev (addAt acc k c) x = ev acc x + c * x ^ k
  | a :: acc, 0, _ => by simp [addAt, ev_cons]; grind
  | a :: acc, k + 1, h => by
    have := ev_addAt x c acc k (by simpa using h)
    simp only [addAt, List.set_cons_succ, List.getD_cons_succ, ev_cons] at this ⊢
    rw [this]; grind
def rowZ (a : Int) : Nat → List Int → List Int → List Int
  | _, [], acc => acc
  | k, b :: bs, acc => rowZ a (k + 1) bs (addAt acc k (a * b))
def mulFrom (bs : List Int) : Nat → List Int → List Int → List Int
  | _, [], acc => acc
  | k, a :: as, acc => mulFrom bs (k + 1) as (rowZ a k bs acc)
def mulZ (as bs : List Int) : List Int := mulFrom bs 0 as (List.replicate (as.length + bs.length - 1) 0)
def mulP (p : Int) (as bs : List Int) : List Int := (mulZ as bs).map (· % p)
theorem rowZ_length (a : Int) : ∀ (k : Nat) (bs acc : List Int), (rowZ a k bs acc).length = acc.length
  | _, [], _ => rfl
  | k, b :: bs, acc => by rw [rowZ, rowZ_length, addAt_length]
theorem mulFrom_length (bs : List Int) : ∀ (k : Nat) (as acc : List Int), (mulFrom bs k as acc).length = acc.length
  | _, [], _ => rfl
  | k, a :: as, acc => by rw [mulFrom, mulFrom_length, rowZ_length]
theorem ev_rowZ (a x : Int) : ∀ (k : Nat) (bs acc : List Int), k + bs.length ≤ acc.length → ev (rowZ a k bs acc) x = ev acc x + a * x ^ k * ev bs x
  | k, [], acc, _ => by rw [rowZ, ev_nil]; grind
  | k, b :: bs, acc, h => by
    simp only [List.length_cons] at h
    rw [rowZ, ev_rowZ a x (k + 1) bs _ (by rw [addAt_length]; omega), ev_addAt _ _ _ _ (by omega), ev_cons]; grind
theorem ev_mulFrom (bs : List Int) (x : Int) : ∀ (k : Nat) (as acc : List Int), as = [] ∨ k + as.length + bs.length ≤ acc.length + 1 → ev (mulFrom bs k as acc) x = ev acc x + x ^ k * ev as x * ev bs x
  | k, [], acc, _ => by rw [mulFrom, ev_nil]; grind
  | k, a :: as, acc, h => by
    simp only [List.length_cons, reduceCtorEq, false_or] at h
    rw [mulFrom, ev_mulFrom bs x (k + 1) as _ (.inr (by rw [rowZ_length]; omega)), ev_rowZ _ _ _ _ _ (by omega), ev_cons]; grind
theorem ev_zeros (x : Int) : ∀ n : Nat, ev (List.replicate n 0) x = 0
  | 0 => rfl
  | n + 1 => by rw [List.replicate_succ, ev_cons, ev_zeros x n]; simp
theorem mulZ_ev (as bs : List Int) (x : Int) : ev (mulZ as bs) x = ev as x * ev bs x := by
  unfold mulZ
  rw [ev_mulFrom bs x 0 as _ (by cases as with | nil => exact .inl rfl | cons a as => right; simp only [List.length_replicate, List.length_cons]; omega), ev_zeros]; grind
theorem mulZ_length (as bs : List Int) : (mulZ as bs).length = as.length + bs.length - 1 := by unfold mulZ; rw [mulFrom_length, List.length_replicate]
theorem mulP_ev {p : Int} (as bs : List Int) (x : Int) : Cg p (ev (mulP p as bs) x) (ev as x * ev bs x) := by
  rw [← mulZ_ev]; exact cg_map_mod p x _
theorem mulP_length (p : Int) (as bs : List Int) : (mulP p as bs).length = as.length + bs.length - 1 := by unfold mulP; rw [List.length_map, mulZ_length]
theorem mulP_rs {p : Int} (hp : 0 < p) (as bs : List Int) : Rs p (mulP p as bs) := Rs.map_mod hp _
def sclP (p c : Int) (as : List Int) : List Int := as.map fun a => a * c % p
theorem sclP_ev {p c : Int} (x : Int) : ∀ as : List Int, Cg p (ev (sclP p c as) x) (ev as x * c)
  | [] => by rw [sclP, List.map_nil, ev_nil, Int.zero_mul]; exact Cg.refl _ _
  | a :: as => by
    have := (((sclP_ev (p := p) (c := c) x as).mul (Cg.refl p x)).add (Cg.mod p (a * c)))
    rw [sclP, List.map_cons, ev_cons, ev_cons]
    exact this.trans (Cg.of_eq (by grind))
theorem sclP_rs {p : Int} (hp : 0 < p) (c : Int) (as : List Int) : Rs p (sclP p c as) := fun a ha => by
  obtain ⟨b, _, rfl⟩ := List.mem_map.mp ha
  exact ⟨Int.emod_nonneg _ (by omega), Int.emod_lt_of_pos _ hp⟩
theorem sclP_length (p c : Int) (as : List Int) : (sclP p c as).length = as.length := by simp [sclP]
/-! primes -/
def Pr (p : Int) : Prop := 2 ≤ p ∧ ∀ x y : Int, p ∣ x * y → p ∣ x ∨ p ∣ y
/-- suffixes that vanish -/
theorem coefs_of_suffixes {p r : Int} : ∀ {as : List Int}, (∀ k, Cg p (ev (as.drop k) r) 0) → ∀ a ∈ as, p ∣ a
  | [], _, a, h => by cases h
  | b :: as, hs, a, h => by
    have h0 := hs 0
    have h1 := hs 1
    rw [List.drop_zero, ev_cons] at h0
    rw [List.drop_succ_cons, List.drop_zero] at h1
    rcases List.mem_cons.mp h with rfl | h
    · have := h0.sub (h1.mul (Cg.refl p r))
      obtain ⟨k, hk⟩ := this
      exact ⟨k, by grind⟩
    · exact coefs_of_suffixes (fun k => by simpa using hs (k + 1)) a h
/-- divided by x - r -/
def dvq (r : Int) : List Int → List Int
  | [] => []
  | [_] => []
  | _ :: b :: t => ev (b :: t) r :: dvq r (b :: t)
theorem dvq_length (r : Int) : ∀ as : List Int, (dvq r as).length = as.length - 1
  | [] => rfl
  | [_] => rfl
  | _ :: b :: t => by rw [dvq, List.length_cons, dvq_length r (b :: t)]; simp
theorem dvq_ev (r x : Int) : ∀ as : List Int, ev as x = (x - r) * ev (dvq r as) x + ev as r
  | [] => by simp [dvq, ev_nil]
  | [a] => by simp [dvq, ev_nil, ev_cons]
  | a :: b :: t => by
    have := dvq_ev r x (b :: t)
    rw [dvq, ev_cons a, ev_cons a, ev_cons (ev (b :: t) r)]
    rw [this]; grind
theorem dvq_mem (r : Int) : ∀ (as : List Int) (k : Nat), k + 1 < as.length → (dvq r as)[k]? = some (ev (as.drop (k + 1)) r)
  | [], _, h => by simp at h
  | [_], _, h => by simp at h
  | a :: b :: t, 0, _ => rfl
  | a :: b :: t, k + 1, h => by
    rw [dvq, List.getElem?_cons_succ, dvq_mem r (b :: t) k (by simpa using h), List.drop_succ_cons, List.drop_succ_cons, List.drop_succ_cons]
/-- as many roots as coefficients: all are 0 -/
theorem roots_all {p : Int} (hp : Pr p) : ∀ (n : Nat) (as rs : List Int), as.length = n → rs.length = n → rs.Pairwise (fun x y => ¬ Cg p x y) → (∀ r ∈ rs, Cg p (ev as r) 0) → ∀ a ∈ as, p ∣ a
  | 0, as, _, h, _, _, _ => by rw [List.length_eq_zero_iff.mp h]; intro a ha; cases ha
  | n + 1, as, [], _, h, _, _ => by simp at h
  | n + 1, as, r :: rs, ha, hr, hn, hz => by
    rw [List.pairwise_cons] at hn
    have hr0 := hz r List.mem_cons_self
    have hq := roots_all hp n (dvq r as) rs (by rw [dvq_length, ha]; rfl) (by simpa using hr) hn.2 fun s hs => by
      have h1 := hz s (List.mem_cons_of_mem _ hs)
      rw [dvq_ev r s as] at h1
      have h2 := h1.sub hr0
      have h3 : p ∣ (s - r) * ev (dvq r as) s := by obtain ⟨k, hk⟩ := h2; exact ⟨k, by grind⟩
      rcases hp.2 _ _ h3 with h4 | h4
      · exact absurd (Cg.symm h4) (hn.1 s hs)
      · obtain ⟨k, hk⟩ := h4; exact ⟨k, by grind⟩
    refine coefs_of_suffixes (r := r) fun k => ?_
    match k with
    | 0 => exact hr0
    | k + 1 =>
      by_cases hk : k + 1 < as.length
      · have := hq _ (List.mem_of_getElem? (dvq_mem r as k hk))
        obtain ⟨j, hj⟩ := this
        exact ⟨j, by grind⟩
      · rw [List.drop_eq_nil_of_le (by omega)]; exact Cg.refl _ _
theorem ev_zipsub (x : Int) : ∀ as bs : List Int, as.length = bs.length → ev (List.zipWith (· - ·) as bs) x = ev as x - ev bs x
  | [], [], _ => rfl
  | a :: as, b :: bs, h => by
    rw [List.zipWith_cons_cons, ev_cons, ev_cons, ev_cons, ev_zipsub x as bs (Nat.succ.inj h)]; grind
theorem poly_eq {p : Int} (hp : Pr p) {as bs rs : List Int} (h1 : as.length = rs.length) (h2 : bs.length = rs.length) (ha : Rs p as) (hb : Rs p bs) (hr : rs.Pairwise fun x y => ¬ Cg p x y) (he : ∀ r ∈ rs, Cg p (ev as r) (ev bs r)) : as = bs := by
  have hz := roots_all hp rs.length (List.zipWith (· - ·) as bs) rs (by simp [h1, h2]) rfl hr fun r hr => by
    rw [ev_zipsub _ _ _ (h1.trans h2.symm)]
    have := (he r hr).sub (Cg.refl p (ev bs r))
    exact this.trans (Cg.of_eq (by grind))
  apply List.ext_getElem?
  intro i
  by_cases hi : i < rs.length
  · have i1 : i < as.length := by omega
    have i2 : i < bs.length := by omega
    rw [List.getElem?_eq_getElem i1, List.getElem?_eq_getElem i2]
    have := hz (as[i] - bs[i]) (List.mem_of_getElem? (i := i) (by rw [List.getElem?_zipWith, List.getElem?_eq_getElem i1, List.getElem?_eq_getElem i2]))
    rw [Cg.eq (p := p) this (ha _ (List.getElem_mem i1)).1 (ha _ (List.getElem_mem i1)).2 (hb _ (List.getElem_mem i2)).1 (hb _ (List.getElem_mem i2)).2]
  · rw [List.getElem?_eq_none (by omega), List.getElem?_eq_none (by omega)]
end J
namespace J
/-! one by a product: the inverse by a prime -/
/-- no divisor to the root -/
theorem pr_of_small {p : Nat} (h2 : 2 ≤ p) (hb : p < 1002001) (h : ∀ d, 2 ≤ d → d ≤ 1000 → d < p → ¬ d ∣ p) : Pr (p : Int) := by
  have cop : ∀ x : Nat, ¬ p ∣ x → Nat.gcd p x = 1 := fun x hx => by
    have hd : Nat.gcd p x ∣ p := Nat.gcd_dvd_left p x
    obtain ⟨q, hq⟩ := hd
    have hpos : 0 < Nat.gcd p x := Nat.gcd_pos_of_pos_left _ (by omega)
    by_cases h1 : Nat.gcd p x = 1
    · exact h1
    by_cases hp : Nat.gcd p x = p
    · exact absurd (hp ▸ Nat.gcd_dvd_right p x) hx
    · exfalso
      generalize hg : Nat.gcd p x = g at *
      have gp : g ≤ p := Nat.le_of_dvd (by omega) ⟨q, hq⟩
      by_cases hg1 : g ≤ 1000
      · exact h g (by omega) hg1 (by omega) ⟨q, hq⟩
      · have q1 : q ≤ 1000 := by
          apply Nat.le_of_lt_succ
          apply Nat.lt_of_not_le
          intro hq1
          have := Nat.mul_le_mul (show 1001 ≤ g by omega) hq1
          omega
        have q2 : 2 ≤ q := by
          match q, hq with
          | 0, hq => omega
          | 1, hq => omega
          | q + 2, _ => omega
        have q3 : q < p := by
          have := Nat.mul_le_mul (show 1001 ≤ g by omega) (Nat.le_refl q)
          omega
        exact h q q2 q1 q3 ⟨g, by rw [hq, Nat.mul_comm]⟩
  refine ⟨by omega, fun x y hxy => ?_⟩
  have hn : p ∣ x.natAbs * y.natAbs := by
    have := Int.natAbs_dvd_natAbs.mpr hxy
    rwa [Int.natAbs_mul, Int.natAbs_natCast] at this
  by_cases hx : p ∣ x.natAbs
  · exact .inl (Int.natAbs_dvd_natAbs.mp (by rwa [Int.natAbs_natCast]))
  · exact .inr (Int.natAbs_dvd_natAbs.mp (by rw [Int.natAbs_natCast]; exact (Nat.Coprime.dvd_of_dvd_mul_left (show Nat.Coprime p x.natAbs from cop _ hx)) hn))
def smallOk (p : Nat) : Bool := decide (2 ≤ p) && decide (p < 1002001) && (List.range 1001).all fun d => d < 2 || decide (p ≤ d) || p % d != 0
theorem pr_of_ok {p : Nat} (h : smallOk p = true) : Pr (p : Int) := by
  unfold smallOk at h
  rw [Bool.and_eq_true, Bool.and_eq_true, decide_eq_true_iff, decide_eq_true_iff, List.all_eq_true] at h
  refine pr_of_small h.1.1 h.1.2 fun d h1 h2 h3 hd => ?_
  have := h.2 d (List.mem_range.mpr (by omega))
  rw [Bool.or_eq_true, Bool.or_eq_true, decide_eq_true_iff, decide_eq_true_iff, bne_iff_ne] at this
  rcases this with (h | h) | h
  · omega
  · omega
  · exact h (Nat.mod_eq_zero_of_dvd hd)
def thePrimes : List Int := [3, 3, 5, 5, 7, 7, 11, 13, 31, 101, 257, 1009, 65537, 1000003]
theorem pr_the : ∀ p ∈ thePrimes, Pr p ∧ 3 ≤ p ∧ p ≤ 1000003 ∧ p % 2 = 1 := by
  have : thePrimes.all (fun p => smallOk p.toNat && decide (3 ≤ p) && decide (p ≤ 1000003) && decide (p % 2 = 1)) = true := by decide +kernel
  intro p hp
  have := List.all_eq_true.mp this p hp
  simp only [Bool.and_eq_true, decide_eq_true_iff] at this
  obtain ⟨⟨⟨h1, h2⟩, h3⟩, h4⟩ := this
  have := pr_of_ok h1
  rw [Int.toNat_of_nonneg (by omega)] at this
  exact ⟨this, h2, h3, h4⟩
/-- told by trial, as the program does -/
def triedOne (v : Int) (i : Nat) : Bool := decide (v < (3 + (i : Int) * 2) * (3 + (i : Int) * 2)) || !decide (v % (3 + (i : Int) * 2) = 0)
def primeB (v : Int) : Bool := (decide (3 ≤ v) && decide (v ≤ 1000003)) && !decide (v % 2 = 0) && (List.range 499).all (triedOne v)
theorem Pr.not_dvd {p d : Int} (h : Pr p) (h1 : 1 < d) (h2 : d < p) : ¬ d ∣ p := fun ⟨q, hq⟩ => by
  have hq0 : 0 < q := by
    apply Int.pos_of_mul_pos_right (a := d) _ (by omega)
    rw [← hq]; omega
  rcases h.2 d q (hq ▸ Int.dvd_refl p) with h | h
  · have := Int.le_of_dvd (by omega) h; omega
  · have := Int.le_of_dvd hq0 h
    have h4 : 2 * q ≤ d * q := Int.mul_le_mul_of_nonneg_right (by omega) (by omega)
    omega
theorem primeB_of {p : Int} (h : Pr p) (h3 : 3 ≤ p) (h4 : p ≤ 1000003) : primeB p = true := by
  unfold primeB
  have odd : ¬ p % 2 = 0 := fun e => h.not_dvd (d := 2) (by omega) (by omega) (Int.dvd_of_emod_eq_zero e)
  simp only [h3, h4, odd, decide_true, decide_false, Bool.not_false, Bool.and_self, Bool.true_and, List.all_eq_true]
  intro i hi
  unfold triedOne
  rw [Bool.or_eq_true, decide_eq_true_iff, Bool.not_eq_true', decide_eq_false_iff_not]
  by_cases hl : p < (3 + (i : Int) * 2) * (3 + (i : Int) * 2)
  · exact .inl hl
  · refine .inr fun e => h.not_dvd (d := 3 + (i : Int) * 2) (by omega) ?_ (Int.dvd_of_emod_eq_zero e)
    have : (3 + (i : Int) * 2) * 3 ≤ (3 + (i : Int) * 2) * (3 + (i : Int) * 2) := Int.mul_le_mul_of_nonneg_left (by omega) (by omega)
    omega
/-! the steps of Euclid -/
structure Euc (p r one other mine its : Int) : Prop where
  p1 : 0 < one
  p2 : 0 ≤ other
  l : other < one
  b : one ≤ p
  c1 : Cg p one (mine * r)
  c2 : Cg p other (its * r)
  g : Int.gcd one other = 1
theorem Euc.init {p r : Int} (hp : Pr p) (h1 : 0 < r) (h2 : r < p) : Euc p r p r 0 1 where
  p1 := by omega
  p2 := by omega
  l := h2
  b := Int.le_refl _
  c1 := ⟨1, by grind⟩
  c2 := ⟨0, by grind⟩
  g := by
    have hd1 : (Int.gcd p r : Int) ∣ p := Int.gcd_dvd_left p r
    have hd2 : (Int.gcd p r : Int) ∣ r := Int.gcd_dvd_right p r
    have := Int.le_of_dvd h1 hd2
    by_cases hg : 1 < (Int.gcd p r : Int)
    · exact absurd hd1 (hp.not_dvd hg (by omega))
    · have : 0 < Int.gcd p r := Int.gcd_pos_of_ne_zero_right _ (by omega)
      omega
theorem Euc.step {p r one other mine its : Int} (h : Euc p r one other mine its) (h0 : 0 < other) : Euc p r other (one - one / other * other) its (mine - one / other * its) := by
  have e : one - one / other * other = one % other := by have := Int.mul_ediv_add_emod one other; grind
  refine ⟨h0, ?_, ?_, Int.le_trans (Int.le_of_lt h.l) h.b, h.c2, ?_, ?_⟩
  · rw [e]; exact Int.emod_nonneg _ (by omega)
  · rw [e]; exact Int.emod_lt_of_pos _ h0
  · have := h.c1.sub ((Cg.refl p (one / other)).mul h.c2)
    exact this.trans (Cg.of_eq (by grind))
  · rw [e]
    have d1 : (Int.gcd other (one % other) : Int) ∣ other := Int.gcd_dvd_left ..
    have d2 : (Int.gcd other (one % other) : Int) ∣ one % other := Int.gcd_dvd_right ..
    have d3 : (Int.gcd other (one % other) : Int) ∣ one := by
      have := Int.dvd_add (Int.dvd_mul_of_dvd_left d1 (c := one / other)) d2
      rwa [Int.mul_ediv_add_emod] at this
    have n1 := Int.natAbs_dvd_natAbs.mpr d1
    have n3 := Int.natAbs_dvd_natAbs.mpr d3
    rw [Int.natAbs_natCast] at n1 n3
    have := Nat.dvd_gcd n3 n1
    rw [show Nat.gcd one.natAbs other.natAbs = 1 from h.g] at this
    exact Nat.dvd_one.mp this
theorem Euc.done {p r one mine its : Int} (h : Euc p r one 0 mine its) : Cg p (mine % p * r) 1 := by
  have e : one = 1 := by
    have := h.g
    rw [Int.gcd_zero_right] at this
    have := h.p1
    omega
  subst e
  exact ((Cg.mod p mine).mul (Cg.refl _ _)).trans h.c1.symm
end J
namespace J
/-- nought at just these -/
structure Ahd (p : Int) (done ahead : List Int) : Prop where
  la : ahead.length = done.length + 1
  ra : Rs p ahead
  za : ∀ d ∈ done, Cg p (ev ahead d) 0
  na : ∀ x, (∀ d ∈ done, ¬ Cg p x d) → ¬ Cg p (ev ahead x) 0
theorem Ahd.init {p : Int} (hp : Pr p) : Ahd p [] [1] where
  la := rfl
  ra := fun a ha => by
    have := hp.1
    rw [List.mem_singleton.mp ha]; omega
  za := fun d hd => by cases hd
  na := fun x _ h => by
    have h : p ∣ 1 := by simpa [Cg, ev] using h
    have := Int.le_of_dvd (by omega) h
    have := hp.1
    omega
theorem lin_ev (p r x : Int) : Cg p (ev [(-r) % p, 1] x) (x - r) := by
  have : ev [(-r) % p, 1] x = x + (-r) % p := by simp [ev]
  rw [this]
  exact ((Cg.refl p x).add (Cg.mod p (-r))).trans (Cg.of_eq (by omega))
theorem Ahd.step {p r : Int} {done ahead : List Int} (hp : Pr p) (h : Ahd p done ahead) : Ahd p (done ++ [r]) (mulP p ahead [(-r) % p, 1]) where
  la := by rw [mulP_length, h.la, List.length_append]; simp
  ra := mulP_rs (by have := hp.1; omega) _ _
  za := fun d hd => by
    refine (mulP_ev _ _ _).trans (((Cg.refl p (ev ahead d)).mul (lin_ev p r d)).trans ?_)
    rcases List.mem_append.mp hd with hd | hd
    · exact ((h.za d hd).mul (Cg.refl p (d - r))).trans (Cg.of_eq (by simp))
    · rw [List.mem_singleton.mp hd]; exact Cg.of_eq (by simp)
  na := fun x hx e => by
    have e2 := ((mulP_ev (p := p) ahead [(-r) % p, 1] x).trans ((Cg.refl p (ev ahead x)).mul (lin_ev p r x))).symm.trans e
    have e3 : p ∣ ev ahead x * (x - r) := by simpa [Cg] using e2
    rcases hp.2 _ _ e3 with e4 | e4
    · exact h.na x (fun d hd => hx d (List.mem_append_left _ hd)) (by simpa [Cg] using e4)
    · exact hx r (by simp) e4
/-- so far along -/
structure Thr (p : Int) (done : List (Int × Int)) (found ahead : List Int) : Prop where
  lf : found.length = max 1 done.length
  rf : Rs p found
  vf : ∀ d ∈ done, Cg p (ev found d.1) d.2
  ah : Ahd p (done.map (·.1)) ahead
theorem Thr.init {p : Int} (hp : Pr p) : Thr p [] [0] [1] where
  lf := rfl
  rf := fun a ha => by
    have := hp.1
    rw [List.mem_singleton.mp ha]; omega
  vf := fun d hd => by cases hd
  ah := Ahd.init hp
theorem Thr.step {p r v iv : Int} {done : List (Int × Int)} {found ahead : List Int} (hp : Pr p) (h : Thr p done found ahead) (hi : Cg p (iv * horner p r ahead) 1) :
    Thr p (done ++ [(r, v)]) (addP p found (sclP p ((v - horner p r found) * iv % p) ahead)) (mulP p ahead [(-r) % p, 1]) where
  lf := by rw [addP_length, sclP_length, h.lf, h.ah.la, List.length_map, List.length_append]; simp
  rf := addP_rs (by have := hp.1; omega) h.rf (sclP_rs (by have := hp.1; omega) _ _)
  vf := fun d hd => by
    refine (addP_ev _ _ _).trans (((Cg.refl p (ev found d.1)).add ((sclP_ev _ _).trans ((Cg.refl p (ev ahead d.1)).mul (Cg.mod p _)))).trans ?_)
    rcases List.mem_append.mp hd with hd | hd
    · refine ((h.vf d hd).add ((h.ah.za d.1 (List.mem_map_of_mem hd)).mul (Cg.refl p _))).trans (Cg.of_eq (by simp))
    · rw [List.mem_singleton.mp hd]
      show Cg p (ev found r + ev ahead r * ((v - horner p r found) * iv)) v
      have h1 : Cg p (iv * ev ahead r) 1 := ((Cg.refl p iv).mul (cg_horner p r ahead)).symm.trans hi
      have h2 := cg_horner p r found
      have h3 := ((Cg.refl p (v - horner p r found)).mul h1)
      have h4 := (h2.symm.add h3)
      exact (Cg.of_eq (by grind)).trans (h4.trans (Cg.of_eq (by grind)))
  ah := by rw [List.map_append]; exact h.ah.step hp
theorem horner_pos {p x : Int} {done ahead : List Int} (hp : Pr p) (h : Ahd p done ahead) (hx : ∀ d ∈ done, ¬ Cg p x d) : 0 < horner p x ahead ∧ horner p x ahead < p := by
  have h0 := horner_range (p := p) (by have := hp.1; omega) x ahead
  refine ⟨?_, h0.2⟩
  by_cases e : horner p x ahead = 0
  · exact absurd ((cg_horner p x ahead).symm.trans (Cg.of_eq e)) (h.na x hx)
  · omega
/-- a polynomial through the points -/
structure IsThr (p : Int) (pts : List (Int × Int)) (cs : List Int) : Prop where
  len : cs.length = pts.length
  rs : Rs p cs
  val : ∀ d ∈ pts, Cg p (ev cs d.1) d.2
theorem Thr.done {p : Int} {pts : List (Int × Int)} {found ahead : List Int} (h : Thr p pts found ahead) (hn : pts ≠ []) : IsThr p pts found :=
  ⟨by rw [h.lf]; have := List.length_pos_iff.mpr hn; omega, h.rf, h.vf⟩
/-- unlike residues -/
def Unl (p : Int) (rs : List Int) : Prop := Rs p rs ∧ rs.Nodup
theorem Unl.pw {p : Int} {rs : List Int} (h : Unl p rs) : rs.Pairwise fun x y => ¬ Cg p x y := by
  refine (List.Pairwise.and_mem.mp h.2).imp ?_
  rintro x y ⟨hx, hy, e⟩ hc
  exact e (hc.eq (h.1 x hx).1 (h.1 x hx).2 (h.1 y hy).1 (h.1 y hy).2)
theorem isThr_eq {p : Int} (hp : Pr p) {pts : List (Int × Int)} {as bs : List Int} (h : IsThr p pts as) (g : IsThr p pts bs) (hu : Unl p (pts.map (·.1))) : as = bs :=
  poly_eq hp (rs := pts.map (·.1)) (by rw [h.len, List.length_map]) (by rw [g.len, List.length_map]) h.rs g.rs hu.pw fun r hr => by
    obtain ⟨d, hd, rfl⟩ := List.mem_map.mp hr
    exact (h.val d hd).trans (g.val d hd).symm
theorem IsThr.perm {p : Int} {pts qts : List (Int × Int)} {as : List Int} (h : IsThr p pts as) (e : pts.Perm qts) : IsThr p qts as :=
  ⟨h.len.trans e.length_eq, h.rs, fun d hd => h.val d (e.mem_iff.mpr hd)⟩
/-- an inverse by the modulus -/
structure IsInv (p r x : Int) : Prop where
  lo : 0 ≤ x
  hi : x < p
  one : Cg p (x * r) 1
/-- noughts, and a value beside them -/
theorem with_thr {p r v iv : Int} {ns found : List Int} (hp : Pr p) (h : Ahd p ns found) (hi : Cg p (iv * horner p r found) 1) :
    IsThr p (ns.map (fun n => (n, (0 : Int))) ++ [(r, v)]) (sclP p (v * iv % p) found) where
  len := by rw [sclP_length, h.la, List.length_append, List.length_map]; rfl
  rs := sclP_rs (by have := hp.1; omega) _ _
  val := fun d hd => by
    refine (sclP_ev _ _).trans (((Cg.refl p (ev found d.1)).mul (Cg.mod p _)).trans ?_)
    rcases List.mem_append.mp hd with hd | hd
    · obtain ⟨n, hn, rfl⟩ := List.mem_map.mp hd
      exact ((h.za n hn).mul (Cg.refl p _)).trans (Cg.of_eq (by simp))
    · rw [List.mem_singleton.mp hd]
      show Cg p (ev found r * (v * iv)) v
      have h1 : Cg p (iv * ev found r) 1 := ((Cg.refl p iv).mul (cg_horner p r found)).symm.trans hi
      have h3 := ((Cg.refl p v).mul h1)
      exact (Cg.of_eq (by grind)).trans (h3.trans (Cg.of_eq (by grind)))
end J
namespace J
open PySem PySem.Spec PyProof.Rows L2
abbrev pw := PySem.Challenge.pw_fewthrows_k01_whole_polynomials_through
def top (i : Nat) : Stmt := pw.main.body.getD i (.Pass ⟨0, 0, 0, 0⟩)
/-! small words -/
theorem drop_get {α : Type} {xs : List α} {i : Nat} {x : α} (h : xs[i]? = some x) : xs.drop i = x :: xs.drop (i + 1) := by
  obtain ⟨h1, h2⟩ := List.getElem?_eq_some_iff.mp h
  rw [List.drop_eq_getElem_cons h1, h2]
theorem it_map {α : Type} {f : α → D} {xs : List α} {i : Nat} {d : D} (h : (xs.map f)[i]? = some d) : ∃ x, xs[i]? = some x ∧ d = f x := by
  rw [List.getElem?_map] at h
  cases e : xs[i]? with
  | none => rw [e] at h; cases h
  | some x => rw [e] at h; exact ⟨x, rfl, by cases h; rfl⟩
theorem it_range {lo c : Int} {n i : Nat} {d : D} (h : (rangeD lo c n)[i]? = some d) : i < n ∧ d = .int (lo + (i : Nat) * c) := by
  obtain ⟨h1, h2⟩ := List.getElem?_eq_some_iff.mp h
  rw [rangeD_length] at h1
  rw [rangeD_get h1] at h
  cases h
  exact ⟨h1, rfl⟩
theorem zipD_map {α β : Type} {f : α → D} {g : β → D} (xs : List α) (ys : List β) : zipD (xs.map f) (ys.map g) = (xs.zip ys).map fun q => .tup [f q.1, g q.2] := by
  unfold zipD
  rw [List.zipWith_map, List.zip, List.map_zipWith]
theorem enumD_map {α : Type} {f : α → D} (xs : List α) : enumD (xs.map f) = xs.zipIdx.map fun q => .tup [.int (q.2 : Nat), f q.1] := by
  unfold enumD
  rw [List.zipIdx_map, List.map_map]; rfl
theorem cut_drop {α : Type} (xs : List α) (n : Nat) : cutD xs (some (n : Int)) none = xs.drop n := by
  unfold cutD
  rw [show HT.sIx xs.length 0 (some (n : Int)) = min n xs.length from HT.sIx_nat .., show HT.sIx xs.length xs.length none = xs.length from rfl]
  by_cases h : n ≤ xs.length
  · rw [Nat.min_eq_left h, List.take_of_length_le (by simp)]
  · rw [Nat.min_eq_right (by omega), List.drop_length, List.drop_eq_nil_of_le (by omega)]; simp
theorem szok {n : Nat} (h : Nat.ble n sizeLine = true := by rfl) : n ≤ sizeLine := Nat.le_of_ble_eq_true h
/-- built-in names that nothing shadows -/
structure BN (mg : Str → Option Value) : Prop where
  len : mg "len" = none
  isi : mg "isinstance" = none
  all : mg "all" = none
  sum : mg "sum" = none
  sorted : mg "sorted" = none
  tuple : mg "tuple" = none
  list : mg "list" = none
  int : mg "int" = none
  bool : mg "bool" = none
  abs : mg "abs" = none
  max : mg "max" = none
  min : mg "min" = none
  repr : mg "repr" = none
  set : mg "set" = none
  range : mg "range" = none
  zip : mg "zip" = none
  enumerate : mg "enumerate" = none
/-- a name of a number -/
def CI (mg : Str → Option Value) (x : Str) (i : Int) : Prop := ∃ t, mg x = some (.int i t)
def D.isInt : D → Bool
  | .int _ => true
  | _ => false
def D.isIdx (n : Int) : D → Bool
  | .int i => decide (0 ≤ i) && decide (i < n)
  | _ => false
def D.primeB : D → Bool
  | .int i => J.primeB i
  | _ => false
def tyns : List String := ["NoneType", "bool", "int", "str", "tuple", "list", "dict"]
theorem tyns_kit : ∀ t ∈ tyns, ∀ T ∈ ["int", "bool", "str", "tuple", "list", "dict"], kitB t T = some (t == T || (t == "bool" && T == "int")) := by decide +kernel
theorem D.tyn_mem {d : D} {t : String} (h : d.tyn = some t) : t ∈ tyns := by
  cases d <;> cases h <;> decide
theorem D.kit {d : D} (h : d.tyn.isSome = true) {T : String} (hT : T ∈ ["int", "bool", "str", "tuple", "list", "dict"]) : ∃ t, d.tyn = some t ∧ kitB t T = some (t == T || (t == "bool" && T == "int")) := by
  obtain ⟨t, ht⟩ := Option.isSome_iff_exists.mp h
  exact ⟨t, ht, tyns_kit t (D.tyn_mem ht) T hT⟩
theorem D.isi {d : D} (h : d.tyn.isSome = true) : ∃ t k1 k2, d.tyn = some t ∧ kitB t "int" = some k1 ∧ kitB t "bool" = some k2 ∧ (k1 && !k2) = d.isInt := by
  obtain ⟨t, ht, h1⟩ := D.kit h (T := "int") (by decide)
  obtain ⟨t', ht', h2⟩ := D.kit h (T := "bool") (by decide)
  cases ht.symm.trans ht'
  refine ⟨t, _, _, ht, h1, h2, ?_⟩
  cases d <;> cases ht <;> rfl
def D.isTup : D → Bool
  | .tup _ => true
  | _ => false
theorem D.isiT {d : D} (h : d.tyn.isSome = true) : ∃ t, d.tyn = some t ∧ kitB t "tuple" = some d.isTup := by
  obtain ⟨t, ht, h1⟩ := D.kit h (T := "tuple") (by decide)
  refine ⟨t, ht, h1.trans ?_⟩
  cases d <;> cases ht <;> rfl
theorem all_map {α : Type} (f : α → Bool) (g : α → D) (h : D → Bool) (e : ∀ x, h (g x) = f x) (xs : List α) : (xs.map g).all h = xs.all f := by
  rw [List.all_map]; congr 1; funext x; exact e x
variable {P : Program} {w : World} {K : PySem.W.Frag} {mg : Str → Option Value} {base : Heap} {k : Nat}

def spWorth : DSp := fun ds M Q => ∃ (p r : Int) (as : List Int), ds = [.int p, .tup (as.map D.int), .int r] ∧ 0 < p ∧ p < 2 ^ 30 ∧ 0 ≤ r ∧ r < p ∧ Q (.int (horner p r as)) M
theorem scWorth : FnScope ["prime", "poly", "residue", "found", "coefficient"] ["prime", "poly", "residue"] (defScope (top 20)) := ⟨rfl, rfl, rfl, by decide +kernel, rfl, by decide +kernel, by decide +kernel⟩
def hfold (p r : Int) (z : Int) (xs : List Int) : Int := xs.foldl (fun acc a => (acc * r + a) % p) z
theorem hfold_rev (p r : Int) (as : List Int) : hfold p r 0 as.reverse = horner p r as := by unfold hfold horner; rw [List.foldl_reverse]
theorem ok_worth {f : Addr} {fd : FuncData} (F : Fun K "worth_at" "worth_at" (top 20) f fd) : FnG P w K mg base CX0 (k + 1) f fd ["prime", "poly", "residue"] (lift K spWorth) :=
  have sc := scWorth
  def_ok F sc (fun ds M Q ⟨p, r, as, e, _⟩ => by rw [e]; rfl) fun cdv A outer s H E B ds M Q hr hgd h => by
    obtain ⟨p, r, as, rfl, hp, hp2, hr0, hr1, q⟩ := h
    refine js_cons (js_set 3 sc.nd (je_int ?_))
    refine js_cons (js_for PassesOwn.never rfl (ji_tup (je_revT (je_var 1 rfl ⟨_, rfl, ⟨_, rfl, ⟨[4], fun i ρ M' => M' = M ∧ ∃ z c4, ρ = [some (.int p), some (.tup (as.map D.int)), some (.int r), some (.int z), c4] ∧ 0 ≤ z ∧ z < p ∧ hfold p r z (as.reverse.drop i) = horner p r as, ?_, fun _ _ _ _ => trivial, fun i d ρ M hd hI => ?_, fun ρ M hI => ?_⟩⟩⟩))))
    · exact ⟨rfl, 0, none, rfl, Int.le_refl _, hp, hfold_rev p r as⟩
    · obtain ⟨rfl, z, c4, rfl, z0, z1, hz⟩ := hI
      rw [← List.map_reverse] at hd
      obtain ⟨a, ha, rfl⟩ := it_map hd
      rw [drop_get ha] at hz
      refine jg_name 4 sc.nd ?_
      refine js_one (js_set 3 sc.nd (je_mod (je_add (je_mul (je_var 3 rfl (je_var 2 rfl ⟨_, _, rfl, rfl, ?_, (je_var 4 rfl ⟨_, _, rfl, rfl, (je_var 0 rfl ⟨_, _, rfl, rfl, ?_, ?_⟩)⟩)⟩))))))
      · exact .inr (by omega)
      · exact hp
      · exact ⟨rfl, _, _, rfl, Int.emod_nonneg _ (by omega), Int.emod_lt_of_pos _ hp, hz⟩
    · obtain ⟨rfl, z, c4, rfl, z0, z1, hz⟩ := hI
      rw [List.length_reverse, List.length_map, ← List.length_reverse, List.drop_length] at hz
      subst hz
      exact js_one (js_ret (je_var 3 rfl q))

def spIsInteger : DSp := fun ds M Q => ∃ d : D, ds = [d] ∧ d.tyn.isSome = true ∧ Q (.bl d.isInt) M
theorem scIsInteger : FnScope ["value"] ["value"] (defScope (top 10)) := ⟨rfl, rfl, rfl, by decide +kernel, rfl, by decide +kernel, by decide +kernel⟩
theorem ok_is_integer {f : Addr} {fd : FuncData} (bn : BN mg) (F : Fun K "is_integer" "is_integer" (top 10) f fd) : FnG P w K mg base CX0 (k + 1) f fd ["value"] (lift K spIsInteger) :=
  have sc := scIsInteger
  def_ok F sc (fun ds M Q ⟨d, e, _⟩ => by rw [e]; rfl) fun cdv A outer s H E B ds M Q hr hgd h => by
    obtain ⟨d, rfl, hd, q⟩ := h
    obtain ⟨t, k1, k2, ht, h1, h2, e⟩ := D.isi hd
    refine js_one (js_ret (je_andP (je_isi bn.isi (ja_cons (je_var 0 rfl (ja_cons (je_type bn.int (by decide +kernel) (ja_nil ⟨_, _, _, _, _, rfl, .id _, ht, h1, ⟨_, _, rfl, fun _ => (je_and1 (je_not (je_isi bn.isi (ja_cons (je_var 0 rfl (ja_cons (je_type bn.bool (by decide +kernel) (ja_nil ⟨_, _, _, _, _, rfl, .id _, ht, h2, ⟨_, rfl, ⟨rfl, rfl⟩⟩⟩)))))))), ?_⟩⟩))))))))
    rw [e]; exact q

def spIsIndex : DSp := fun ds M Q => ∃ (d : D) (n : Int), ds = [d, .int n] ∧ d.tyn.isSome = true ∧ Q (.bl (d.isIdx n)) M
theorem scIsIndex : FnScope ["value", "many"] ["value", "many"] (defScope (top 11)) := ⟨rfl, rfl, rfl, by decide +kernel, rfl, by decide +kernel, by decide +kernel⟩
theorem ok_is_index {f : Addr} {fd : FuncData} (h_is_integer : Has P w K mg base "is_integer" k ["value"] spIsInteger) (F : Fun K "is_index" "is_index" (top 11) f fd) : FnG P w K mg base CX0 (k + 1) f fd ["value", "many"] (lift K spIsIndex) :=
  have sc := scIsIndex
  def_ok F sc (fun ds M Q ⟨d, n, e, _⟩ => by rw [e]; rfl) fun cdv A outer s H E B ds M Q hr hgd h => by
    obtain ⟨d, n, rfl, hd, q⟩ := h
    refine js_one (js_ret (je_andP (je_callH h_is_integer hr hgd (ja_cons (je_var 0 rfl (ja_nil ⟨[], _, permI, _, rfl, hd, _, perm0, _, d.isIdx n, rfl, fun hk => (je_and1 ?_), ?_⟩))))))
    · cases d <;> first | cases hk | skip
      exact je_chainP op_le op_lt (je_int (je_var 0 rfl ⟨_, _, _, rfl, rfl, (je_var 1 rfl ⟨rfl, rfl⟩), ⟨rfl, rfl⟩⟩))
    · cases d <;> exact q

def spIsPrime : DSp := fun ds M Q => ∃ d : D, ds = [d] ∧ d.tyn.isSome = true ∧ Q (.bl d.primeB) M
theorem scIsPrime : FnScope ["value", "divisor"] ["value"] (defScope (top 12)) := ⟨rfl, rfl, rfl, by decide +kernel, rfl, by decide +kernel, by decide +kernel⟩
theorem ok_is_prime {f : Addr} {fd : FuncData} (bn : BN mg) (c1 : CI mg "LEAST_PRIME" 3) (c2 : CI mg "GREATEST_PRIME" 1000003) (c3 : CI mg "GREATEST_DIVISOR" 1000) (h_is_integer : Has P w K mg base "is_integer" k ["value"] spIsInteger) (F : Fun K "is_prime" "is_prime" (top 12) f fd) : FnG P w K mg base CX0 (k + 1) f fd ["value"] (lift K spIsPrime) :=
  have sc := scIsPrime
  def_ok F sc (fun ds M Q ⟨d, e, _⟩ => by rw [e]; rfl) fun cdv A outer s H E B ds M Q hr hgd h => by
    obtain ⟨d, rfl, hd, q⟩ := h
    obtain ⟨t1, c1⟩ := c1
    obtain ⟨t2, c2⟩ := c2
    obtain ⟨t3, c3⟩ := c3
    by_cases hi : d.isInt = true
    · cases d <;> first | cases hi | skip
      rename_i v
      refine js_cons (js_if (JW.jt (jt_orP (jt_not (jt_val (je_callH h_is_integer hr hgd (ja_cons (je_var 0 rfl (ja_nil ⟨[], _, permI, _, rfl, hd, _, perm0, _, rfl, ⟨_, fun _ => (jt_orP (jt_not (jt_chainP op_le op_le (je_globI c1 (je_var 0 rfl ⟨_, _, _, rfl, rfl, (je_globI c2 ⟨rfl, rfl⟩), ⟨_, fun _ => (jw_or1 (jt_eqI (je_mod (je_var 0 rfl (je_int ⟨_, _, rfl, rfl, (show (0 : Int) < 2 by decide), (je_int ⟨_, _, rfl, rfl, ⟨rfl, rfl⟩⟩)⟩))))), ⟨rfl, rfl⟩⟩⟩))))), ⟨fun hk => ?_, fun hk => ?_⟩⟩⟩)))))))))
      · refine js_one (js_ret (je_bl ?_))
        have : D.primeB (.int v) = false := by
          show J.primeB v = false
          unfold J.primeB
          revert hk
          simp only [D.isInt]
          cases decide (3 ≤ v) <;> cases decide (v ≤ 1000003) <;> cases decide (v % 2 = 0) <;> simp
        rw [this] at q
        exact q
      · refine js_nil ?_
        have hB : J.primeB v = (List.range 499).all (triedOne v) := by
          unfold J.primeB
          revert hk
          simp only [D.isInt]
          cases decide (3 ≤ v) <;> cases decide (v ≤ 1000003) <;> cases decide (v % 2 = 0) <;> simp
        replace q : Q (.bl ((List.range 499).all (triedOne v))) M := by rw [← hB]; exact q
        refine js_cons (js_for PassesOwn.never rfl (ji_range3 bn.range (ja_cons (je_globI c1 (ja_cons (je_add (je_globI c3 (je_int ⟨_, _, rfl, rfl, (ja_cons (je_int (ja_nil ⟨_, _, _, 499, rfl, ⟨by decide, by decide, by decide +kernel, by decide +kernel⟩, ⟨[1], fun i ρ M' => M' = M ∧ (∃ c, ρ = [some (.int v), c]) ∧ ∀ j, j < i → triedOne v j = true ∧ ¬ v < (3 + (j : Int) * 2) * (3 + (j : Int) * 2), ?_, fun _ _ _ _ => trivial, fun i d ρ M hd hI => ?_, fun ρ M hI => ?_⟩⟩)))⟩))))))))
        · exact ⟨rfl, ⟨none, rfl⟩, fun j hj => absurd hj (Nat.not_lt_zero j)⟩
        · obtain ⟨rfl, ⟨c, rfl⟩, hj⟩ := hI
          obtain ⟨hi, rfl⟩ := it_range hd
          refine jg_name 1 sc.nd ?_
          refine js_cons (js_if (jt_gtI (je_mul (je_var 1 rfl (je_var 1 rfl ⟨_, _, rfl, rfl, .inr (by omega), (je_var 0 rfl ⟨_, _, rfl, rfl, ⟨fun hk => ?_, fun hk => ?_⟩⟩)⟩)))))
          · refine js_one (js_ret (je_bl ?_))
            have : (List.range 499).all (triedOne v) = true := by
              rw [List.all_eq_true]
              intro j hj'
              by_cases hji : j < i
              · exact (hj j hji).1
              · have h1 := of_decide_eq_true hk
                unfold triedOne
                rw [Bool.or_eq_true, decide_eq_true_iff]
                left
                have h2 : (3 + (i : Int) * 2) ≤ 3 + (j : Int) * 2 := by omega
                exact Int.lt_of_lt_of_le h1 (Int.mul_le_mul h2 h2 (by omega) (by omega))
            rw [this] at q
            exact q
          · refine js_nil ?_
            have hn : ¬ v < (3 + (i : Int) * 2) * (3 + (i : Int) * 2) := of_decide_eq_false hk
            refine js_one (js_if (jt_eqI (je_mod (je_var 0 rfl (je_var 1 rfl ⟨_, _, rfl, rfl, by omega, (je_int ⟨_, _, rfl, rfl, ⟨fun hk2 => ?_, fun hk2 => ?_⟩⟩)⟩)))))
            · refine js_one (js_ret (je_bl ?_))
              have : (List.range 499).all (triedOne v) = false := by
                rw [List.all_eq_false]
                refine ⟨i, List.mem_range.mpr hi, ?_⟩
                unfold triedOne
                rw [show decide (v % (3 + (i : Int) * 2) = 0) = true from hk2]
                simpa using hn
              rw [this] at q
              exact q
            · refine js_nil ?_
              refine ⟨rfl, ⟨_, rfl⟩, fun j hj' => ?_⟩
              by_cases hji : j < i
              · exact hj j hji
              · obtain rfl : j = i := by omega
                refine ⟨?_, hn⟩
                unfold triedOne
                rw [show decide (v % (3 + (j : Int) * 2) = 0) = false from hk2]
                simp
        · obtain ⟨rfl, ⟨c, rfl⟩, hj⟩ := hI
          refine js_one (js_ret (je_bl ?_))
          have : (List.range 499).all (triedOne v) = true := by
            rw [List.all_eq_true]
            intro j hj'
            exact (hj j (List.mem_range.mp hj')).1
          rw [this] at q
          exact q
    · have hi : d.isInt = false := by simpa using hi
      refine js_cons (js_if (JW.jt (jt_orP (jt_not (jt_val (je_callH h_is_integer hr hgd (ja_cons (je_var 0 rfl (ja_nil ⟨[], _, permI, _, rfl, hd, _, perm0, _, rfl, ⟨true, (fun h => by rw [show D.isInt d = true by simpa using h] at hi; cases hi), ⟨fun hk => ?_, fun hk => ?_⟩⟩⟩)))))))))
      · refine js_one (js_ret (je_bl ?_))
        cases d <;> first | (cases hi; done) | exact q
      · rw [hi] at hk; cases hk
end J
namespace J
open PySem PySem.Spec PyProof.Rows L2
variable {P : Program} {w : World} {K : PySem.W.Frag} {mg : Str → Option Value} {base : Heap} {k : Nat}
def D.isRes (p : Int) : D → Bool
  | .tup xs => xs.all (·.isIdx p)
  | _ => false
def D.tyAll (xs : List D) : Prop := ∀ x ∈ xs, x.tyn.isSome = true
def D.tyKids : D → Prop
  | .tup xs => D.tyAll xs
  | _ => True
theorem wz (n : Nat) : n ≤ 2 ^ 24 → n ≤ sizeLine := id
def spAreRes : DSp := fun ds M Q => ∃ (d : D) (p : Int), ds = [.int p, d] ∧ d.tyn.isSome = true ∧ d.tyKids ∧ (∀ xs, d = .tup xs → xs.length ≤ sizeLine) ∧ Q (.bl (d.isRes p)) M
theorem scAreRes : FnScope ["prime", "value", "one"] ["prime", "value"] (defScope (top 13)) := ⟨rfl, rfl, rfl, by decide +kernel, rfl, by decide +kernel, by decide +kernel⟩
theorem ok_are_residues {f : Addr} {fd : FuncData} (bn : BN mg) (h_is_index : Has P w K mg base "is_index" k ["value", "many"] spIsIndex) (F : Fun K "are_residues" "are_residues" (top 13) f fd) : FnG P w K mg base CX0 (k + 1) f fd ["prime", "value"] (lift K spAreRes) :=
  have sc := scAreRes
  def_ok F sc (fun ds M Q ⟨d, n, e, _⟩ => by rw [e]; rfl) fun cdv A outer s H E B ds M Q hr hgd h => by
    obtain ⟨d, p, rfl, hd, hk, hz, q⟩ := h
    obtain ⟨t, ht, h1⟩ := D.isiT hd
    refine js_one (js_ret (je_andP (je_isi bn.isi (ja_cons (je_var 1 rfl (ja_cons (je_type bn.tuple (by decide +kernel) (ja_nil ⟨_, _, _, _, _, rfl, .id _, ht, h1, ⟨_, d.isRes p, rfl, fun hT => (je_and1 ?_), ?_⟩⟩))))))))
    · cases d <;> first | (cases hT; done) | skip
      rename_i xs
      refine je_all rfl bn.all (ja_cons (je_lc [("one", 2)] rfl sc.nd (blkOk_by rfl) (ji_tup (je_var 1 rfl ⟨_, rfl, lc_map ((xs.map (·.isIdx p)).map D.bl) (ix := [2]) (by decide) trivial (by simp) (hz _ rfl) ?_ ?_⟩))))
      · intro i d y h1 h2 B2 s2 H2 C2 cl2 fp2
        rw [List.map_map, List.getElem?_map, h1] at h2
        cases h2
        refine jg_name 2 sc.nd (fun B3 s3 H3 C3 cl3 fp3 => ?_)
        exact je_callH h_is_index hr hgd (ja_cons (je_var 2 rfl (ja_cons (je_var 0 rfl (ja_nil ⟨[], _, permI, _, _, rfl, hk _ (List.mem_of_getElem? h1), _, perm0, rfl, rfl⟩)))))
      · refine ja_nil ⟨_, xs.map (·.isIdx p), rfl, .lst _, ?_, rfl⟩
        show D.bl ((xs.map (·.isIdx p)).all id) = D.bl (xs.all (·.isIdx p))
        rw [List.all_map]; rfl
    · have : (d.isTup && d.isRes p) = d.isRes p := by cases d <;> rfl
      rw [this]; exact q
def spCkPrime : DSp := fun ds M Q => ∃ (p : Int), ds = [.int p] ∧ primeB p = true ∧ Q .non M
theorem scCkPrime : FnScope ["prime"] ["prime"] (defScope (top 14)) := ⟨rfl, rfl, rfl, by decide +kernel, rfl, by decide +kernel, by decide +kernel⟩
theorem ok_check_prime {f : Addr} {fd : FuncData} (h_is_prime : Has P w K mg base "is_prime" k ["value"] spIsPrime) (F : Fun K "check_prime" "check_prime" (top 14) f fd) : FnG P w K mg base CX0 (k + 1) f fd ["prime"] (lift K spCkPrime) :=
  have sc := scCkPrime
  def_ok F sc (fun ds M Q ⟨d, e, _⟩ => by rw [e]; rfl) fun cdv A outer s H E B ds M Q hr hgd h => by
    obtain ⟨p, rfl, hp, q⟩ := h
    refine js_one (js_if (jt_not (jt_val (je_callH h_is_prime hr hgd (ja_cons (je_var 0 rfl (ja_nil ⟨[], _, permI, _, rfl, rfl, _, perm0, _, rfl, ⟨fun hk => ?_, fun hk => ?_⟩⟩)))))))
    · rw [show D.primeB (.int p) = true from hp] at hk; cases hk
    · exact js_nil q
def spCkRes : DSp := fun ds M Q => ∃ (p r : Int), ds = [.int p, .int r] ∧ 0 ≤ r ∧ r < p ∧ Q .non M
theorem scCkRes : FnScope ["prime", "residue"] ["prime", "residue"] (defScope (top 15)) := ⟨rfl, rfl, rfl, by decide +kernel, rfl, by decide +kernel, by decide +kernel⟩
theorem ok_check_residue {f : Addr} {fd : FuncData} (h_is_index : Has P w K mg base "is_index" k ["value", "many"] spIsIndex) (F : Fun K "check_residue" "check_residue" (top 15) f fd) : FnG P w K mg base CX0 (k + 1) f fd ["prime", "residue"] (lift K spCkRes) :=
  have sc := scCkRes
  def_ok F sc (fun ds M Q ⟨d, r, e, _⟩ => by rw [e]; rfl) fun cdv A outer s H E B ds M Q hr hgd h => by
    obtain ⟨p, r, rfl, h0, h1, q⟩ := h
    refine js_one (js_if (jt_not (jt_val (je_callH h_is_index hr hgd (ja_cons (je_var 1 rfl (ja_cons (je_var 0 rfl (ja_nil ⟨[], _, permI, _, _, rfl, rfl, _, perm0, _, rfl, ⟨fun hk => ?_, fun hk => ?_⟩⟩)))))))))
    · have : D.isIdx p (.int r) = true := by simp [D.isIdx, h0, h1]
      rw [this] at hk; cases hk
    · exact js_nil q
def spParted : DSp := fun ds M Q => ∃ (p r : Int), ds = [.int p, .int r] ∧ Pr p ∧ p < 2 ^ 30 ∧ 0 < r ∧ r < p ∧ ∀ x, IsInv p r x → Q (.int x) M
theorem scParted : FnScope ["prime", "residue", "one", "other", "mine", "its", "many"] ["prime", "residue"] (defScope (top 16)) := ⟨rfl, rfl, rfl, by decide +kernel, rfl, by decide +kernel, by decide +kernel⟩
theorem ok_parted_by {f : Addr} {fd : FuncData} (F : Fun K "parted_by" "parted_by" (top 16) f fd) : FnG P w K mg base CX0 (k + 1) f fd ["prime", "residue"] (lift K spParted) :=
  have sc := scParted
  def_ok F sc (fun ds M Q ⟨d, r, e, _⟩ => by rw [e]; rfl) fun cdv A outer s H E B ds M Q hr hgd h => by
    obtain ⟨p, r, rfl, hp, hp2, h0, h1, q⟩ := h
    refine js_cons (js_asg (je_tup (ja_cons (je_var 0 rfl (ja_cons (je_var 1 rfl (ja_cons (je_int (ja_cons (je_int (ja_nil ⟨szok, (jg_tup rfl ⟨_, rfl, rfl, (jgs_cons (jg_name 2 sc.nd (jgs_cons (jg_name 3 sc.nd (jgs_cons (jg_name 4 sc.nd (jgs_cons (jg_name 5 sc.nd (jgs_nil ?_)))))))))⟩)⟩)))))))))))
    refine js_cons (js_while PassesOwn.never ⟨fun m ρ M' => M' = M ∧ ∃ one other mine its c, m = other.toNat ∧ Euc p r one other mine its ∧ ρ = [some (.int p), some (.int r), some (.int one), some (.int other), some (.int mine), some (.int its), c], ⟨_, rfl, _, _, _, _, none, rfl, Euc.init hp h0 h1, rfl⟩, fun m ρ M' hW => ?_⟩)
    obtain ⟨rfl, one, other, mine, its, c, rfl, hE, rfl⟩ := hW
    refine (jt_gtI (je_var 3 rfl (je_int ⟨_, _, rfl, rfl, ⟨fun hk => ?_, fun hk => ?_⟩⟩)))
    · have hk : 0 < other := of_decide_eq_true hk
      have l1 := hE.l
      have l2 := hE.b
      have hd : one / other ≤ one := Int.ediv_le_self _ (by omega)
      have hd0 : 0 ≤ one / other := Int.ediv_nonneg (by omega) (by omega)
      refine js_cons (js_set 6 sc.nd (je_fdiv (je_var 2 rfl (je_var 3 rfl ⟨_, _, rfl, rfl, ⟨hk, by omega⟩, ?_⟩))))
      refine js_one (js_asg (je_tup (ja_cons (je_var 3 rfl (ja_cons (je_sub (je_var 2 rfl (je_mul (je_var 6 rfl (je_var 3 rfl ⟨_, _, rfl, rfl, .inl ⟨by omega, by omega⟩, ⟨_, _, rfl, rfl, (ja_cons (je_var 5 rfl (ja_cons (je_sub (je_var 4 rfl (je_mul (je_var 6 rfl (je_var 5 rfl ⟨_, _, rfl, rfl, .inl ⟨by omega, by omega⟩, ⟨_, _, rfl, rfl, (ja_nil ⟨szok, (jg_tup rfl ⟨_, rfl, rfl, (jgs_cons (jg_name 2 sc.nd (jgs_cons (jg_name 3 sc.nd (jgs_cons (jg_name 4 sc.nd (jgs_cons (jg_name 5 sc.nd (jgs_nil ?_)))))))))⟩)⟩)⟩⟩))))))))⟩⟩))))))))))
      have hS := hE.step hk
      refine ⟨_, ?_, rfl, _, _, _, _, _, rfl, hS, rfl⟩
      have := hS.l
      have := hS.p2
      omega
    · have hk : ¬ 0 < other := of_decide_eq_false hk
      have := hE.p2
      obtain rfl : other = 0 := by omega
      refine js_one (js_ret (je_mod (je_var 4 rfl (je_var 0 rfl ⟨_, _, rfl, rfl, ?_, ?_⟩))))
      · show 0 < p; omega
      · exact q _ ⟨Int.emod_nonneg _ (by omega), Int.emod_lt_of_pos _ (by omega), hE.done⟩
end J
namespace J
open PySem PySem.Spec PyProof.Rows L2
variable {P : Program} {w : World} {K : PySem.W.Frag} {mg : Str → Option Value} {base : Heap} {k : Nat}
/-- a tuple of ints -/
abbrev D.its (as : List Int) : D := .tup (as.map D.int)
def spSum : DSp := fun ds M Q => ∃ (p : Int) (as bs : List Int), ds = [.int p, .its as, .its bs] ∧ 0 < p ∧ as.length ≤ 1000 ∧ bs.length ≤ 1000 ∧ Q (.its (addP p as bs)) M
theorem scSum : FnScope ["prime", "one", "other", "long", "short", "found", "first", "second"] ["prime", "one", "other"] (defScope (top 21)) := ⟨rfl, rfl, rfl, by decide +kernel, rfl, by decide +kernel, by decide +kernel⟩
theorem sz1000 {n : Nat} (h : n ≤ 4000) : n ≤ sizeLine := Nat.le_trans h szok
theorem ok_sum_of {f : Addr} {fd : FuncData} (bn : BN mg) (F : Fun K "sum_of" "sum_of" (top 21) f fd) : FnG P w K mg base CX0 (k + 1) f fd ["prime", "one", "other"] (lift K spSum) :=
  have sc := scSum
  def_ok F sc (fun ds M Q ⟨_, _, _, e, _⟩ => by rw [e]; rfl) fun cdv A outer s H E B ds M Q hr hgd h => by
    obtain ⟨p, as, bs, rfl, hp, la, lb, q⟩ := h
    have main : ∀ (long short : List Int), long.length ≤ 1000 → short.length ≤ long.length → Q (.its (addLong p long short)) M →
        JSs (cxOf CX0 P w K mg base ["prime", "one", "other", "long", "short", "found", "first", "second"] "sum_of" (defScope (top 21)) f cdv A outer s H E).nox B ((defBody (top 21)).drop 1)
          [some (.int p), some (.its as), some (.its bs), some (.its long), some (.its short), none, none, none] M { nx := fun _ M' => Q .non M', rt := Q } := by
      intro long short l1 l2 q
      refine js_cons (js_setLc 5 [("first", 6), ("second", 7)] rfl sc.nd (blkOk_by rfl) (sw_true rfl rfl rfl (by decide +kernel)) (ji_zip bn.zip (ja_cons (je_var 3 rfl (ja_cons (je_var 4 rfl (ja_nil ⟨_, _, .inr rfl, lc_map ((List.zipWith (fun a b => (a + b) % p) long short).map D.int) (ix := [6, 7]) (by decide) trivial ?_ ?_ ?_ ?_⟩)))))))
      · rw [zipD_length]; simp
      · rw [zipD_length, List.length_map, List.length_map]; exact sz1000 (by omega)
      · intro i d y h1 h2 B2 s2 H2 C2 cl2 fp2
        rw [zipD_map] at h1
        obtain ⟨x, hx, rfl⟩ := it_map h1
        obtain ⟨z, hz, rfl⟩ := it_map h2
        rw [List.getElem?_zip_eq_some] at hx
        rw [List.getElem?_zipWith, hx.1, hx.2] at hz
        cases hz
        refine (jg_tup rfl ⟨_, rfl, rfl, (jgs_cons (jg_name 6 sc.nd (jgs_cons (jg_name 7 sc.nd (jgs_nil fun _ _ _ _ _ _ => (je_mod (je_add (je_var 6 rfl (je_var 7 rfl ⟨_, _, rfl, rfl, (je_var 0 rfl ⟨_, _, rfl, rfl, hp, ⟨rfl, rfl⟩⟩)⟩)))))))))⟩)
      · refine js_one (js_ret (je_tup (ja_star (je_var 5 rfl ⟨_, .lst _, (ja_star (je_slT (je_var 3 rfl (je_len bn.len (ja_cons (je_var 4 rfl (ja_nil ⟨_, _, rfl, .tup _, ⟨_, rfl, ⟨_, rfl, ⟨_, .tup _, (ja_nil ⟨?_, ?_⟩)⟩⟩⟩⟩)))))))⟩))))
        · rw [List.append_nil, cut_drop]; simp only [List.length_append, List.length_map, List.length_zipWith, List.length_drop]; exact sz1000 (by omega)
        · rw [List.append_nil, cut_drop, List.length_map, ← List.map_drop, ← List.map_append]
          exact q
    refine js_cons (js_asg (je_ifP (jt_geI (je_len bn.len (ja_cons (je_var 1 rfl (ja_nil ⟨_, _, rfl, .tup _, (je_len bn.len (ja_cons (je_var 2 rfl (ja_nil ⟨_, _, rfl, .tup _, ⟨_, _, rfl, rfl, ⟨.tup [if bs.length ≤ as.length then .its as else .its bs, if bs.length ≤ as.length then .its bs else .its as], fun hk => (je_tup (ja_cons (je_var 1 rfl (ja_cons (je_var 2 rfl (ja_nil ⟨szok, ⟨?_, rfl⟩⟩)))))), fun hk => (je_tup (ja_cons (je_var 2 rfl (ja_cons (je_var 1 rfl (ja_nil ⟨szok, ⟨?_, rfl⟩⟩)))))), (jg_tup rfl ⟨_, rfl, rfl, (jgs_cons (jg_name 3 sc.nd (jgs_cons (jg_name 4 sc.nd (jgs_nil ?_)))))⟩)⟩⟩⟩))))⟩)))))))
    · have := of_decide_eq_true hk
      have : bs.length ≤ as.length := by simpa using this
      rw [if_pos this, if_pos this]
    · have := of_decide_eq_false hk
      have : ¬ bs.length ≤ as.length := by simpa using this
      rw [if_neg this, if_neg this]
    · by_cases hl : bs.length ≤ as.length
      · rw [if_pos hl, if_pos hl]
        exact main as bs la hl (by rw [addP, if_pos hl] at q; exact q)
      · rw [if_neg hl, if_neg hl]
        exact main bs as lb (by omega) (by rw [addP, if_neg hl] at q; exact q)
def spProd : DSp := fun ds M Q => ∃ (p : Int) (as bs : List Int), ds = [.int p, .its as, .its bs] ∧ M = [] ∧ 0 < p ∧ p < 2 ^ 30 ∧ Rs p as ∧ 1 ≤ as.length ∧ as.length ≤ 1000 ∧ bs.length ≤ 1000 ∧ Q (.its (mulP p as bs)) []
theorem scProd : FnScope ["prime", "one", "other", "found", "at", "first", "by", "second", "coefficient"] ["prime", "one", "other"] (defScope (top 22)) := ⟨rfl, rfl, rfl, by decide +kernel, rfl, by decide +kernel, by decide +kernel⟩
theorem rep_zero (n : Nat) : (List.replicate n [D.int 0]).flatten = (List.replicate n (0 : Int)).map D.int := by
  induction n with
  | zero => rfl
  | succ n ih => rw [List.replicate_succ, List.flatten_cons, ih, List.replicate_succ]; rfl
theorem addAt_get {acc : List Int} {k : Nat} (h : k < acc.length) (c : Int) : ∃ m, (acc.map D.int)[k]? = some (.int m) ∧ (acc.map D.int).set k (.int (m + c)) = (addAt acc k c).map D.int := by
  refine ⟨acc[k], ?_, ?_⟩
  · rw [List.getElem?_map, List.getElem?_eq_getElem h]; rfl
  · unfold addAt
    rw [List.map_set, List.getD_eq_getElem?_getD, List.getElem?_eq_getElem h]; rfl
theorem ok_product_of {f : Addr} {fd : FuncData} (bn : BN mg) (F : Fun K "product_of" "product_of" (top 22) f fd) : FnG P w K mg base CX0 (k + 1) f fd ["prime", "one", "other"] (lift K spProd) :=
  have sc := scProd
  def_ok F sc (fun ds M Q ⟨_, _, _, e, _⟩ => by rw [e]; rfl) fun cdv A outer s H E B ds M Q hr hgd h => by
    obtain ⟨p, as, bs, rfl, rfl, hp, hp2, ra, l0, la, lb, q⟩ := h
    refine js_cons (js_set 3 sc.nd (je_repO (je_lstO (ja_cons (je_int (ja_nil ⟨szok, fun p1 => (je_sub (je_add (je_len bn.len (ja_cons (je_var 1 rfl (ja_nil ⟨_, _, rfl, .tup _, (je_len bn.len (ja_cons (je_var 2 rfl (ja_nil ⟨_, _, rfl, .tup _, ⟨_, _, rfl, rfl, (je_int ⟨_, _, rfl, rfl, ⟨0, _, _, _, rfl, rfl, rfl, ?_, ?_, ?_, fun p2 => ?_⟩⟩)⟩⟩))))⟩))))))⟩))))))
    · simp only [List.length_map]; omega
    · simp only [List.length_map]; omega
    · simp only [List.length_map, List.length_cons, List.length_nil]; exact sz1000 (by omega)
    have hn : (((as.map D.int).length : Int) + ((bs.map D.int).length : Int) - 1).toNat = as.length + bs.length - 1 := by simp only [List.length_map]; omega
    rw [hn, rep_zero]
    have hall : mulFrom bs 0 as (List.replicate (as.length + bs.length - 1) 0) = mulZ as bs := rfl
    refine js_cons (js_for PassesOwn.never rfl (ji_enumT bn.enumerate (ja_cons (je_var 1 rfl (ja_nil ⟨_, rfl, ⟨[4, 5], fun i ρ M' => ∃ acc x4 x5 x6 x7, M' = [(p1, .lst [.int 0]), (p2, .lst (acc.map D.int))] ∧ ρ = [some (.int p), some (.its as), some (.its bs), some (.ref p2), x4, x5, x6, x7, none] ∧ acc.length = as.length + bs.length - 1 ∧ mulFrom bs i (as.drop i) acc = mulZ as bs, ?_, fun _ _ _ _ => trivial, fun i d ρ M hd hI => ?_, fun ρ M hI => ?_⟩⟩)))))
    · exact ⟨_, none, none, none, none, rfl, rfl, by rw [List.length_replicate], hall⟩
    · obtain ⟨acc, x4, x5, x6, x7, rfl, rfl, hl, hm⟩ := hI
      rw [enumD_map] at hd
      obtain ⟨⟨a, i'⟩, hz, rfl⟩ := it_map hd
      rw [List.getElem?_zipIdx] at hz
      obtain ⟨a', ha, he⟩ := Option.map_eq_some_iff.mp hz
      cases he
      rw [Nat.zero_add]
      have hai := (List.getElem?_eq_some_iff.mp ha).1
      rw [drop_get ha, mulFrom] at hm
      refine (jg_tup rfl ⟨_, rfl, rfl, (jgs_cons (jg_name 4 sc.nd (jgs_cons (jg_name 5 sc.nd (jgs_nil ?_)))))⟩)
      refine js_one (js_for PassesOwn.never rfl (ji_enumT bn.enumerate (ja_cons (je_var 2 rfl (ja_nil ⟨_, rfl, ⟨[6, 7], fun j ρ M' => ∃ acc2 x6 x7, M' = [(p1, .lst [.int 0]), (p2, .lst (acc2.map D.int))] ∧ ρ = [some (.int p), some (.its as), some (.its bs), some (.ref p2), some (.int (i : Nat)), some (.int a), x6, x7, none] ∧ acc2.length = as.length + bs.length - 1 ∧ rowZ a (i + j) (bs.drop j) acc2 = rowZ a i bs acc, ?_, fun _ _ _ _ => trivial, fun j d ρ M hd hI => ?_, fun ρ M hI => ?_⟩⟩)))))
      · exact ⟨_, x6, x7, rfl, rfl, hl, rfl⟩
      · obtain ⟨acc2, y6, y7, rfl, rfl, hl2, hm2⟩ := hI
        rw [enumD_map] at hd
        obtain ⟨⟨b, j'⟩, hz2, rfl⟩ := it_map hd
        rw [List.getElem?_zipIdx] at hz2
        obtain ⟨b', hb, he2⟩ := Option.map_eq_some_iff.mp hz2
        cases he2
        rw [Nat.zero_add]
        have hbj := (List.getElem?_eq_some_iff.mp hb).1
        rw [drop_get hb, rowZ] at hm2
        obtain ⟨m, g1, g2⟩ := addAt_get (acc := acc2) (k := i + j) (by omega) (a * b)
        have hij : ((i : Int) + (j : Int)).toNat = i + j := by omega
        have hra := ra a (List.mem_of_getElem? ha)
        refine (jg_tup rfl ⟨_, rfl, rfl, (jgs_cons (jg_name 6 sc.nd (jgs_cons (jg_name 7 sc.nd (jgs_nil ?_)))))⟩)
        refine js_one (js_augIx ip_add (je_var 3 rfl (je_add (je_var 4 rfl (je_var 6 rfl ⟨_, _, rfl, rfl, ⟨1, p2, _, _, m, rfl, rfl, rfl, by omega, by rw [hij]; exact g1, je_mul (je_var 5 rfl (je_var 7 rfl ⟨_, _, rfl, rfl, .inl ⟨by omega, by omega⟩, ⟨_, 1, _, rfl, rfl, ?_, ?_⟩⟩))⟩⟩)))))
        · rw [hij, List.length_map]; omega
        · refine ⟨_, _, _, ?_, rfl, ?_, hm2⟩
          · rw [hij, g2]; rfl
          · rw [addAt_length]; exact hl2
      · obtain ⟨acc2, y6, y7, rfl, rfl, hl2, hm2⟩ := hI
        rw [enumD_length, List.length_map, List.drop_length, rowZ] at hm2
        refine ⟨_, _, _, _, _, rfl, rfl, hl2, ?_⟩
        rw [hm2]; exact hm
    · obtain ⟨acc, x4, x5, x6, x7, rfl, rfl, hl, hm⟩ := hI
      rw [enumD_length, List.length_map, List.drop_length, mulFrom] at hm
      subst hm
      refine js_one (js_ret (je_drop (je_tuple bn.tuple (ja_cons (je_lc [("coefficient", 8)] rfl sc.nd (blkOk_by rfl) (ji_own (je_var 3 rfl ⟨1, p2, _, rfl, rfl, lc_map ((mulP p as bs).map D.int) (ix := [8]) (by decide) rfl ?_ ?_ ?_ ?_⟩)))))))
      · unfold mulP; simp
      · rw [List.length_map, mulZ_length]; exact sz1000 (by omega)
      · intro i d y h1 h2 B2 s2 H2 C2 cl2 fp2
        obtain ⟨x, hx, rfl⟩ := it_map h1
        obtain ⟨z, hz, rfl⟩ := it_map h2
        unfold mulP at hz
        rw [List.getElem?_map, hx] at hz
        cases hz
        refine jg_name 8 sc.nd fun _ _ _ _ _ _ => (je_mod (je_var 8 rfl (je_var 0 rfl ⟨_, _, rfl, rfl, hp, ⟨rfl, rfl⟩⟩)))
      · exact ja_nil ⟨_, _, rfl, .lst _, [], List.nil_sublist _, q⟩
end J
namespace J
open PySem PySem.Spec PyProof.Rows L2
variable {P : Program} {w : World} {K : PySem.W.Frag} {mg : Str → Option Value} {base : Heap} {k : Nat}
theorem take_get {α : Type} {xs : List α} {i : Nat} {x : α} (h : xs[i]? = some x) : xs.take (i + 1) = xs.take i ++ [x] := by
  rw [List.take_add_one, h]; rfl
def spScaled : DSp := fun ds M Q => ∃ (p c : Int) (as : List Int), ds = [.int p, .its as, .int c] ∧ 0 < p ∧ p < 2 ^ 30 ∧ 0 ≤ c ∧ c < p ∧ as.length ≤ 1000 ∧ Q (.its (sclP p c as)) M
theorem scScaled : FnScope ["prime", "poly", "residue", "coefficient"] ["prime", "poly", "residue"] (defScope (top 23)) := ⟨rfl, rfl, rfl, by decide +kernel, rfl, by decide +kernel, by decide +kernel⟩
theorem ok_scaled {f : Addr} {fd : FuncData} (bn : BN mg) (F : Fun K "scaled" "scaled" (top 23) f fd) : FnG P w K mg base CX0 (k + 1) f fd ["prime", "poly", "residue"] (lift K spScaled) :=
  have sc := scScaled
  def_ok F sc (fun ds M Q ⟨_, _, _, e, _⟩ => by rw [e]; rfl) fun cdv A outer s H E B ds M Q hr hgd h => by
    obtain ⟨p, c, as, rfl, hp, hp2, hc, hc2, la, q⟩ := h
    refine js_one (js_ret (je_tuple bn.tuple (ja_cons (je_lc [("coefficient", 3)] rfl sc.nd (blkOk_by rfl) (ji_tup (je_var 1 rfl ⟨_, rfl, lc_map ((sclP p c as).map D.int) (ix := [3]) (by decide) trivial ?_ ?_ ?_ ?_⟩))))))
    · unfold sclP; simp
    · rw [List.length_map]; exact sz1000 (by omega)
    · intro i d y h1 h2 B2 s2 H2 C2 cl2 fp2
      obtain ⟨x, hx, rfl⟩ := it_map h1
      obtain ⟨z, hz, rfl⟩ := it_map h2
      unfold sclP at hz
      rw [List.getElem?_map, hx] at hz
      cases hz
      refine jg_name 3 sc.nd fun _ _ _ _ _ _ => (je_mod (je_mul (je_var 3 rfl (je_var 2 rfl ⟨_, _, rfl, rfl, .inr ⟨by omega, by omega⟩, (je_var 0 rfl ⟨_, _, rfl, rfl, hp, ⟨rfl, rfl⟩⟩)⟩))))
    · exact ja_nil ⟨_, _, rfl, .lst _, q⟩
def spWithN : DSp := fun ds M Q => ∃ (p : Int) (ns : List Int), ds = [.int p, .its ns] ∧ Pr p ∧ p < 2 ^ 30 ∧ ns.length ≤ 300 ∧ ∀ cs, Ahd p ns cs → Q (.its cs) M
theorem scWithN : FnScope ["prime", "noughts", "found", "nought"] ["prime", "noughts"] (defScope (top 24)) := ⟨rfl, rfl, rfl, by decide +kernel, rfl, by decide +kernel, by decide +kernel⟩
theorem ok_with_noughts {f : Addr} {fd : FuncData} (h_product_of : Has P w K mg base "product_of" k ["prime", "one", "other"] spProd) (F : Fun K "with_noughts" "with_noughts" (top 24) f fd) : FnG P w K mg base CX0 (k + 1) f fd ["prime", "noughts"] (lift K spWithN) :=
  have sc := scWithN
  def_ok F sc (fun ds M Q ⟨_, _, e, _⟩ => by rw [e]; rfl) fun cdv A outer s H E B ds M Q hr hgd h => by
    obtain ⟨p, ns, rfl, hp, hp2, ln, q⟩ := h
    have hp0 : 0 < p := by have := hp.1; omega
    refine js_cons (js_set 2 sc.nd (je_tup (ja_cons (je_int (ja_nil ⟨szok, ?_⟩)))))
    refine js_cons (js_for PassesOwn.never rfl (ji_tup (je_var 1 rfl ⟨_, rfl, ⟨[3], fun i ρ M' => M' = M ∧ ∃ cs x3, Ahd p (ns.take i) cs ∧ ρ = [some (.int p), some (.its ns), some (.its cs), x3], ?_, fun _ _ _ _ => trivial, fun i d ρ M hd hI => ?_, fun ρ M hI => ?_⟩⟩)))
    · exact ⟨rfl, [1], none, Ahd.init hp, rfl⟩
    · obtain ⟨rfl, cs, x3, hA, rfl⟩ := hI
      obtain ⟨n, hn, rfl⟩ := it_map hd
      have hl := hA.la
      rw [List.length_take] at hl
      refine (jg_name 3 sc.nd ?_)
      refine js_one (js_set 2 sc.nd (je_callH h_product_of hr hgd (ja_cons (je_var 0 rfl (ja_cons (je_var 2 rfl (ja_cons (je_tup (ja_cons (je_mod (je_neg (je_var 3 rfl ⟨_, rfl, (je_var 0 rfl ⟨_, _, rfl, rfl, hp0, (ja_cons (je_int (ja_nil ⟨szok, (ja_nil ⟨[], _, permI, p, cs, [(-n) % p, 1], rfl, rfl, hp0, hp2, hA.ra, by omega, by omega, szokN, _, perm0, ?_⟩)⟩)))⟩)⟩))))))))))))
      refine ⟨rfl, _, _, ?_, rfl⟩
      rw [take_get hn]
      exact hA.step hp
    · obtain ⟨rfl, cs, x3, hA, rfl⟩ := hI
      rw [List.length_map, List.take_length] at hA
      exact js_one (js_ret (je_var 2 rfl (q cs hA)))
where szokN : (2 : Nat) ≤ 1000 := by decide
def dPt (q : Int × Int) : D := .tup [.int q.1, .int q.2]
abbrev D.pts (xs : List (Int × Int)) : D := .tup (xs.map dPt)
structure Pts (p : Int) (pts : List (Int × Int)) : Prop where
  l0 : 1 ≤ pts.length
  l1 : pts.length ≤ 200
  u : Unl p (pts.map (·.1))
  v : ∀ q ∈ pts, 0 ≤ q.2 ∧ q.2 < p
def spThrough : DSp := fun ds M Q => ∃ (p : Int) (pts : List (Int × Int)), ds = [.int p, .pts pts] ∧ Pr p ∧ p < 2 ^ 30 ∧ Pts p pts ∧ ∀ cs, IsThr p pts cs → Q (.its cs) M
theorem scThrough : FnScope ["prime", "points", "found", "ahead", "residue", "value", "share"] ["prime", "points"] (defScope (top 25)) := ⟨rfl, rfl, rfl, by decide +kernel, rfl, by decide +kernel, by decide +kernel⟩
theorem pw_take {p : Int} {pts : List (Int × Int)} {i : Nat} {q : Int × Int} (h : Unl p (pts.map (·.1))) (hq : pts[i]? = some q) : ∀ d ∈ (pts.take i).map (·.1), ¬ Cg p q.1 d := fun d hd hc => by
  have h1 := h.pw
  have e : pts.map (·.1) = (pts.take i).map (·.1) ++ q.1 :: (pts.drop (i + 1)).map (·.1) := by
    rw [show q.1 :: (pts.drop (i + 1)).map (·.1) = (pts.drop i).map (·.1) by rw [drop_get hq]; rfl, ← List.map_append, List.take_append_drop]
  rw [e, List.pairwise_append] at h1
  exact h1.2.2 d hd q.1 List.mem_cons_self hc.symm
theorem ok_through {f : Addr} {fd : FuncData} (h_worth_at : Has P w K mg base "worth_at" k ["prime", "poly", "residue"] spWorth) (h_parted_by : Has P w K mg base "parted_by" k ["prime", "residue"] spParted) (h_sum_of : Has P w K mg base "sum_of" k ["prime", "one", "other"] spSum)
    (h_scaled : Has P w K mg base "scaled" k ["prime", "poly", "residue"] spScaled) (h_product_of : Has P w K mg base "product_of" k ["prime", "one", "other"] spProd) (F : Fun K "through" "through" (top 25) f fd) : FnG P w K mg base CX0 (k + 1) f fd ["prime", "points"] (lift K spThrough) :=
  have sc := scThrough
  def_ok F sc (fun ds M Q ⟨_, _, e, _⟩ => by rw [e]; rfl) fun cdv A outer s H E B ds M Q hr hgd h => by
    obtain ⟨p, pts, rfl, hp, hp2, hP, q⟩ := h
    have hp0 : 0 < p := by have := hp.1; omega
    refine js_cons (js_asg (je_tup (ja_cons (je_tup (ja_cons (je_int (ja_nil ⟨szok, (ja_cons (je_tup (ja_cons (je_int (ja_nil ⟨szok, (ja_nil ⟨szok, jg_tup rfl ⟨_, rfl, rfl, jgs_cons (jg_name 2 sc.nd (jgs_cons (jg_name 3 sc.nd (jgs_nil ?_))))⟩⟩)⟩)))))⟩)))))))
    refine js_cons (js_for PassesOwn.never rfl (ji_tup (je_var 1 rfl ⟨_, rfl, ⟨[4, 5], fun i ρ M' => M' = M ∧ ∃ found ahead x4 x5 x6, Thr p (pts.take i) found ahead ∧ ρ = [some (.int p), some (.pts pts), some (.its found), some (.its ahead), x4, x5, x6], ?_, fun _ _ _ _ => trivial, fun i d ρ M hd hI => ?_, fun ρ M hI => ?_⟩⟩)))
    · exact ⟨rfl, [0], [1], none, none, none, Thr.init hp, rfl⟩
    · obtain ⟨rfl, found, ahead, x4, x5, x6, hT, rfl⟩ := hI
      obtain ⟨⟨r, v⟩, hq, rfl⟩ := it_map hd
      have hmem := List.mem_of_getElem? hq
      have hr1 := hP.u.1 r (List.mem_map_of_mem (f := (·.1)) hmem)
      have hv := hP.v _ hmem
      have hl := hT.ah.la
      have hl2 := hT.lf
      have hl3 := hP.l1
      rw [List.length_map] at hl
      rw [List.length_take] at hl hl2
      have hpos := horner_pos hp hT.ah (pw_take hP.u hq)
      have hf := horner_range hp0 r found
      refine (jg_tup rfl ⟨_, rfl, rfl, (jgs_cons (jg_name 4 sc.nd (jgs_cons (jg_name 5 sc.nd (jgs_nil ?_)))))⟩)
      refine js_cons (js_set 6 sc.nd (je_mul (je_sub (je_var 5 rfl (je_callH h_worth_at hr hgd (ja_cons (je_var 0 rfl (ja_cons (je_var 2 rfl (ja_cons (je_var 4 rfl (ja_nil ⟨[], _, permI, p, r, found, rfl, hp0, hp2, hr1.1, hr1.2, _, perm0, ⟨_, _, rfl, rfl, (je_callH h_parted_by hr hgd (ja_cons (je_var 0 rfl (ja_cons (je_callH h_worth_at hr hgd (ja_cons (je_var 0 rfl (ja_cons (je_var 3 rfl (ja_cons (je_var 4 rfl (ja_nil ⟨[], _, permI, p, r, ahead, rfl, hp0, hp2, hr1.1, hr1.2, _, perm0, (ja_nil ⟨[], _, permI, p, _, rfl, hp, hp2, hpos.1, hpos.2, fun iv hiv => ⟨_, perm0, ⟨_, _, rfl, rfl, ?_, ?_⟩⟩⟩)⟩))))))))))))⟩⟩))))))))))))
      · have := hiv.lo; have := hiv.hi; exact .inr ⟨by omega, by omega⟩
      have s1 := Int.emod_nonneg ((v - horner p r found) * iv) (show p ≠ 0 by omega)
      have s2 := Int.emod_lt_of_pos ((v - horner p r found) * iv) hp0
      refine js_cons (js_set 2 sc.nd (je_callH h_sum_of hr hgd (ja_cons (je_var 0 rfl (ja_cons (je_var 2 rfl (ja_cons (je_callH h_scaled hr hgd (ja_cons (je_var 0 rfl (ja_cons (je_var 3 rfl (ja_cons (je_mod (je_var 6 rfl (je_var 0 rfl ⟨_, _, rfl, rfl, hp0, (ja_nil ⟨[], _, permI, p, _, ahead, rfl, hp0, hp2, s1, s2, ?_, _, perm0, (ja_nil ⟨[], _, permI, p, found, _, rfl, hp0, ?_, ?_, _, perm0, ?_⟩)⟩)⟩))))))))))))))))
      · omega
      · omega
      · rw [sclP_length]; omega
      refine js_one (js_set 3 sc.nd (je_callH h_product_of hr hgd (ja_cons (je_var 0 rfl (ja_cons (je_var 3 rfl (ja_cons (je_tup (ja_cons (je_mod (je_neg (je_var 4 rfl ⟨_, rfl, (je_var 0 rfl ⟨_, _, rfl, rfl, hp0, (ja_cons (je_int (ja_nil ⟨szok, (ja_nil ⟨[], _, permI, p, ahead, [(-r) % p, 1], rfl, rfl, hp0, hp2, hT.ah.ra, by omega, by omega, ok_with_noughts.szokN, _, perm0, ?_⟩)⟩)))⟩)⟩))))))))))))
      refine ⟨rfl, _, _, _, _, _, ?_, rfl⟩
      rw [take_get hq]
      exact hT.step hp hiv.one
    · obtain ⟨rfl, found, ahead, x4, x5, x6, hT, rfl⟩ := hI
      rw [List.length_map, List.take_length] at hT
      exact js_one (js_ret (je_var 2 rfl (q found (hT.done (List.length_pos_iff.mp hP.l0)))))
def spArePts : DSp := fun ds M Q => ∃ (p : Int) (pts : List (Int × Int)), ds = [.int p, .pts pts] ∧ Pts p pts ∧ Q (.bl true) M
theorem scArePts : FnScope ["prime", "value", "one"] ["prime", "value"] (defScope (top 26)) := ⟨rfl, rfl, rfl, by decide +kernel, rfl, by decide +kernel, by decide +kernel⟩
theorem ok_are_points {f : Addr} {fd : FuncData} (bn : BN mg) (c1 : CI mg "MOST_COEFFICIENTS" 200) (c2 : CI mg "PAIR" 2) (h_are_residues : Has P w K mg base "are_residues" k ["prime", "value"] spAreRes) (F : Fun K "are_points" "are_points" (top 26) f fd) : FnG P w K mg base CX0 (k + 1) f fd ["prime", "value"] (lift K spArePts) :=
  have sc := scArePts
  def_ok F sc (fun ds M Q ⟨_, _, e, _⟩ => by rw [e]; rfl) fun cdv A outer s H E B ds M Q hr hgd h => by
    obtain ⟨p, pts, rfl, hP, q⟩ := h
    obtain ⟨t1, c1⟩ := c1
    obtain ⟨t2, c2⟩ := c2
    have hl0 := hP.l0
    have hl1 := hP.l1
    refine js_cons (js_if (JW.jt (jt_orP (jt_not (jt_val (je_isi bn.isi (ja_cons (je_var 1 rfl (ja_cons (je_type bn.tuple (by decide +kernel) (ja_nil ⟨_, _, "tuple", "tuple", true, rfl, .id _, rfl, (by decide +kernel), ⟨_, rfl, ⟨_, fun _ => (jw_or1 (jt_not (jt_chainP op_le op_le (je_int (je_len bn.len (ja_cons (je_var 1 rfl (ja_nil ⟨_, _, rfl, .tup _, ⟨_, _, _, rfl, rfl, (je_globI c1 ⟨rfl, rfl⟩), ⟨rfl, rfl⟩⟩⟩)))))))), ⟨fun hk => ?_, fun hk => ?_⟩⟩⟩⟩)))))))))))
    · exfalso
      revert hk
      simp only [List.length_map]
      rw [decide_eq_true (show (1 : Int) ≤ (pts.length : Nat) by omega), decide_eq_true (show ((pts.length : Nat) : Int) ≤ 200 by omega)]
      decide
    refine js_nil ?_
    refine js_cons (js_if (jt_not (jt_val (je_all rfl bn.all (ja_cons (je_lc [("one", 2)] rfl sc.nd (blkOk_by rfl) (ji_tup (je_var 1 rfl ⟨_, rfl, lc_map ((pts.map fun _ => true).map D.bl) (ix := [2]) (by decide) trivial (by simp) ?_ ?_ ?_⟩))))))))
    · rw [List.length_map]; exact sz1000 (by omega)
    · intro i d y h1 h2 B2 s2 H2 C2 cl2 fp2
      obtain ⟨x, hx, rfl⟩ := it_map h1
      obtain ⟨z, hz, rfl⟩ := it_map h2
      rw [List.getElem?_map, hx] at hz
      cases hz
      have hmem := List.mem_of_getElem? hx
      have hr1 := hP.u.1 x.1 (List.mem_map_of_mem (f := (·.1)) hmem)
      have hv := hP.v _ hmem
      have hR : D.isRes p (dPt x) = true := by simp [D.isRes, dPt, D.isIdx, hr1, hv]
      refine jg_name 2 sc.nd fun _ _ _ _ _ _ => je_andP (je_callH h_are_residues hr hgd (ja_cons (je_var 0 rfl (ja_cons (je_var 2 rfl (ja_nil ⟨[], _, permI, dPt x, p, rfl, rfl, ?_, ?_, _, perm0, _, true, rfl, fun _ => je_and1 (je_eqI (je_len bn.len (ja_cons (je_var 2 rfl (ja_nil ⟨_, _, rfl, .tup _, (je_globI c2 ⟨_, _, rfl, rfl, ?_, rfl⟩)⟩))))), ?_, rfl⟩))))))
      · intro y hy
        have hy : y = .int x.1 ∨ y = .int x.2 := by simpa using hy
        rcases hy with rfl | rfl <;> rfl
      · intro xs e
        cases e
        exact szok
      · rfl
      · rw [hR]; rfl
    · refine ja_nil ⟨_, _, rfl, .lst _, _, rfl, fun hk => ?_, fun hk => ?_⟩
      · exfalso
        revert hk
        simp
      refine js_nil ?_
      refine js_one (js_ret (je_eqI (je_lenSet bn.len bn.set rfl (je_lc [("one", 2)] rfl sc.nd (blkOk_by rfl) (ji_tup (je_var 1 rfl ⟨_, rfl, lc_map ((pts.map (·.1)).map D.int) (ix := [2]) (by decide) trivial (by simp) ?_ ?_ ⟨_, .lst _, hP.u.2, ?_, (je_len bn.len (ja_cons (je_var 1 rfl (ja_nil ⟨_, _, rfl, .tup _, ⟨_, _, rfl, rfl, ?_⟩⟩))))⟩⟩))))))
      · rw [List.length_map]; exact sz1000 (by omega)
      · intro i d y h1 h2 B2 s2 H2 C2 cl2 fp2
        obtain ⟨x, hx, rfl⟩ := it_map h1
        obtain ⟨z, hz, rfl⟩ := it_map h2
        rw [List.getElem?_map, hx] at hz
        cases hz
        refine jg_name 2 sc.nd fun _ _ _ _ _ _ => (je_ix (je_var 2 rfl (je_int ⟨_, _, _, .tup _, rfl, rfl, ⟨rfl, rfl⟩⟩)))
      · rw [List.length_map]; omega
      · have : decide (((pts.map (·.1)).length : Int) = ((pts.map dPt).length : Nat)) = true := by simp
        rw [show (fun i j : Int => D.bl (decide (i = j))) ((pts.map (·.1)).length : Nat) ((pts.map dPt).length : Nat) = .bl true from congrArg D.bl this]
        exact q
end J
namespace J
open PySem PySem.Spec PyProof.Rows L2
variable {P : Program} {w : World} {K : PySem.W.Frag} {mg : Str → Option Value} {base : Heap} {k : Nat}
def spPolyThr : DSp := fun ds M Q => ∃ (p : Int) (pts : List (Int × Int)), ds = [.int p, .pts pts] ∧ Pr p ∧ 3 ≤ p ∧ p ≤ 1000003 ∧ Pts p pts ∧ ∀ cs, IsThr p pts cs → Q (.its cs) M
theorem scPolyThr : FnScope ["prime", "points"] ["prime", "points"] (defScope (top 27)) := ⟨rfl, rfl, rfl, by decide +kernel, rfl, by decide +kernel, by decide +kernel⟩
theorem ok_poly_through {f : Addr} {fd : FuncData} (h_check_prime : Has P w K mg base "check_prime" k ["prime"] spCkPrime) (h_are_points : Has P w K mg base "are_points" k ["prime", "value"] spArePts) (h_through : Has P w K mg base "through" k ["prime", "points"] spThrough)
    (F : Fun K "poly_through" "poly_through" (top 27) f fd) : FnG P w K mg base CX0 (k + 1) f fd ["prime", "points"] (lift K spPolyThr) :=
  have sc := scPolyThr
  def_ok F sc (fun ds M Q ⟨_, _, e, _⟩ => by rw [e]; rfl) fun cdv A outer s H E B ds M Q hr hgd h => by
    obtain ⟨p, pts, rfl, hp, h3, h4, hP, q⟩ := h
    refine js_cons (js_expr (je_callH h_check_prime hr hgd (ja_cons (je_var 0 rfl (ja_nil ⟨[], _, permI, p, rfl, primeB_of hp h3 h4, _, perm0, ?_⟩)))))
    refine js_cons (js_if (jt_not (jt_val (je_callH h_are_points hr hgd (ja_cons (je_var 0 rfl (ja_cons (je_var 1 rfl (ja_nil ⟨[], _, permI, p, pts, rfl, hP, _, perm0, ⟨_, rfl, ⟨fun hk => ?_, fun hk => ?_⟩⟩⟩)))))))))
    · cases hk
    refine js_nil ?_
    exact js_one (js_ret (je_callH h_through hr hgd (ja_cons (je_var 0 rfl (ja_cons (je_var 1 rfl (ja_nil ⟨[], _, permI, p, pts, rfl, hp, by omega, hP, fun cs hcs => ⟨_, perm0, q cs hcs⟩⟩)))))))
/-- noughts that are told rightly -/
structure Nts (p : Int) (ns : List Int) : Prop where
  l1 : ns.length ≤ 199
  u : Rs p ns
  s : ns.Pairwise (· < ·)
theorem cut1 {α : Type} (xs : List α) : cutD xs (some 1) none = xs.drop 1 := cut_drop xs 1
theorem asc_zip : ∀ {ns : List Int}, ns.Pairwise (· < ·) → ∀ q ∈ ns.zip (ns.drop 1), q.1 < q.2
  | [], _, q, h => by simp at h
  | [_], _, q, h => by simp at h
  | a :: b :: t, h, q, hq => by
    rw [List.drop_succ_cons, List.drop_zero, List.zip_cons_cons] at hq
    rcases List.mem_cons.mp hq with rfl | hq
    · exact List.rel_of_pairwise_cons h (List.mem_cons_self)
    · exact asc_zip (ns := b :: t) (List.Pairwise.of_cons h) q (by simpa using hq)
def spPolyWith : DSp := fun ds M Q => ∃ (p r v : Int) (ns : List Int), ds = [.int p, .its ns, .int r, .int v] ∧ Pr p ∧ 3 ≤ p ∧ p ≤ 1000003 ∧ Nts p ns ∧ (0 ≤ r ∧ r < p ∧ r ∉ ns) ∧ (0 ≤ v ∧ v < p) ∧ ∀ cs, IsThr p (ns.map (fun n => (n, (0 : Int))) ++ [(r, v)]) cs → Q (.its cs) M
theorem scPolyWith : FnScope ["prime", "noughts", "residue", "value", "found", "one", "other"] ["prime", "noughts", "residue", "value"] (defScope (top 28)) := ⟨rfl, rfl, rfl, by decide +kernel, rfl, by decide +kernel, by decide +kernel⟩
theorem ok_poly_with {f : Addr} {fd : FuncData} (bn : BN mg) (c1 : CI mg "MOST_COEFFICIENTS" 200) (h_check_prime : Has P w K mg base "check_prime" k ["prime"] spCkPrime) (h_are_residues : Has P w K mg base "are_residues" k ["prime", "value"] spAreRes) (h_check_residue : Has P w K mg base "check_residue" k ["prime", "residue"] spCkRes)
    (h_with_noughts : Has P w K mg base "with_noughts" k ["prime", "noughts"] spWithN) (h_worth_at : Has P w K mg base "worth_at" k ["prime", "poly", "residue"] spWorth) (h_parted_by : Has P w K mg base "parted_by" k ["prime", "residue"] spParted) (h_scaled : Has P w K mg base "scaled" k ["prime", "poly", "residue"] spScaled)
    (F : Fun K "poly_with" "poly_with" (top 28) f fd) : FnG P w K mg base CX0 (k + 1) f fd ["prime", "noughts", "residue", "value"] (lift K spPolyWith) :=
  have sc := scPolyWith
  def_ok F sc (fun ds M Q ⟨_, _, _, _, e, _⟩ => by rw [e]; rfl) fun cdv A outer s H E B ds M Q hr hgd h => by
    obtain ⟨p, r, v, ns, rfl, hp, h3, h4, hN, ⟨hr0, hr1, hrn⟩, ⟨hv0, hv1⟩, q⟩ := h
    obtain ⟨t1, c1⟩ := c1
    have hl := hN.l1
    have hp0 : 0 < p := by omega
    have hR : D.isRes p (.its ns) = true := by
      show (ns.map D.int).all (·.isIdx p) = true
      rw [List.all_map, List.all_eq_true]
      intro x hx
      have := hN.u x hx
      simp [D.isIdx, this]
    refine js_cons (js_expr (je_callH h_check_prime hr hgd (ja_cons (je_var 0 rfl (ja_nil ⟨[], _, permI, p, rfl, primeB_of hp h3 h4, _, perm0, ?_⟩)))))
    refine js_cons (js_if (JW.jt (jt_orP (jt_not (jt_val (je_callH h_are_residues hr hgd (ja_cons (je_var 0 rfl (ja_cons (je_var 1 rfl (ja_nil ⟨[], _, permI, .its ns, p, rfl, rfl, ?_, ?_, _, perm0, ⟨_, rfl, ⟨_, fun _ => (jw_or1 (jt_geI (je_len bn.len (ja_cons (je_var 1 rfl (ja_nil ⟨_, _, rfl, .tup _, (je_globI c1 ⟨_, _, rfl, rfl, ⟨rfl, rfl⟩⟩)⟩)))))), ⟨fun hk => ?_, fun hk => ?_⟩⟩⟩⟩)))))))))))
    · intro x hx
      obtain ⟨n, _, rfl⟩ := List.mem_map.mp hx
      rfl
    · intro xs e
      cases e
      rw [List.length_map]; exact sz1000 (by omega)
    · exfalso
      revert hk
      rw [hR]
      simp only [List.length_map]
      rw [decide_eq_false (show ¬ (200 : Int) ≤ (ns.length : Nat) by omega)]
      decide
    refine js_nil ?_
    refine js_cons (js_if (jt_not (jt_val (je_all rfl bn.all (ja_cons (je_lc [("one", 5), ("other", 6)] rfl sc.nd (blkOk_by rfl) (ji_zip bn.zip (ja_cons (je_var 1 rfl (ja_cons (je_slT (je_var 1 rfl (je_int ⟨_, rfl, ⟨_, rfl, (ja_nil ⟨_, _, .inr rfl, lc_map (((ns.zip (ns.drop 1)).map fun q => decide (q.1 < q.2)).map D.bl) (ix := [5, 6]) (by decide) trivial ?_ ?_ ?_ ?_⟩)⟩⟩)))))))))))))
    · rw [cut1, zipD_length]; simp only [List.length_map, List.length_zip, List.length_drop]
    · rw [cut1, zipD_length]; simp only [List.length_map, List.length_drop]; exact sz1000 (by omega)
    · intro i d y h1 h2 B2 s2 H2 C2 cl2 fp2
      rw [cut1, ← List.map_drop, zipD_map] at h1
      obtain ⟨x, hx, rfl⟩ := it_map h1
      obtain ⟨z, hz, rfl⟩ := it_map h2
      rw [List.getElem?_map, hx] at hz
      cases hz
      refine (jg_tup rfl ⟨_, rfl, rfl, (jgs_cons (jg_name 5 sc.nd (jgs_cons (jg_name 6 sc.nd (jgs_nil fun _ _ _ _ _ _ => (je_ltI (je_var 5 rfl (je_var 6 rfl ⟨_, _, rfl, rfl, ⟨rfl, rfl⟩⟩))))))))⟩)
    refine ja_nil ⟨_, _, rfl, .lst _, _, rfl, fun hk => ?_, fun hk => ?_⟩
    · exfalso
      have : (((ns.zip (ns.drop 1)).map fun q => decide (q.1 < q.2)).all id) = true := by
        rw [List.all_map, List.all_eq_true]
        intro x hx
        exact decide_eq_true (asc_zip hN.s x hx)
      rw [this] at hk
      cases hk
    refine js_nil ?_
    refine js_cons (js_expr (je_callH h_check_residue hr hgd (ja_cons (je_var 0 rfl (ja_cons (je_var 2 rfl (ja_nil ⟨[], _, permI, p, r, rfl, hr0, hr1, _, perm0, ?_⟩)))))))
    refine js_cons (js_if (jt_inI rfl (je_var 2 rfl (je_var 1 rfl ⟨r, ns, rfl, .tup _, ⟨fun hk => ?_, fun hk => ?_⟩⟩))))
    · exact absurd (of_decide_eq_true hk) hrn
    refine js_nil ?_
    refine js_cons (js_expr (je_callH h_check_residue hr hgd (ja_cons (je_var 0 rfl (ja_cons (je_var 3 rfl (ja_nil ⟨[], _, permI, p, v, rfl, hv0, hv1, _, perm0, ?_⟩)))))))
    refine js_cons (js_set 4 sc.nd (je_callH h_with_noughts hr hgd (ja_cons (je_var 0 rfl (ja_cons (je_var 1 rfl (ja_nil ⟨[], _, permI, p, ns, rfl, hp, by omega, by omega, fun cs hA => ⟨_, perm0, ?_⟩⟩)))))))
    have hpos := horner_pos (x := r) hp hA fun d hd hc => hrn (by
      have := hN.u d hd
      rw [hc.eq hr0 hr1 this.1 this.2]; exact hd)
    have hla := hA.la
    refine js_one (js_ret (je_callH h_scaled hr hgd (ja_cons (je_var 0 rfl (ja_cons (je_var 4 rfl (ja_cons (je_mod (je_mul (je_var 3 rfl (je_callH h_parted_by hr hgd (ja_cons (je_var 0 rfl (ja_cons (je_callH h_worth_at hr hgd (ja_cons (je_var 0 rfl (ja_cons (je_var 4 rfl (ja_cons (je_var 2 rfl (ja_nil ⟨[], _, permI, p, r, cs, rfl, hp0, by omega, hr0, hr1, _, perm0, (ja_nil ⟨[], _, permI, p, _, rfl, hp, by omega, hpos.1, hpos.2, fun iv hiv => ⟨_, perm0, ⟨_, _, rfl, rfl, .inl ⟨by omega, by omega⟩, (je_var 0 rfl ⟨_, _, rfl, rfl, hp0, (ja_nil ⟨[], _, permI, p, _, cs, rfl, hp0, by omega, Int.emod_nonneg _ (by omega), Int.emod_lt_of_pos _ hp0, by omega, _, perm0, ?_⟩)⟩)⟩⟩⟩)⟩))))))))))))))))))))))
    exact q _ (with_thr hp hA hiv.one)
end J
namespace J
open PySem PySem.Spec PyProof.Rows L2
variable {P : Program} {w : World} {K : PySem.W.Frag} {mg : Str → Option Value} {base : Heap} {k : Nat}
/-! the law's pot of draws -/
def Pot (c : Nat) (cl : Cl) : Prop := ∃ own seed n : Int, cl = .lst [.int own, .int seed, .int n] ∧ 0 ≤ own ∧ 0 ≤ seed ∧ seed < 2 ^ 62 ∧ 0 ≤ n ∧ n ≤ c
theorem Pot.mono {c c' : Nat} {cl : Cl} (h : Pot c cl) (e : c ≤ c') : Pot c' cl := by
  obtain ⟨a, b, n, h1, h2, h3, h4, h5, h6⟩ := h
  exact ⟨a, b, n, h1, h2, h3, h4, h5, by omega⟩
theorem cut_map {α β : Type} (f : α → β) (xs : List α) (lo hi : Option Int) : cutD (xs.map f) lo hi = (cutD xs lo hi).map f := by
  unfold cutD
  rw [List.length_map, List.map_take, List.map_drop]
theorem intBits_le {x : Int} {n : Nat} (h : x.natAbs < 2 ^ n) : Builtin.Int.intBits x ≤ n := by
  unfold Builtin.Int.intBits
  by_cases h0 : x = 0
  · subst h0; exact Nat.zero_le _
  · rw [if_neg (by simpa using h0)]
    exact (Nat.log2_lt (by omega)).mpr h
theorem atI_map {α : Type} {f : α → D} {xs : List α} {i : Int} (h0 : 0 ≤ i) (h1 : i < xs.length) : ∃ a, xs[i.toNat]? = some a ∧ a ∈ xs ∧ atI (xs.map f) i = some (f a) := by
  have hl : i.toNat < xs.length := by omega
  refine ⟨xs[i.toNat], List.getElem?_eq_getElem hl, List.getElem_mem hl, ?_⟩
  have := atI_nat (xs := xs.map f) (j := i.toNat) (v := f xs[i.toNat]) (by rw [List.getElem?_map, List.getElem?_eq_getElem hl]; rfl)
  rwa [Int.toNat_of_nonneg h0] at this
theorem atI_get0 {α : Type} {xs : List α} {i : Int} (h0 : 0 ≤ i) (h1 : i < xs.length) : ∃ a, xs[i.toNat]? = some a ∧ a ∈ xs ∧ atI xs i = some a := by
  have hl : i.toNat < xs.length := by omega
  refine ⟨xs[i.toNat], List.getElem?_eq_getElem hl, List.getElem_mem hl, ?_⟩
  have := atI_nat (xs := xs) (j := i.toNat) (List.getElem?_eq_getElem hl)
  rwa [Int.toNat_of_nonneg h0] at this
def spPot : DSp := fun ds M Q => ∃ (ns : List Int) (i : Nat), ds = [.scr ns, .int (i : Nat)] ∧ M = [] ∧ i ≤ 64 ∧ ∀ p cl, Pot 0 cl → Q (.ref p) [(p, cl)]
theorem scPot : FnScope ["script", "place", "cell", "own", "small"] ["script", "place"] (defScope (top 30)) := ⟨rfl, rfl, rfl, by decide +kernel, rfl, by decide +kernel, by decide +kernel⟩
theorem ok_law_pot {f : Addr} {fd : FuncData} (bn : BN mg) (F : Fun K "_law_pot" "_law_pot" (top 30) f fd) : FnG P w K mg base CX0 (k + 1) f fd ["script", "place"] (lift K spPot) :=
  have sc := scPot
  def_ok F sc (fun ds M Q ⟨_, _, e, _⟩ => by rw [e]; rfl) fun cdv A outer s H E B ds M Q hr hgd h => by
    obtain ⟨ns, i, rfl, rfl, hi, q⟩ := h
    have body : ∀ c : Int, JSs (cxOf CX0 P w K mg base ["script", "place", "cell", "own", "small"] "_law_pot" (defScope (top 30)) f cdv A outer s H E).nox B ((defBody (top 30)).drop 1) [some (.scr ns), some (.int (i : Nat)), some (.int c), none, none] [] { nx := fun _ M' => Q .non M', rt := Q } := by
      intro c
      refine js_cons (js_set 3 sc.nd (je_mulR (je_modR (je_intI bn.int (ja_cons (je_abs bn.abs (ja_cons (je_var 2 rfl (ja_nil ⟨_, rfl, (ja_nil ⟨_, rfl, (je_pow (je_pow (je_int (je_int ⟨_, _, rfl, rfl, ?_, (je_int ⟨_, _, rfl, rfl, ?_, ⟨_, _, rfl, rfl, ?_, fun big big0 big1 _ => (je_intR bn.int (ja_cons (je_geI (je_abs bn.abs (ja_cons (je_var 2 rfl (ja_nil ⟨_, rfl, (je_pow (je_int (je_int ⟨_, _, rfl, rfl, ?_, ⟨_, _, rfl, rfl, (ja_nil ⟨_, rfl, fun yes yes0 yes1 => ⟨_, _, rfl, rfl, .inr ⟨by omega, by omega⟩, fun own ho => ?_⟩⟩)⟩⟩)))⟩)))))))⟩⟩)⟩))))⟩)⟩)))))))))
      · exact ⟨by decide, by decide +kernel⟩
      · exact ⟨by decide, by decide +kernel⟩
      · show (0 : Int) < (10 ^ 60) ^ 5; decide +kernel
      · exact ⟨by decide, by decide +kernel⟩
      have hown0 : 0 ≤ own := by rw [ho]; exact Int.mul_nonneg big0 yes0
      refine js_cons (js_set 4 sc.nd (je_mod (je_intI bn.int (ja_cons (je_var 2 rfl (ja_nil ⟨_, rfl, (je_int ⟨_, _, rfl, rfl, ?_, ?_⟩)⟩))))))
      · exact (show (0 : Int) < _ by decide)
      refine js_one (js_ret (je_lstO (ja_cons (je_var 3 rfl (ja_cons (je_mod (je_intI bn.int (ja_cons (je_add (je_add (je_mul (je_var 4 rfl (je_int ⟨_, _, rfl, rfl, ?_, (je_mul (je_mul (je_int (je_var 1 rfl ⟨_, _, rfl, rfl, ?_, (je_var 1 rfl ⟨_, _, rfl, rfl, ?_, ⟨_, _, rfl, rfl, (je_int ⟨_, _, rfl, rfl, (ja_nil ⟨_, rfl, (je_int ⟨_, _, rfl, rfl, ?_, (ja_cons (je_int (ja_nil ⟨szok, fun p => ?_⟩)))⟩)⟩)⟩)⟩⟩)⟩))))⟩)))))))))))))
      · exact .inr ⟨by decide, by decide⟩
      · exact .inl ⟨by decide, by decide⟩
      · exact .inr ⟨by omega, by omega⟩
      · exact (show (0 : Int) < _ by decide)
      · refine q p _ ⟨_, _, _, rfl, hown0, Int.emod_nonneg _ (by decide), ?_, Int.le_refl _, Int.le_refl _⟩
        exact Int.lt_trans (Int.emod_lt_of_pos _ (by decide)) (by decide)
    refine js_cons (js_set 2 sc.nd (je_if (jt_ltI (je_var 1 rfl (je_len bn.len (ja_cons (je_var 0 rfl (ja_nil ⟨_, _, rfl, .scr _, ⟨_, _, rfl, rfl, ⟨fun hk => (je_ix (je_var 0 rfl (je_var 1 rfl ?_))), fun hk => (je_add (je_add (je_mod (je_sum rfl bn.sum (ja_cons (je_slL (je_var 0 rfl (je_int ⟨_, rfl, ⟨_, .scr _, (ja_nil ⟨_, cutD ns none (some 1), rfl, ?_, (je_int ⟨_, _, rfl, rfl, ?_, (je_mul (je_int (je_var 1 rfl ⟨_, _, rfl, rfl, ?_, ⟨_, _, rfl, rfl, (je_int ⟨_, _, rfl, rfl, ?_⟩)⟩⟩)))⟩)⟩)⟩⟩))))))))⟩⟩⟩))))))))
    · have hk : (i : Int) < ns.length := by have := of_decide_eq_true hk; simpa using this
      obtain ⟨a, _, _, h3⟩ := atI_map (f := D.int) (Int.natCast_nonneg i) hk
      exact ⟨_, _, _, .scr _, rfl, h3, body _⟩
    · rw [cut_map]; exact .lst _
    · exact (show (0 : Int) < _ by decide)
    · exact .inl ⟨by decide, by decide⟩
    · exact body _
def spTake : DSp := fun ds M Q => ∃ (p : Addr) (cl : Cl) (c : Nat) (n : Int), ds = [.ref p, .int n] ∧ M = [(p, cl)] ∧ Pot c cl ∧ c ≤ 1000000 ∧ 0 < n ∧ n < 2 ^ 30 ∧ ∀ x cl', 0 ≤ x → x < n → Pot (c + 1) cl' → Q (.int x) [(p, cl')]
theorem scTake : FnScope ["pot", "upto", "digit", "prime", "blend"] ["pot", "upto"] (defScope (top 31)) := ⟨rfl, rfl, rfl, by decide +kernel, rfl, by decide +kernel, by decide +kernel⟩
theorem ok_law_take {f : Addr} {fd : FuncData} (bn : BN mg) (F : Fun K "_law_take" "_law_take" (top 31) f fd) : FnG P w K mg base CX0 (k + 1) f fd ["pot", "upto"] (lift K spTake) :=
  have sc := scTake
  def_ok F sc (fun ds M Q ⟨_, _, _, _, e, _⟩ => by rw [e]; rfl) fun cdv A outer s H E B ds M Q hr hgd h => by
    obtain ⟨p, cl, c, n, rfl, rfl, ⟨own, seed, m, rfl, o0, s0, s1, m0, m1⟩, hc, hn, hn2, q⟩ := h
    refine js_cons (js_if (jt_gtI (je_ix (je_var 0 rfl (je_int ⟨_, _, .int own, .own (k := 0) rfl, rfl, rfl, (je_int ⟨_, _, rfl, rfl, ⟨fun hk => ?_, fun hk => ?_⟩⟩)⟩)))))
    · have hk : 0 < own := of_decide_eq_true hk
      refine js_cons (js_set 2 sc.nd (je_mod (je_intI bn.int (ja_cons (je_ix (je_var 0 rfl (je_int ⟨_, _, .int own, .own (k := 0) rfl, rfl, rfl, (ja_nil ⟨_, rfl, (je_var 1 rfl ⟨_, _, rfl, rfl, hn, ?_⟩)⟩)⟩)))))))
      refine js_cons (js_asg (je_fdiv (je_ix (je_var 0 rfl (je_int ⟨_, _, .int own, .own (k := 0) rfl, rfl, rfl, (je_var 1 rfl ⟨_, _, rfl, rfl, ⟨hn, hn2⟩, (jg_ix (je_var 0 rfl (je_int ⟨0, _, _, _, 0, rfl, rfl, rfl, rfl, ?_⟩)))⟩)⟩)))))
      refine js_one (js_ret (je_var 2 rfl ?_))
      exact q _ _ (Int.emod_nonneg _ (by omega)) (Int.emod_lt_of_pos _ hn) ⟨_, _, _, rfl, Int.ediv_nonneg o0 (by omega), s0, s1, m0, by omega⟩
    · refine js_nil ?_
      refine js_cons (js_asg (je_add (je_ix (je_var 0 rfl (je_int ⟨_, _, .int m, .own (k := 0) rfl, rfl, rfl, (je_int ⟨_, _, rfl, rfl, (jg_ix (je_var 0 rfl (je_int ⟨0, _, _, _, 2, rfl, rfl, rfl, rfl, ?_⟩)))⟩)⟩)))))
      have hm5 : 0 ≤ (m + 1) % 5 ∧ (m + 1) % 5 < 5 := by omega
      refine js_cons (js_set 3 sc.nd (je_ix (je_lst (ja_cons (je_int (ja_cons (je_int (ja_cons (je_int (ja_cons (je_int (ja_cons (je_int (ja_nil ⟨szok, (je_mod (je_intI bn.int (ja_cons (je_ix (je_var 0 rfl (je_int ⟨_, _, .int (m + 1), .own (k := 0) rfl, rfl, rfl, (ja_nil ⟨_, rfl, (je_int ⟨_, _, rfl, rfl, (show (0 : Int) < 5 by decide), ?_⟩)⟩)⟩))))))⟩))))))))))))))
      obtain ⟨pr, _, hpm, hpa⟩ := atI_map (f := D.int) (xs := [2147483647, 2147483629, 2147483587, 2147483579, 2147483563]) hm5.1 hm5.2
      have hpr : 0 < pr ∧ pr < 2 ^ 31 := by
        have : ∀ x ∈ ([2147483647, 2147483629, 2147483587, 2147483579, 2147483563] : List Int), 0 < x ∧ x < 2 ^ 31 := by decide
        exact this pr hpm
      refine ⟨_, _, _, .lst _, rfl, hpa, ?_⟩
      refine js_cons (js_set 4 sc.nd (je_modR (je_intI bn.int (ja_cons (je_pow (je_intI bn.int (ja_cons (je_add (je_add (je_ix (je_var 0 rfl (je_int ⟨_, _, .int seed, .own (k := 0) rfl, rfl, rfl, (je_mul (je_mul (je_int (je_ix (je_var 0 rfl (je_int ⟨_, _, .int (m + 1), .own (k := 0) rfl, rfl, rfl, ⟨_, _, rfl, rfl, ?_, (je_ix (je_var 0 rfl (je_int ⟨_, _, .int (m + 1), .own (k := 0) rfl, rfl, rfl, ⟨_, _, rfl, rfl, ?_, ⟨_, _, rfl, rfl, (je_int ⟨_, _, rfl, rfl, (ja_nil ⟨_, rfl, (je_int ⟨_, _, rfl, rfl, ?_, (ja_nil ⟨_, rfl, (je_var 3 rfl ⟨_, _, rfl, rfl, hpr.1, fun bl hbl0 hbl1 _ => ?_⟩)⟩)⟩)⟩)⟩)⟩⟩⟩)))⟩⟩))))))⟩))))))))))))
      · exact .inr ⟨by omega, by omega⟩
      · exact .inr ⟨by omega, by omega⟩
      · refine ⟨by decide, ?_⟩
        have h2 : (m + 1) * (m + 1) ≤ 1000001 * 1000001 := Int.mul_le_mul (by omega) (by omega) (by omega) (by decide)
        have h20 : 0 ≤ (m + 1) * (m + 1) := Int.mul_nonneg (by omega) (by omega)
        have hb : ∀ x : Int, x.natAbs < 2 ^ 100 → ((Builtin.Int.intBits x : Nat) : Int) * 3 ≤ 2 ^ 27 := fun x hx => by
          have := intBits_le hx
          omega
        apply hb
        show Int.natAbs (seed + _ * (m + 1) * (m + 1) + _) < 2 ^ 100
        rw [Int.mul_assoc]
        generalize (m + 1) * (m + 1) = z at h2 h20
        omega
      refine js_cons (js_set 4 sc.nd (je_mod (je_intI bn.int (ja_cons (je_mul (je_var 4 rfl (je_add (je_mod (je_intI bn.int (ja_cons (je_var 4 rfl (ja_nil ⟨_, rfl, (je_int ⟨_, _, rfl, rfl, (show (0 : Int) < _ by decide), (je_mul (je_int (je_ix (je_var 0 rfl (je_int ⟨_, _, .int (m + 1), .own (k := 0) rfl, rfl, rfl, ⟨_, _, rfl, rfl, ?_, ⟨_, _, rfl, rfl, ⟨_, _, rfl, rfl, ?_, (ja_nil ⟨_, rfl, (je_int ⟨_, _, rfl, rfl, (show (0 : Int) < _ by decide), ?_⟩)⟩)⟩⟩⟩⟩)))))⟩)⟩))))))))))))
      · exact .inl ⟨by decide, by decide⟩
      · exact .inl ⟨by omega, by omega⟩
      refine js_one (js_ret (je_mod (je_intI bn.int (ja_cons (je_fdiv (je_var 4 rfl (je_int ⟨_, _, rfl, rfl, ⟨by decide, by decide⟩, (ja_nil ⟨_, rfl, (je_var 1 rfl ⟨_, _, rfl, rfl, hn, ?_⟩)⟩)⟩)))))))
      exact q _ _ (Int.emod_nonneg _ (by omega)) (Int.emod_lt_of_pos _ hn) ⟨_, _, _, rfl, o0, s0, s1, by omega, by omega⟩
end J
namespace J
open PySem PySem.Spec PyProof.Rows L2
variable {P : Program} {w : World} {K : PySem.W.Frag} {mg : Str → Option Value} {base : Heap} {k : Nat}
/-- a tuple or a list, as data -/
def D.isSq (x : D) (xs : List D) : Prop := x = .lst xs ∨ x = .tup xs
theorem D.isSq.sq {x : D} {xs : List D} {M : Mem} (h : x.isSq xs) : Sq M x xs := by
  rcases h with rfl | rfl
  · exact .lst _
  · exact .tup _
def spOf : DSp := fun ds M Q => ∃ (p : Addr) (cl : Cl) (c : Nat) (x : D) (xs : List D), ds = [.ref p, x] ∧ x.isSq xs ∧ M = [(p, cl)] ∧ Pot c cl ∧ c ≤ 1000000 ∧ 1 ≤ xs.length ∧ xs.length ≤ 1000000 ∧ ∀ d cl', d ∈ xs → Pot (c + 1) cl' → Q d [(p, cl')]
theorem scOf : FnScope ["pot", "some"] ["pot", "some"] (defScope (top 32)) := ⟨rfl, rfl, rfl, by decide +kernel, rfl, by decide +kernel, by decide +kernel⟩
theorem ok_law_of {f : Addr} {fd : FuncData} (bn : BN mg) (h_take : Has P w K mg base "_law_take" k ["pot", "upto"] spTake) (F : Fun K "_law_of" "_law_of" (top 32) f fd) : FnG P w K mg base CX0 (k + 1) f fd ["pot", "some"] (lift K spOf) :=
  have sc := scOf
  def_ok F sc (fun ds M Q ⟨_, _, _, _, _, e, _⟩ => by rw [e]; rfl) fun cdv A outer s H E B ds M Q hr hgd h => by
    obtain ⟨p, cl, c, x, xs, rfl, hx, rfl, hP, hc, l0, l1, q⟩ := h
    refine js_one (js_ret (je_ix (je_var 1 rfl (je_callH h_take hr hgd (ja_cons (je_var 0 rfl (ja_cons (je_len bn.len (ja_cons (je_var 1 rfl (ja_nil ⟨_, _, rfl, hx.sq, (ja_nil ⟨_, [], .refl _, p, cl, c, _, rfl, rfl, hP, hc, by omega, by omega, fun i cl' i0 i1 hP' => ⟨_, .refl _, ?_⟩⟩)⟩)))))))))))
    obtain ⟨a, _, hm, ha⟩ := atI_get0 (xs := xs) i0 i1
    exact ⟨_, _, _, hx.sq, rfl, ha, q a cl' hm hP'⟩
def spSome : DSp := fun ds M Q => ∃ (p : Addr) (cl : Cl) (c : Nat) (x : D) (xs : List D) (m : Nat), ds = [.ref p, x, .int (m : Nat)] ∧ x.isSq xs ∧ M = [(p, cl)] ∧ Pot c cl ∧ c + m ≤ 1000000 ∧ m ≤ xs.length ∧ xs.length ≤ 1000000 ∧ ∀ ys rest cl', (ys ++ rest).Perm xs → ys.length = m → Pot (c + m) cl' → Q (.lst ys) [(p, cl')]
theorem scSome : FnScope ["pot", "pool", "many", "left", "found", "lap"] ["pot", "pool", "many"] (defScope (top 33)) := ⟨rfl, rfl, rfl, by decide +kernel, rfl, by decide +kernel, by decide +kernel⟩
theorem seqIx {n : Nat} {i : Int} (h0 : 0 ≤ i) (h1 : i < n) : seqIndex? i n = some i.toNat := by
  unfold seqIndex?
  have : ¬ i < 0 := by omega
  simp only [this, if_false, h0, h1, decide_true, Bool.and_self, if_true]
theorem ok_law_some {f : Addr} {fd : FuncData} (bn : BN mg) (h_take : Has P w K mg base "_law_take" k ["pot", "upto"] spTake) (F : Fun K "_law_some" "_law_some" (top 33) f fd) : FnG P w K mg base CX0 (k + 1) f fd ["pot", "pool", "many"] (lift K spSome) :=
  have sc := scSome
  def_ok F sc (fun ds M Q ⟨_, _, _, _, _, _, e, _⟩ => by rw [e]; rfl) fun cdv A outer s H E B ds M Q hr hgd h => by
    obtain ⟨p, cl, c, x, xs, m, rfl, hx, rfl, hP, hc, hm, hl, q⟩ := h
    refine js_cons (js_par 3 4 rfl sc.nd (ja_cons (je_listO bn.list (ja_cons (je_var 1 rfl (ja_nil ⟨_, _, rfl, hx.sq, fun pl => (ja_cons (je_lstO (ja_nil ⟨szok, fun pf => (ja_nil ⟨_, _, rfl, ?_⟩)⟩)))⟩))))))
    refine js_cons (js_for PassesOwn.never rfl (ji_range1 bn.range (ja_cons (je_var 2 rfl (ja_nil ⟨_, rfl, by omega, by omega, ⟨[5], fun i ρ M' => ∃ cl' ys left x5, M' = [(p, cl'), (pl, .lst left), (pf, .lst ys)] ∧ Pot (c + i) cl' ∧ (ys ++ left).Perm xs ∧ ys.length = i ∧ i ≤ m ∧ ρ = [some (.ref p), some x, some (.int (m : Nat)), some (.ref pl), some (.ref pf), x5], ?_, fun _ _ _ _ => trivial, fun i d ρ M hd hI => ?_, fun ρ M hI => ?_⟩⟩)))))
    · exact ⟨cl, [], xs, none, rfl, hP, .refl _, rfl, Nat.zero_le _, rfl⟩
    · obtain ⟨cl', ys, left, x5, rfl, hP', hp, hy, him, rfl⟩ := hI
      obtain ⟨hi, rfl⟩ := it_range hd
      have hll : ys.length + left.length = xs.length := by rw [← hp.length_eq, List.length_append]
      have hi : i < m := by omega
      refine (jg_name 5 sc.nd ?_)
      refine js_one (js_expr (je_append (je_var 4 rfl ⟨2, pf, ys, rfl, rfl, je_popAt (je_var 3 rfl ⟨1, pl, left, rfl, rfl, (je_callH h_take hr hgd (ja_cons (je_var 0 rfl (ja_cons (je_len bn.len (ja_cons (je_var 3 rfl (ja_nil ⟨_, _, rfl, .own (k := 1) rfl, (ja_nil ⟨_, [(pl, .lst left), (pf, .lst ys)], .refl _, p, cl', c + i, _, rfl, rfl, hP', by omega, by omega, by omega, fun j cl2 j0 j1 hP2 => ⟨_, .refl _, ?_⟩⟩)⟩))))))))⟩)⟩)))
      have hj : j.toNat < left.length := by omega
      refine ⟨1, left, j, j.toNat, left[j.toNat], rfl, rfl, by omega, by have := hl; omega, seqIx j0 j1, List.getElem?_eq_getElem hj, 2, ys, rfl, by have := sz1000 (n := 0) (by omega); unfold sizeLine; omega, ?_⟩
      refine ⟨cl2, _, _, _, rfl, by rw [show c + (i + 1) = c + i + 1 by omega]; exact hP2, ?_, by simp [hy], by omega, rfl⟩
      have hpe := permE (M := left) (k := j.toNat) (List.getElem?_eq_getElem hj)
      rw [List.append_assoc]
      exact (List.Perm.append_left ys hpe.symm).trans hp
    · obtain ⟨cl', ys, left, x5, rfl, hP', hp, hy, him, rfl⟩ := hI
      rw [rangeD_length] at hP' hy
      have e : ((m : Nat) : Int).toNat = m := by omega
      rw [e] at hP' hy
      refine js_one (js_ret (je_drop (je_frz (je_var 4 rfl ⟨2, pf, ys, rfl, rfl, [(p, cl')], by simp [List.eraseIdx], q ys left cl' hp hy hP'⟩))))
theorem perm_map {α : Type} {f : α → D} {g : D → α} (hg : ∀ a, g (f a) = a) {ys rest : List D} {xs : List α} (h : (ys ++ rest).Perm (xs.map f)) : ∃ zs ws : List α, ys = zs.map f ∧ (zs ++ ws).Perm xs := by
  refine ⟨ys.map g, rest.map g, ?_, ?_⟩
  · rw [List.map_map]
    have : ∀ y ∈ ys, (f ∘ g) y = y := fun y hy => by
      obtain ⟨a, _, rfl⟩ := List.mem_map.mp (h.mem_iff.mp (List.mem_append_left _ hy))
      show f (g (f a)) = f a
      rw [hg]
    calc ys = ys.map id := (List.map_id ys).symm
      _ = ys.map (f ∘ g) := (List.map_congr_left fun y hy => (this y hy)).symm
  · have := h.map g
    rw [List.map_append, List.map_map] at this
    have e : xs.map (g ∘ f) = xs := by
      rw [show g ∘ f = id from funext hg, List.map_id]
    rwa [e] at this
def D.toInt : D → Int
  | .int i => i
  | _ => 0
def D.toPt : D → Int × Int
  | .tup [.int a, .int b] => (a, b)
  | _ => (0, 0)
def spCells : DSp := fun ds M Q => ∃ (ns : List Int) (m : Int), ds = [.scr ns, .int m] ∧ 1 ≤ m ∧ m ≤ 63 ∧ ∀ n : Int, 1 ≤ n → n ≤ m → Q (.lst ((rgI 0 n).map D.int)) M
theorem scCells : FnScope ["script", "most"] ["script", "most"] (defScope (top 34)) := ⟨rfl, rfl, rfl, by decide +kernel, rfl, by decide +kernel, by decide +kernel⟩
theorem ok_law_cells {f : Addr} {fd : FuncData} (bn : BN mg) (F : Fun K "_law_cells" "_law_cells" (top 34) f fd) : FnG P w K mg base CX0 (k + 1) f fd ["script", "most"] (lift K spCells) :=
  have sc := scCells
  def_ok F sc (fun ds M Q ⟨_, _, e, _⟩ => by rw [e]; rfl) fun cdv A outer s H E B ds M Q hr hgd h => by
    obtain ⟨ns, m, rfl, m0, m1, q⟩ := h
    refine js_one (js_ret (je_listRg1 rfl bn.list bn.range (je_max2 rfl bn.max (ja_cons (je_int (ja_cons (je_min2 rfl bn.min (ja_cons (je_var 1 rfl (ja_cons (je_len bn.len (ja_cons (je_var 0 rfl (ja_nil ⟨_, _, rfl, .scr _, (ja_nil ⟨_, _, rfl, (ja_nil ⟨_, _, rfl, ⟨_, rfl, ?_, ?_⟩⟩)⟩)⟩))))))))))))))
    · refine RgOk.of_le (by decide) ?_ (by decide) ?_
      · split <;> split <;> omega
      · split <;> split <;> omega
    · refine q _ ?_ ?_
      · split <;> split <;> omega
      · split <;> split <;> omega
def spResidue : DSp := fun ds M Q => ∃ (p : Addr) (cl : Cl) (c : Nat) (pr : Int), ds = [.ref p, .int pr] ∧ M = [(p, cl)] ∧ Pot c cl ∧ c + 1 ≤ 1000000 ∧ 2 ≤ pr ∧ pr < 2 ^ 30 ∧ ∀ x cl', 0 ≤ x → x < pr → Pot (c + 2) cl' → Q (.int x) [(p, cl')]
theorem scResidue : FnScope ["pot", "prime", "way"] ["pot", "prime"] (defScope (top 36)) := ⟨rfl, rfl, rfl, by decide +kernel, rfl, by decide +kernel, by decide +kernel⟩
theorem ok_law_residue {f : Addr} {fd : FuncData} (bn : BN mg) (h_take : Has P w K mg base "_law_take" k ["pot", "upto"] spTake) (F : Fun K "_law_residue" "_law_residue" (top 36) f fd) : FnG P w K mg base CX0 (k + 1) f fd ["pot", "prime"] (lift K spResidue) :=
  have sc := scResidue
  def_ok F sc (fun ds M Q ⟨_, _, _, _, e, _⟩ => by rw [e]; rfl) fun cdv A outer s H E B ds M Q hr hgd h => by
    obtain ⟨p, cl, c, pr, rfl, rfl, hP, hc, p0, p1, q⟩ := h
    refine js_cons (js_set 2 sc.nd (je_callH h_take hr hgd (ja_cons (je_var 0 rfl (ja_cons (je_int (ja_nil ⟨_, [], .refl _, p, cl, c, _, rfl, rfl, hP, by omega, by decide, by decide, fun way cl' w0 w1 hP' => ⟨_, .refl _, ?_⟩⟩)))))))
    refine js_one (js_ret (je_intI bn.int (ja_cons (je_if (jt_ltI (je_var 2 rfl (je_int ⟨_, _, rfl, rfl, ⟨fun hk => (je_ix (je_lst (ja_cons (je_int (ja_cons (je_int (ja_cons (je_sub (je_var 1 rfl (je_int ⟨_, _, rfl, rfl, (ja_nil ⟨szok, (je_var 2 rfl ?_)⟩)⟩)))))))))), fun hk => (je_callH h_take hr hgd (ja_cons (je_var 0 rfl (ja_cons (je_var 1 rfl (ja_nil ⟨_, [], .refl _, p, cl', c + 1, _, rfl, rfl, hP', by omega, by omega, p1, fun x cl2 x0 x1 hP2 => ⟨_, .refl _, ?_⟩⟩))))))⟩⟩)))))))
    · have hk : way < 3 := of_decide_eq_true hk
      obtain ⟨a, _, hm, ha⟩ := atI_map (f := D.int) (xs := [0, 1, pr - 1]) w0 (by show way < 3; exact hk)
      refine ⟨_, _, _, .lst _, rfl, ha, ja_nil ⟨_, rfl, ?_⟩⟩
      have : a = 0 ∨ a = 1 ∨ a = pr - 1 := by simpa using hm
      exact q a cl' (by omega) (by omega) (hP'.mono (by omega))
    · exact ja_nil ⟨_, rfl, q x cl2 x0 x1 hP2⟩
def spAt : DSp := fun ds M Q => ∃ (p r : Int) (as : List Int), ds = [.int p, .its as, .int r] ∧ 1 < p ∧ p < 2 ^ 30 ∧ 0 ≤ r ∧ r < p ∧ Q (.int (ev as r % p)) M
theorem scAt : FnScope ["prime", "poly", "residue", "found", "power", "coefficient"] ["prime", "poly", "residue"] (defScope (top 37)) := ⟨rfl, rfl, rfl, by decide +kernel, rfl, by decide +kernel, by decide +kernel⟩
theorem ok_law_at {f : Addr} {fd : FuncData} (bn : BN mg) (F : Fun K "_law_at" "_law_at" (top 37) f fd) : FnG P w K mg base CX0 (k + 1) f fd ["prime", "poly", "residue"] (lift K spAt) :=
  have sc := scAt
  def_ok F sc (fun ds M Q ⟨_, _, _, e, _⟩ => by rw [e]; rfl) fun cdv A outer s H E B ds M Q hr hgd h => by
    obtain ⟨p, r, as, rfl, hp, hp2, r0, r1, q⟩ := h
    refine js_cons (js_asg (je_tup (ja_cons (je_int (ja_cons (je_int (ja_nil ⟨szok, jg_tup rfl ⟨_, rfl, rfl, jgs_cons (jg_name 3 sc.nd (jgs_cons (jg_name 4 sc.nd (jgs_nil ?_))))⟩⟩)))))))
    refine js_cons (js_for PassesOwn.never rfl (ji_tup (je_var 1 rfl ⟨_, rfl, ⟨[5], fun i ρ M' => M' = M ∧ ∃ z pw x5, ρ = [some (.int p), some (.its as), some (.int r), some (.int z), some (.int pw), x5] ∧ i ≤ as.length ∧ Cg p z (ev (as.take i) r) ∧ Cg p pw (r ^ i) ∧ 0 ≤ pw ∧ pw < p, ?_, fun _ _ _ _ => trivial, fun i d ρ M hd hI => ?_, fun ρ M hI => ?_⟩⟩)))
    · exact ⟨rfl, 0, 1, none, rfl, Nat.zero_le _, by rw [List.take_zero]; exact Cg.refl _ _, by rw [Int.pow_zero]; exact Cg.refl _ _, by decide, hp⟩
    · obtain ⟨rfl, z, pw, x5, rfl, hi, c1, c2, w0, w1⟩ := hI
      obtain ⟨a, ha, rfl⟩ := it_map hd
      have hil := (List.getElem?_eq_some_iff.mp ha).1
      refine (jg_name 5 sc.nd ?_)
      refine js_cons (js_set 3 sc.nd (je_add (je_var 3 rfl (je_mul (je_var 5 rfl (je_var 4 rfl ⟨_, _, rfl, rfl, .inr ⟨by omega, by omega⟩, ⟨_, _, rfl, rfl, ?_⟩⟩))))))
      refine js_one (js_set 4 sc.nd (je_mod (je_mul (je_var 4 rfl (je_var 2 rfl ⟨_, _, rfl, rfl, .inr ⟨by omega, by omega⟩, (je_var 0 rfl ⟨_, _, rfl, rfl, by show 0 < p; omega, ?_⟩)⟩)))))
      refine ⟨rfl, _, _, _, rfl, hil, ?_, ?_, Int.emod_nonneg _ (by omega), Int.emod_lt_of_pos _ (by omega)⟩
      · rw [take_get ha, ev_append, List.length_take, Nat.min_eq_left hi]
        have : ev [a] r = a := by simp [ev]
        rw [this]
        exact (c1.add ((Cg.refl p a).mul c2)).trans (Cg.of_eq (by rw [Int.mul_comm a]))
      · exact (Cg.mod _ _).trans ((c2.mul (Cg.refl p r)).trans (Cg.of_eq (by rw [Int.pow_succ])))
    · obtain ⟨rfl, z, pw, x5, rfl, hi, c1, c2, w0, w1⟩ := hI
      rw [List.length_map, List.take_length] at c1
      refine js_one (js_ret (je_mod (je_intI bn.int (ja_cons (je_var 3 rfl (ja_nil ⟨_, rfl, (je_var 0 rfl ⟨_, _, rfl, rfl, by show 0 < p; omega, ?_⟩)⟩))))))
      rw [← c1.eqm] at q
      exact q
end J
namespace J
open PySem PySem.Spec PyProof.Rows L2
variable {P : Program} {w : World} {K : PySem.W.Frag} {mg : Str → Option Value} {base : Heap} {k : Nat}
def spPrime : DSp := fun ds M Q => ∃ (p : Addr) (cl : Cl) (c : Nat), ds = [.ref p] ∧ M = [(p, cl)] ∧ Pot c cl ∧ c ≤ 1000000 ∧ ∀ pr cl', pr ∈ thePrimes → Pot (c + 1) cl' → Q (.int pr) [(p, cl')]
theorem scPrime : FnScope ["pot"] ["pot"] (defScope (top 35)) := ⟨rfl, rfl, rfl, by decide +kernel, rfl, by decide +kernel, by decide +kernel⟩
theorem ok_law_prime {f : Addr} {fd : FuncData} (bn : BN mg) (h_of : Has P w K mg base "_law_of" k ["pot", "some"] spOf) (F : Fun K "_law_prime" "_law_prime" (top 35) f fd) : FnG P w K mg base CX0 (k + 1) f fd ["pot"] (lift K spPrime) :=
  have sc := scPrime
  def_ok F sc (fun ds M Q ⟨_, _, _, e, _⟩ => by rw [e]; rfl) fun cdv A outer s H E B ds M Q hr hgd h => by
    obtain ⟨p, cl, c, rfl, rfl, hP, hc, q⟩ := h
    refine js_one (js_ret (je_intI bn.int (ja_cons (je_callH h_of hr hgd (ja_cons (je_var 0 rfl (ja_cons (je_lst (ja_cons (je_int (ja_cons (je_int (ja_cons (je_int (ja_cons (je_int (ja_cons (je_int (ja_cons (je_int (ja_cons (je_int (ja_cons (je_int (ja_cons (je_int (ja_cons (je_int (ja_cons (je_int (ja_cons (je_int (ja_cons (je_int (ja_cons (je_int (ja_nil ⟨szok, (ja_nil ⟨_, [], .refl _, p, cl, c, _, thePrimes.map D.int, rfl, .inl rfl, rfl, hP, hc, by simp [thePrimes], by simp [thePrimes], fun d cl' hd hP' => ⟨_, .refl _, ?_⟩⟩)⟩)))))))))))))))))))))))))))))))))))))
    obtain ⟨pr, hpr, rfl⟩ := List.mem_map.mp hd
    exact ja_nil ⟨_, rfl, q pr cl' hpr hP'⟩
end J
namespace J
open PySem PySem.Spec PyProof.Rows L2
variable {P : Program} {w : World} {K : PySem.W.Frag} {mg : Str → Option Value} {base : Heap} {k : Nat}
theorem rgI_mem {n x : Int} (h : x ∈ rgI 0 n) : 0 ≤ x ∧ x < n := by
  unfold rgI at h
  obtain ⟨i, hi, rfl⟩ := List.mem_map.mp h
  have := List.mem_range.mp hi
  omega
theorem rgI_nodup (n : Int) : (rgI 0 n).Nodup := by
  unfold rgI
  refine List.Pairwise.map _ (fun a b h => ?_) List.nodup_range
  omega
theorem rgI_length (n : Int) : (rgI 0 n).length = n.toNat := by unfold rgI; simp
theorem many_of_all : ∀ (n : Nat) (xs : List Int), (∀ i : Nat, i < n → (i : Int) ∈ xs) → n ≤ xs.length
  | 0, _, _ => Nat.zero_le _
  | n + 1, xs, h => by
    have h1 := h n (by omega)
    have h2 := many_of_all n (xs.erase (n : Int)) fun i hi => (List.mem_erase_of_ne (by omega)).mpr (h i (by omega))
    rw [List.length_erase_of_mem h1] at h2
    have := List.length_pos_of_mem h1
    omega
def notIn (xs : List Int) (d : D) : Bool := !decide (d.toInt ∈ xs)
/-- one of the first residues is not among few -/
theorem free_one {xs : List Int} (h : xs.length < 30) : ∃ z : Int, (((rangeD 0 1 30).filter (notIn xs)).map id)[0]? = some (.int z) ∧ z ∉ xs ∧ 0 ≤ z ∧ z < 30 := by
  rw [List.map_id]
  have hc : ∃ i, i < 30 ∧ ((i : Nat) : Int) ∉ xs := by
    apply Classical.byContradiction
    intro hn
    have := many_of_all 30 xs fun i hi => by
      by_cases h : ((i : Nat) : Int) ∈ xs
      · exact h
      · exact absurd ⟨i, hi, h⟩ hn
    omega
  obtain ⟨i, hi, hn⟩ := hc
  have hm : D.int ((i : Nat) : Int) ∈ (rangeD 0 1 30).filter (notIn xs) := by
    refine List.mem_filter.mpr ⟨?_, by simp [notIn, D.toInt, hn]⟩
    have := rangeD_get (lo := 0) (c := 1) (n := 30) hi
    simp only [Int.zero_add, Int.mul_one] at this
    exact List.mem_of_getElem? this
  have hl := List.length_pos_of_mem hm
  have h0 : ((rangeD 0 1 30).filter (notIn xs))[0]? = some ((rangeD 0 1 30).filter (notIn xs))[0] := List.getElem?_eq_getElem hl
  have hm0 := List.mem_filter.mp (List.mem_of_getElem? h0)
  obtain ⟨j, hj⟩ := List.getElem?_of_mem hm0.1
  obtain ⟨hj1, hj2⟩ := it_range hj
  rw [hj2] at h0 hm0
  refine ⟨_, h0, by simpa [notIn, D.toInt] using hm0.2, by omega, by omega⟩
def spUnlike : DSp := fun ds M Q => ∃ (p : Addr) (cl : Cl) (c : Nat) (pr m : Int), ds = [.ref p, .int pr, .int m] ∧ M = [(p, cl)] ∧ Pot c cl ∧ c ≤ 900000 ∧ 3 ≤ pr ∧ pr ≤ 1000003 ∧ 1 ≤ m ∧ m ≤ 29 ∧ ∀ rs cl', Unl pr rs → 1 ≤ rs.length → (rs.length : Int) ≤ m → Pot (c + 40) cl' → Q (.lst (rs.map D.int)) [(p, cl')]
theorem scUnlike : FnScope ["pot", "prime", "most", "many", "found", "lap", "residue", "one"] ["pot", "prime", "most"] (defScope (top 38)) := ⟨rfl, rfl, rfl, by decide +kernel, rfl, by decide +kernel, by decide +kernel⟩
theorem ok_law_unlike {f : Addr} {fd : FuncData} (bn : BN mg) (h_take : Has P w K mg base "_law_take" k ["pot", "upto"] spTake) (h_some : Has P w K mg base "_law_some" k ["pot", "pool", "many"] spSome) (F : Fun K "_law_unlike" "_law_unlike" (top 38) f fd) : FnG P w K mg base CX0 (k + 1) f fd ["pot", "prime", "most"] (lift K spUnlike) :=
  have sc := scUnlike
  def_ok F sc (fun ds M Q ⟨_, _, _, _, _, e, _⟩ => by rw [e]; rfl) fun cdv A outer s H E B ds M Q hr hgd h => by
    obtain ⟨p, cl, c, pr, m, rfl, rfl, hP, hc, p3, p4, m1, m2, q⟩ := h
    refine js_cons (js_set 3 sc.nd (je_add (je_int (je_callH h_take hr hgd (ja_cons (je_var 0 rfl (ja_cons (je_min2 rfl bn.min (ja_cons (je_var 2 rfl (ja_cons (je_var 1 rfl (ja_nil ⟨_, _, rfl, (ja_nil ⟨_, [], .refl _, p, cl, c, _, rfl, rfl, hP, by omega, ?_, ?_, fun x cl1 x0 x1 hP1 => ⟨_, .refl _, ⟨_, _, rfl, rfl, ?_⟩⟩⟩)⟩)))))))))))))
    · split <;> omega
    · split <;> omega
    have hx : x < m ∧ x < pr := by revert x1; split <;> omega
    refine js_cons (js_if (jt_ltI (je_var 1 rfl (je_int ⟨_, _, rfl, rfl, ⟨fun hk => ?_, fun hk => ?_⟩⟩))))
    · have hk : pr < 300 := of_decide_eq_true hk
      refine js_one (js_ret (je_callH h_some hr hgd (ja_cons (je_var 0 rfl (ja_cons (je_listRg1 rfl bn.list bn.range (je_var 1 rfl ⟨_, rfl, RgOk.of_le (by decide) (by omega) (by decide) (by omega), (ja_cons (je_min2 rfl bn.min (ja_cons (je_var 3 rfl (ja_cons (je_var 1 rfl (ja_nil ⟨_, _, rfl, (ja_nil ⟨_, [], .refl _, p, cl1, c + 1, .lst ((rgI 0 pr).map D.int), (rgI 0 pr).map D.int, (1 + x).toNat, ?_, .inl rfl, rfl, hP1, by omega, ?_, ?_, fun ys rest cl2 hp hy hP2 => ⟨_, .refl _, ?_⟩⟩)⟩)))))))⟩)))))))
      · rw [if_neg (by omega), Int.toNat_of_nonneg (by omega)]
      · rw [List.length_map, rgI_length]; omega
      · rw [List.length_map, rgI_length]; omega
      · obtain ⟨rs, ws, rfl, hp2⟩ := perm_map (g := D.toInt) (fun _ => rfl) hp
        rw [List.length_map] at hy
        refine q rs cl2 ⟨fun a ha => ?_, ?_⟩ (by omega) (by omega) (hP2.mono (by omega))
        · exact rgI_mem (hp2.mem_iff.mp (List.mem_append_left _ ha))
        · have := hp2.symm.nodup (rgI_nodup pr)
          exact (List.nodup_append.mp this).1
    · refine js_nil ?_
      have hk : ¬ pr < 300 := of_decide_eq_false hk
      refine js_cons (js_set 4 sc.nd (je_lstO (ja_nil ⟨szok, fun pf => ?_⟩)))
      refine js_cons (js_for PassesOwn.never rfl (ji_range1 bn.range (ja_cons (je_var 3 rfl (ja_nil ⟨_, rfl, by omega, by omega, ⟨[5], fun i ρ M' => ∃ cl' xs x5 x6, M' = [(p, cl'), (pf, .lst (xs.map D.int))] ∧ Pot (c + 1 + i) cl' ∧ Unl pr xs ∧ xs.length = i ∧ ρ = [some (.ref p), some (.int pr), some (.int m), some (.int (1 + x)), some (.ref pf), x5, x6, none], ?_, fun _ _ _ _ => trivial, fun i d ρ M hd hI => ?_, fun ρ M hI => ?_⟩⟩)))))
      · exact ⟨cl1, [], none, none, rfl, hP1, ⟨(fun a ha => by cases ha), List.nodup_nil⟩, rfl, rfl⟩
      · obtain ⟨cl', xs, x5, x6, rfl, hP', hU, hl, rfl⟩ := hI
        obtain ⟨hi, rfl⟩ := it_range hd
        have hi2 : i < 30 := by omega
        refine (jg_name 5 sc.nd ?_)
        refine js_cons (js_set 6 sc.nd (je_callH h_take hr hgd (ja_cons (je_var 0 rfl (ja_cons (je_var 1 rfl (ja_nil ⟨_, [(pf, .lst (xs.map D.int))], .refl _, p, cl', c + 1 + i, _, rfl, rfl, hP', by omega, by omega, by omega, fun y cl2 y0 y1 hP2 => ⟨_, .refl _, ?_⟩⟩)))))))
        have fin : ∀ z : Int, z ∉ xs → 0 ≤ z → z < pr → ∃ cl' xs' x5 x6, ([(p, cl2), (pf, Cl.lst (xs.map D.int ++ [D.int z]))] : Mem) = [(p, cl'), (pf, .lst (xs'.map D.int))] ∧ Pot (c + 1 + (i + 1)) cl' ∧ Unl pr xs' ∧ xs'.length = i + 1 ∧ ([some (.ref p), some (.int pr), some (.int m), some (.int (1 + x)), some (.ref pf), some (.int (0 + (i : Nat) * 1)), some (.int y), none] : Ev) = [some (.ref p), some (.int pr), some (.int m), some (.int (1 + x)), some (.ref pf), x5, x6, none] := by
          intro z hz z0 z1
          refine ⟨cl2, xs ++ [z], _, _, by rw [List.map_append]; rfl, by rw [show c + 1 + (i + 1) = c + 1 + i + 1 by omega]; exact hP2, ⟨?_, ?_⟩, by simp [hl], rfl⟩
          · intro a ha
            rcases List.mem_append.mp ha with ha | ha
            · exact hU.1 a ha
            · rw [List.mem_singleton.mp ha]; exact ⟨z0, z1⟩
          · rw [List.nodup_append]
            refine ⟨hU.2, by simp, fun a ha b hb e => ?_⟩
            rw [List.mem_singleton.mp hb] at e
            exact hz (e ▸ ha)
        have hlz : (xs.map D.int).length < sizeLine := by rw [List.length_map]; have : 4000 ≤ sizeLine := szok; omega
        refine js_one (js_expr (je_append (je_var 4 rfl ⟨1, pf, _, rfl, rfl, (je_if (jt_notInI rfl (je_var 6 rfl (je_var 4 rfl ⟨y, xs, rfl, .own (k := 1) rfl, ⟨fun hk => (je_var 6 rfl ⟨1, _, rfl, hlz, ?_⟩), fun hk => (je_ix (je_lcIf [("one", 7)] rfl sc.nd (blkOk_by rfl) (ji_range1 bn.range (ja_cons (je_int (ja_nil ⟨_, rfl, by decide, by decide, lc_filter (notIn xs) id (ix := [7]) (by decide) trivial ?_ ?_ (je_int ?_)⟩))))))⟩⟩))))⟩)))
        · have : y ∉ xs := by simpa using hk
          exact fin y this y0 y1
        · exact szok
        · intro j d hj B2 s2 H2 C2 cl2' fp2
          obtain ⟨_, rfl⟩ := it_range hj
          refine jg_name 7 sc.nd fun B3 s3 H3 C3 cl3 fp3 => jt_notInI rfl (je_var 7 rfl (je_var 4 rfl ⟨_, xs, rfl, .own (k := 1) rfl, rfl, rfl, fun _ B4 s4 H4 C4 cl4 fp4 => je_var 7 rfl ⟨rfl, rfl⟩⟩))
        · obtain ⟨z, hz, hz1, hz2, hz3⟩ := free_one (xs := xs) (by omega)
          refine ⟨_, 0, .int z, .lst _, rfl, ?_, 1, _, rfl, hlz, fin z hz1 hz2 (by omega)⟩
          exact atI_nat (j := 0) hz
      · obtain ⟨cl', xs, x5, x6, rfl, hP', hU, hl, rfl⟩ := hI
        rw [rangeD_length] at hP' hl
        refine js_one (js_ret (je_drop (je_frz (je_var 4 rfl ⟨1, pf, _, rfl, rfl, [(p, cl')], by simp [List.eraseIdx], q xs cl' hU (by omega) (by omega) (hP'.mono (by omega))⟩))))
end J
namespace J
open PySem PySem.Spec PyProof.Rows L2
variable {P : Program} {w : World} {K : PySem.W.Frag} {mg : Str → Option Value} {base : Heap} {k : Nat}
/-- points as residues -/
def PtsIn (p : Int) (qs : List (Int × Int)) : Prop := ∀ q ∈ qs, (0 ≤ q.1 ∧ q.1 < p) ∧ 0 ≤ q.2 ∧ q.2 < p
def spAreThr : DSp := fun ds M Q => ∃ (p : Int) (cs : List Int) (qs : List (Int × Int)) (x : D), ds = [.int p, .its cs, x] ∧ x.isSq (qs.map dPt) ∧ 1 < p ∧ p < 2 ^ 30 ∧ PtsIn p qs ∧ IsThr p qs cs ∧ qs.length ≤ 1000 ∧ Q (.bl true) M
theorem scAreThr : FnScope ["prime", "poly", "points", "one", "residue", "value"] ["prime", "poly", "points"] (defScope (top 39)) := ⟨rfl, rfl, rfl, by decide +kernel, rfl, by decide +kernel, by decide +kernel⟩
theorem all_true (xs : List (Int × Int)) : ((xs.map fun _ => true).all id) = true := by simp
theorem all_trueI (xs : List Int) : ((xs.map fun _ => true).all id) = true := by simp
theorem ok_law_are_through {f : Addr} {fd : FuncData} (bn : BN mg) (h_at : Has P w K mg base "_law_at" k ["prime", "poly", "residue"] spAt) (F : Fun K "_law_are_through" "_law_are_through" (top 39) f fd) : FnG P w K mg base CX0 (k + 1) f fd ["prime", "poly", "points"] (lift K spAreThr) :=
  have sc := scAreThr
  def_ok F sc (fun ds M Q ⟨_, _, _, _, e, _⟩ => by rw [e]; rfl) fun cdv A outer s H E B ds M Q hr hgd h => by
    obtain ⟨p, cs, qs, x, rfl, hx, hp, hp2, hin, hT, hl, q⟩ := h
    have hlc := hT.len
    refine js_cons (js_if (JW.jt (jt_orP (jt_not (jt_val (je_isi bn.isi (ja_cons (je_var 1 rfl (ja_cons (je_type bn.tuple (by decide +kernel) (ja_nil ⟨_, _, "tuple", "tuple", true, rfl, .id _, rfl, (by decide +kernel), ⟨_, rfl, ⟨_, fun _ => (jw_or1 (jt_neI (je_len bn.len (ja_cons (je_var 1 rfl (ja_nil ⟨_, _, rfl, .tup _, (je_len bn.len (ja_cons (je_var 2 rfl (ja_nil ⟨_, _, rfl, hx.sq, ⟨_, _, rfl, rfl, ⟨rfl, rfl⟩⟩⟩))))⟩)))))), ⟨fun hk => ?_, fun hk => ?_⟩⟩⟩⟩)))))))))))
    · exfalso
      revert hk
      simp [hlc]
    refine js_nil ?_
    refine js_cons (js_if (jt_not (jt_val (je_all rfl bn.all (ja_cons (je_lc [("one", 3)] rfl sc.nd (blkOk_by rfl) (ji_tup (je_var 1 rfl ⟨_, rfl, lc_map ((cs.map fun _ => true).map D.bl) (ix := [3]) (by decide) trivial (by simp) ?_ ?_ ?_⟩))))))))
    · rw [List.length_map]; exact sz1000 (by omega)
    · intro i d y h1 h2 B2 s2 H2 C2 cl2 fp2
      obtain ⟨a, ha, rfl⟩ := it_map h1
      obtain ⟨z, hz, rfl⟩ := it_map h2
      rw [List.getElem?_map, ha] at hz
      cases hz
      have hra := hT.rs a (List.mem_of_getElem? ha)
      refine jg_name 3 sc.nd fun _ _ _ _ _ _ => je_andP (je_isi bn.isi (ja_cons (je_var 3 rfl (ja_cons (je_type bn.int (by decide +kernel) (ja_nil ⟨_, _, "int", "int", true, rfl, .id _, rfl, (by decide +kernel), _, true, rfl, fun _ => ?_, rfl, rfl⟩))))))
      refine je_andP (je_not (je_isi bn.isi (ja_cons (je_var 3 rfl (ja_cons (je_type bn.bool (by decide +kernel) (ja_nil ⟨_, _, "bool", "int", false, rfl, .id _, rfl, (by decide +kernel), _, rfl, _, true, rfl, fun _ => ?_, rfl, rfl⟩)))))))
      refine je_and1 (je_chainP op_le op_lt (je_int (je_var 3 rfl ⟨_, _, _, rfl, rfl, (je_var 0 rfl ⟨rfl, rfl⟩), ⟨?_, rfl⟩⟩)))
      rw [decide_eq_true hra.1, decide_eq_true hra.2]; rfl
    · refine ja_nil ⟨_, _, rfl, .lst _, _, rfl, fun hk => ?_, fun hk => ?_⟩
      · rw [all_trueI] at hk; cases hk
      refine js_nil ?_
      have turn : ∀ (i : Nat) (d y : D), (qs.map dPt)[i]? = some d → ((qs.map fun _ => true).map D.bl)[i]? = some y → y = .bl true ∧ ∃ q, d = dPt q ∧ q ∈ qs := by
        intro i d y h1 h2
        obtain ⟨q, hq, rfl⟩ := it_map h1
        obtain ⟨z, hz, rfl⟩ := it_map h2
        rw [List.getElem?_map, hq] at hz
        cases hz
        exact ⟨rfl, q, rfl, List.mem_of_getElem? hq⟩
      rcases hx with rfl | rfl
      · refine js_one (js_ret (je_all rfl bn.all (ja_cons (je_lc [("residue", 4), ("value", 5)] rfl sc.nd (blkOk_by rfl) (ji_list (je_var 2 rfl ⟨_, rfl, lc_map ((qs.map fun _ => true).map D.bl) (ix := [4, 5]) (by decide) trivial (by simp) ?_ ?_ ?_⟩))))))
        · rw [List.length_map]; exact sz1000 (by omega)
        · intro i d y h1 h2 B2 s2 H2 C2 cl2 fp2
          obtain ⟨rfl, q, rfl, hq⟩ := turn i d y h1 h2
          have h3 := hin q hq
          refine (jg_tup rfl ⟨_, rfl, rfl, (jgs_cons (jg_name 4 sc.nd (jgs_cons (jg_name 5 sc.nd (jgs_nil fun _ _ _ _ _ _ => (je_eqI (je_callH h_at hr hgd (ja_cons (je_var 0 rfl (ja_cons (je_var 1 rfl (ja_cons (je_var 4 rfl (ja_nil ⟨[], _, permI, p, q.1, cs, rfl, hp, hp2, h3.1.1, h3.1.2, _, perm0, je_var 5 rfl ⟨_, _, rfl, rfl, ?_, rfl⟩⟩))))))))))))))⟩)
          have := (hT.val q hq).eqm
          rw [Int.emod_eq_of_lt h3.2.1 h3.2.2] at this
          rw [this]; simp
        · refine ja_nil ⟨_, _, rfl, .lst _, ?_⟩
          rw [all_true]; exact q
      · refine js_one (js_ret (je_all rfl bn.all (ja_cons (je_lc [("residue", 4), ("value", 5)] rfl sc.nd (blkOk_by rfl) (ji_tup (je_var 2 rfl ⟨_, rfl, lc_map ((qs.map fun _ => true).map D.bl) (ix := [4, 5]) (by decide) trivial (by simp) ?_ ?_ ?_⟩))))))
        · rw [List.length_map]; exact sz1000 (by omega)
        · intro i d y h1 h2 B2 s2 H2 C2 cl2 fp2
          obtain ⟨rfl, q, rfl, hq⟩ := turn i d y h1 h2
          have h3 := hin q hq
          refine (jg_tup rfl ⟨_, rfl, rfl, (jgs_cons (jg_name 4 sc.nd (jgs_cons (jg_name 5 sc.nd (jgs_nil fun _ _ _ _ _ _ => (je_eqI (je_callH h_at hr hgd (ja_cons (je_var 0 rfl (ja_cons (je_var 1 rfl (ja_cons (je_var 4 rfl (ja_nil ⟨[], _, permI, p, q.1, cs, rfl, hp, hp2, h3.1.1, h3.1.2, _, perm0, je_var 5 rfl ⟨_, _, rfl, rfl, ?_, rfl⟩⟩))))))))))))))⟩)
          have := (hT.val q hq).eqm
          rw [Int.emod_eq_of_lt h3.2.1 h3.2.2] at this
          rw [this]; simp
        · refine ja_nil ⟨_, _, rfl, .lst _, ?_⟩
          rw [all_true]; exact q
end J
namespace J
open PySem PySem.Spec PyProof.Rows L2
variable {P : Program} {w : World} {K : PySem.W.Frag} {mg : Str → Option Value} {base : Heap} {k : Nat}
/-! the plain law: points, back, noughts -/
theorem rs_shows {p : Int} (hp : p ≤ 1000003) {cs : List Int} (h : Rs p cs) (hl : cs.length ≤ 4000) : Shows (.its cs) := its_shows (fun a ha => by have := h a ha; omega) (by omega)
theorem Pts.of {p : Int} {qs : List (Int × Int)} {rs : List Int} (hU : Unl p rs) (e : qs.map (·.1) = rs) (h0 : 1 ≤ rs.length) (h1 : rs.length ≤ 200) (hv : ∀ q ∈ qs, 0 ≤ q.2 ∧ q.2 < p) : Pts p qs :=
  ⟨by rw [← List.length_map (f := (·.1)), e]; exact h0, by rw [← List.length_map (f := (·.1)), e]; exact h1, e ▸ hU, hv⟩
theorem Pts.perm {p : Int} {qs zs : List (Int × Int)} (h : Pts p qs) (e : zs.Perm qs) : Pts p zs :=
  ⟨by rw [e.length_eq]; exact h.l0, by rw [e.length_eq]; exact h.l1, ⟨fun a ha => h.u.1 a ((e.map (·.1)).mem_iff.mp ha), (e.map (·.1)).nodup_iff.mpr h.u.2⟩, fun q hq => h.v q (e.mem_iff.mp hq)⟩
theorem Pts.isIn {p : Int} {qs : List (Int × Int)} (h : Pts p qs) : PtsIn p qs := fun q hq => ⟨h.u.1 q.1 (List.mem_map_of_mem (f := (·.1)) hq), h.v q hq⟩
theorem all_of_perm {α : Type} {zs ws xs : List α} (h : (zs ++ ws).Perm xs) (hl : zs.length = xs.length) : zs.Perm xs := by
  have : ws = [] := by
    apply List.eq_nil_of_length_eq_zero
    have := h.length_eq
    rw [List.length_append] at this
    omega
  rw [this, List.append_nil] at h
  exact h
def backOf (p : Int) (as rs : List Int) : List (Int × Int) := rs.map fun r => (r, ev as r % p)
theorem back_fst (p : Int) (as rs : List Int) : (backOf p as rs).map (·.1) = rs := by
  unfold backOf
  rw [List.map_map]
  exact List.map_id rs
theorem back_thr {p : Int} {as rs : List Int} (hp : 1 < p) (ha : Rs p as) (hl : as.length = rs.length) : IsThr p (backOf p as rs) as :=
  ⟨by unfold backOf; rw [List.length_map, hl], ha, fun d hd => by
    obtain ⟨r, _, rfl⟩ := List.mem_map.mp hd
    exact (Cg.mod p _).symm⟩
theorem back_val {p : Int} {as rs : List Int} (hp : 1 < p) : ∀ q ∈ backOf p as rs, 0 ≤ q.2 ∧ q.2 < p := fun q hq => by
  obtain ⟨r, _, rfl⟩ := List.mem_map.mp hq
  exact ⟨Int.emod_nonneg _ (by omega), Int.emod_lt_of_pos _ (by omega)⟩
def wantOf (ns : List Int) (r v : Int) : List (Int × Int) := ns.map (fun n => (n, (0 : Int))) ++ [(r, v)]
theorem want_pts {p r v : Int} {ns : List Int} (hp : 1 < p) (hN : Nts p ns) (hr : 0 ≤ r ∧ r < p ∧ r ∉ ns) (hv : 0 ≤ v ∧ v < p) (hd : ns.Nodup) : Pts p (wantOf ns r v) := by
  have e : (wantOf ns r v).map (·.1) = ns ++ [r] := by
    unfold wantOf
    rw [List.map_append, List.map_map]
    congr 1
    exact List.map_id ns
  have hl := hN.l1
  refine Pts.of (rs := ns ++ [r]) ⟨fun a ha => ?_, ?_⟩ e (by simp) (by simp; omega) fun q hq => ?_
  · rcases List.mem_append.mp ha with ha | ha
    · exact hN.u a ha
    · rw [List.mem_singleton.mp ha]; exact ⟨hr.1, hr.2.1⟩
  · rw [List.nodup_append]
    refine ⟨hd, by simp, fun a ha b hb e => ?_⟩
    rw [List.mem_singleton.mp hb] at e
    exact hr.2.2 (e ▸ ha)
  · rcases List.mem_append.mp hq with hq | hq
    · obtain ⟨n, _, rfl⟩ := List.mem_map.mp hq
      exact ⟨Int.le_refl _, by show (0 : Int) < p; omega⟩
    · rw [List.mem_singleton.mp hq]; exact hv
/-- a part from the second item on -/
theorem cut_mid {r0 : Int} {rest : List Int} (hi : Int) (h1 : 1 ≤ hi) : ∃ n : Nat, cutD (r0 :: rest) (some 1) (some hi) = rest.take n ∧ (n : Int) ≤ hi - 1 := by
  unfold cutD
  have e1 : HT.sIx (r0 :: rest).length 0 (some 1) = 1 := by
    have := HT.sIx_nat (r0 :: rest).length 0 1
    rw [List.length_cons] at this ⊢
    rw [show ((1 : Nat) : Int) = 1 from rfl] at this
    rw [this]; omega
  have e2 : HT.sIx (r0 :: rest).length (r0 :: rest).length (some hi) = min hi.toNat (r0 :: rest).length := by
    have := HT.sIx_nat (r0 :: rest).length (r0 :: rest).length hi.toNat
    rwa [Int.toNat_of_nonneg (by omega)] at this
  rw [e1, e2]
  exact ⟨_, rfl, by omega⟩
theorem asc_strict {ys : List Int} (h : ys.Pairwise (· ≤ ·)) (hd : ys.Nodup) : ys.Pairwise (· < ·) := by
  refine (h.and hd).imp ?_
  rintro a b ⟨h1, h2⟩
  omega
def spRight : DSp := fun ds M Q => ∃ (p : Addr) (cl : Cl), ds = [.ref p] ∧ M = [(p, cl)] ∧ Pot 0 cl ∧ ∀ cl', Q (.bl true) [(p, cl')]
theorem scRight : FnScope ["pot", "prime", "residues", "points", "told", "poly", "back", "noughts", "value", "led", "wanted", "residue", "one", "nought"] ["pot"] (defScope (top 40)) := ⟨rfl, rfl, rfl, by decide +kernel, rfl, by decide +kernel, by decide +kernel⟩
/-- draws told so far: points with these residues -/
def Drawn (p : Addr) (c : Nat) (pr : Int) (rs : List Int) (i : Nat) (acc : List D) (M' : Mem) : Prop := ∃ (cl' : Cl) (qs : List (Int × Int)), M' = [(p, cl')] ∧ Pot (c + 2 * i) cl' ∧ acc = qs.map dPt ∧ qs.map (·.1) = rs.take i ∧ i ≤ rs.length ∧ ∀ q ∈ qs, 0 ≤ q.2 ∧ q.2 < pr
def DrawnR (p : Addr) (c : Nat) (pr : Int) (n : Nat) (i : Nat) (acc : List D) (M' : Mem) : Prop := ∃ (cl' : Cl) (as : List Int), M' = [(p, cl')] ∧ Pot (c + 2 * i) cl' ∧ acc = as.map D.int ∧ as.length = i ∧ i ≤ n ∧ Rs pr as
theorem ok_law_right {f : Addr} {fd : FuncData} (bn : BN mg) (h_prime : Has P w K mg base "_law_prime" k ["pot"] spPrime) (h_unlike : Has P w K mg base "_law_unlike" k ["pot", "prime", "most"] spUnlike) (h_residue : Has P w K mg base "_law_residue" k ["pot", "prime"] spResidue)
    (h_through : Has P w K mg base "poly_through" k ["prime", "points"] spPolyThr) (hk_through : HasK P w K mg base "poly_through" k ["prime", "points"] ["points", "prime"] List.reverse spPolyThr) (h_arethr : Has P w K mg base "_law_are_through" k ["prime", "poly", "points"] spAreThr) (h_some : Has P w K mg base "_law_some" k ["pot", "pool", "many"] spSome)
    (h_at : Has P w K mg base "_law_at" k ["prime", "poly", "residue"] spAt) (h_with : Has P w K mg base "poly_with" k ["prime", "noughts", "residue", "value"] spPolyWith) (F : Fun K "_law_right" "_law_right" (top 40) f fd) : FnG P w K mg base CX0 (k + 1) f fd ["pot"] (lift K spRight) :=
  have sc := scRight
  def_ok F sc (fun ds M Q ⟨_, _, e, _⟩ => by rw [e]; rfl) fun cdv A outer s H E B ds M Q hr hgd h => by
    obtain ⟨p, cl, rfl, rfl, hP, q⟩ := h
    refine js_cons (js_set 1 sc.nd (je_callH h_prime hr hgd (ja_cons (je_var 0 rfl (ja_nil ⟨_, [], .refl _, p, cl, 0, rfl, rfl, hP, by omega, fun pr cl1 hpr hP1 => ⟨_, .refl _, ?_⟩⟩)))))
    obtain ⟨hpp, p3, p4, _⟩ := pr_the pr hpr
    refine js_cons (js_set 2 sc.nd (je_callH h_unlike hr hgd (ja_cons (je_var 0 rfl (ja_cons (je_var 1 rfl (ja_cons (je_int (ja_nil ⟨_, [], .refl _, p, cl1, 1, pr, 24, rfl, rfl, hP1, by omega, p3, p4, by omega, by omega, fun rs cl2 hU l0 l1 hP2 => ⟨_, .refl _, ?_⟩⟩)))))))))
    have hl24 : rs.length ≤ 24 := by omega
    refine js_cons (js_set 3 sc.nd (je_tuple bn.tuple (ja_cons (je_lc [("residue", 11)] rfl sc.nd (blkOk_by rfl) (ji_list (je_var 2 rfl ⟨_, rfl, lc_turns [11] (Drawn p 41 pr rs) (by decide) ?_ (fun _ _ _ _ => trivial) ?_ ?_ ?_ ?_⟩))))))
    · exact ⟨cl2, [], rfl, hP2, rfl, by simp, Nat.zero_le _, fun q hq => by cases hq⟩
    · rw [List.length_map]; exact sz1000 (by omega)
    · rintro i acc M' ⟨cl', qs, _, _, rfl, h1, h2, _⟩
      have := congrArg List.length h1
      rw [List.length_map, List.length_take] at this
      rw [List.length_map]; omega
    · rintro i d acc M' hd ⟨cl', qs, rfl, hP', rfl, h1, h2, h3⟩ B2 s2 H2 C2 cl2' fp2
      obtain ⟨r, hr1, rfl⟩ := it_map hd
      have hil := (List.getElem?_eq_some_iff.mp hr1).1
      refine jg_name 11 sc.nd fun _ _ _ _ _ _ => je_tup <| ja_cons <| je_intI bn.int <| ja_cons <| je_var 11 rfl <| ja_nil ⟨_, rfl, ja_cons <| je_callH h_residue hr hgd <| ja_cons <| je_var 0 rfl <| ja_cons <| je_var 1 rfl <| ja_nil ⟨_, [], .refl _, p, cl', 41 + 2 * i, pr, rfl, rfl, hP', by omega, by omega, by omega, fun v cl3 v0 v1 hP3 => ⟨_, .refl _, ja_nil ⟨szok, cl3, qs ++ [(r, v)], rfl, hP3, ?_, ?_, hil, ?_⟩⟩⟩⟩
      · rw [List.map_append]; rfl
      · rw [List.map_append, h1, take_get hr1]; rfl
      · intro q hq
        rcases List.mem_append.mp hq with hq | hq
        · exact h3 q hq
        · rw [List.mem_singleton.mp hq]; exact ⟨v0, v1⟩
    rintro acc M' ⟨cl3, qs, rfl, hP3, rfl, hq1, _, hqv⟩
    rw [List.length_map] at hP3 hq1
    rw [List.take_length] at hq1
    have hPts : Pts pr qs := Pts.of hU hq1 l0 (by omega) hqv
    have hql : qs.length = rs.length := by rw [← hq1, List.length_map]
    refine ja_nil ⟨_, _, rfl, .lst _, ?_⟩
    refine js_cons (js_set 4 sc.nd (je_callH h_through hr hgd (ja_cons (je_var 1 rfl (ja_cons (je_var 3 rfl (ja_nil ⟨[], _, permI, pr, qs, rfl, hpp, p3, p4, hPts, fun cs hcs => ⟨_, perm0, ?_⟩⟩)))))))
    have hcl := hcs.len
    have hsh := rs_shows p4 hcs.rs (by omega)
    refine js_cons (js_if (jt_not (jt_val (je_callH h_arethr hr hgd (ja_cons (je_var 1 rfl (ja_cons (je_var 4 rfl (ja_cons (je_var 3 rfl (ja_nil ⟨[], _, permI, pr, cs, qs, .pts qs, rfl, .inr rfl, by omega, by omega, hPts.isIn, hcs, by omega, _, perm0, ⟨_, rfl, ⟨fun hk => ?_, fun hk => ?_⟩⟩⟩)))))))))))
    · cases hk
    refine js_nil ?_
    refine js_cons <| js_if <| jt_neS <| je_repr hr hgd bn.repr <| ja_cons <| je_callKH hk_through hr hgd <| jk_cons <| je_tuple bn.tuple <| ja_cons <| je_callH h_some hr hgd <| ja_cons <| je_var 0 rfl <| ja_cons <| je_var 3 rfl <| ja_cons <| je_len bn.len <| ja_cons <| je_var 3 rfl <| ja_nil ⟨_, _, rfl, .tup _, ja_nil ⟨_, [], .refl _, p, cl3, 41 + 2 * rs.length, .pts qs, qs.map dPt, (qs.map dPt).length, rfl, .inr rfl, rfl, hP3, by rw [List.length_map]; omega, Nat.le_refl _, by rw [List.length_map]; omega, fun ys rest cl4 hp hy hP4 => ⟨_, .refl _, ?_⟩⟩⟩
    obtain ⟨zs, ws, rfl, hzp⟩ := perm_map (g := D.toPt) (fun _ => rfl) hp
    rw [List.length_map, List.length_map] at hy
    rw [List.length_map] at hP4
    have hzq := all_of_perm hzp hy
    refine ja_nil ⟨_, _, rfl, .lst _, (jk_cons (je_var 1 rfl (jk_nil ⟨rfl, [], _, permI, pr, zs, rfl, hpp, p3, p4, hPts.perm hzq, fun cs2 hcs2 => ⟨_, perm0, ?_⟩⟩)))⟩
    obtain rfl : cs2 = cs := isThr_eq hpp (hcs2.perm hzq) hcs hPts.u
    refine ja_nil ⟨_, _, rfl, .id _, .inl ⟨_, rfl⟩, hsh.pl, hsh.sh, hsh.dp, hsh.ln, (je_repr hr hgd bn.repr (ja_cons (je_var 4 rfl (ja_nil ⟨_, _, rfl, .id _, .inl ⟨_, rfl⟩, hsh.pl, hsh.sh, hsh.dp, hsh.ln, ⟨_, _, rfl, rfl, ⟨fun hk => ?_, fun hk => ?_⟩⟩⟩))))⟩
    · simp at hk
    refine js_nil ?_
    refine js_cons (js_set 5 sc.nd (je_tuple bn.tuple (ja_cons (je_lc [("residue", 11)] rfl sc.nd (blkOk_by rfl) (ji_list (je_var 2 rfl ⟨_, rfl, lc_turns [11] (DrawnR p 120 pr rs.length) (by decide) ?_ (fun _ _ _ _ => trivial) ?_ ?_ ?_ ?_⟩))))))
    · exact ⟨cl4, [], rfl, hP4.mono (by omega), rfl, rfl, Nat.zero_le _, fun q hq => by cases hq⟩
    · rw [List.length_map]; exact sz1000 (by omega)
    · rintro i acc M' ⟨cl', as, _, _, rfl, h1, h2, _⟩
      rw [List.length_map]; exact h1
    · rintro i d acc M' hd ⟨cl', as, rfl, hP', rfl, h1, h2, h3⟩ B2 s2 H2 C2 cl2' fp2
      obtain ⟨r, hr1, rfl⟩ := it_map hd
      have hil := (List.getElem?_eq_some_iff.mp hr1).1
      refine jg_name 11 sc.nd fun _ _ _ _ _ _ => je_callH h_residue hr hgd <| ja_cons <| je_var 0 rfl <| ja_cons <| je_var 1 rfl <| ja_nil ⟨_, [], .refl _, p, cl', 120 + 2 * i, pr, rfl, rfl, hP', by omega, by omega, by omega, fun v cl3 v0 v1 hP3 => ⟨_, .refl _, cl3, as ++ [v], rfl, hP3, ?_, ?_, hil, ?_⟩⟩
      · rw [List.map_append]; rfl
      · rw [List.length_append, h1]; rfl
      · intro a ha
        rcases List.mem_append.mp ha with ha | ha
        · exact h3 a ha
        · rw [List.mem_singleton.mp ha]; exact ⟨v0, v1⟩
    rintro acc M' ⟨cl5, as, rfl, hP5, rfl, has, _, hrs⟩
    rw [List.length_map] at hP5 has
    refine ja_nil ⟨_, _, rfl, .lst _, ?_⟩
    have hback := back_thr (p := pr) (by omega) hrs has
    have hbP : Pts pr (backOf pr as rs) := Pts.of hU (back_fst pr as rs) l0 (by omega) (back_val (by omega))
    have hsh2 := rs_shows p4 hrs (by omega)
    refine js_cons (js_set 6 sc.nd (je_tuple bn.tuple (ja_cons (je_lc [("residue", 11)] rfl sc.nd (blkOk_by rfl) (ji_list (je_var 2 rfl ⟨_, rfl, lc_map ((backOf pr as rs).map dPt) (ix := [11]) (by decide) trivial (by simp [backOf]) ?_ ?_ ?_⟩))))))
    · rw [List.length_map]; exact sz1000 (by omega)
    · intro i d y h1 h2 B2 s2 H2 C2 cl2' fp2
      obtain ⟨r, hr1, rfl⟩ := it_map h1
      obtain ⟨z, hz, rfl⟩ := it_map h2
      unfold backOf at hz
      rw [List.getElem?_map, hr1] at hz
      cases hz
      have hrr := hU.1 r (List.mem_of_getElem? hr1)
      exact jg_name 11 sc.nd fun _ _ _ _ _ _ => je_tup <| ja_cons <| je_intI bn.int <| ja_cons <| je_var 11 rfl <| ja_nil ⟨_, rfl, ja_cons <| je_callH h_at hr hgd <| ja_cons <| je_var 1 rfl <| ja_cons <| je_var 5 rfl <| ja_cons <| je_var 11 rfl <| ja_nil ⟨[], _, permI, pr, r, as, rfl, by omega, by omega, hrr.1, hrr.2, _, perm0, ja_nil ⟨szok, rfl, rfl⟩⟩⟩
    refine ja_nil ⟨_, _, rfl, .lst _, ?_⟩
    refine js_cons <| js_if <| jt_neS <| je_repr hr hgd bn.repr <| ja_cons <| je_callH h_through hr hgd <| ja_cons <| je_var 1 rfl <| ja_cons <| je_var 6 rfl <| ja_nil ⟨[], _, permI, pr, backOf pr as rs, rfl, hpp, p3, p4, hbP, fun cs3 hcs3 => ⟨_, perm0, ?_⟩⟩
    obtain rfl : cs3 = as := isThr_eq hpp hcs3 hback hbP.u
    refine ja_nil ⟨_, _, rfl, .id _, .inl ⟨_, rfl⟩, hsh2.pl, hsh2.sh, hsh2.dp, hsh2.ln, (je_repr hr hgd bn.repr (ja_cons (je_var 5 rfl (ja_nil ⟨_, _, rfl, .id _, .inl ⟨_, rfl⟩, hsh2.pl, hsh2.sh, hsh2.dp, hsh2.ln, ⟨_, _, rfl, rfl, ⟨fun hk => ?_, fun hk => ?_⟩⟩⟩))))⟩
    · simp at hk
    refine js_nil ?_
    obtain ⟨r0, rest, rfl⟩ : ∃ r0 rest, rs = r0 :: rest := by
      cases rs with
      | nil => simp at l0
      | cons a t => exact ⟨a, t, rfl⟩
    obtain ⟨n, hcut, hn⟩ := cut_mid (r0 := r0) (rest := rest) 21 (by decide)
    have hsub : ∀ x ∈ rest.take n, x ∈ rest := fun x hx => List.mem_of_mem_take hx
    have hU2 := List.nodup_cons.mp hU.2
    refine js_cons <| js_par 7 8 rfl sc.nd <| ja_cons <| je_tuple bn.tuple <| ja_cons <| je_sorted bn.sorted <| ja_cons <| je_lc [("one", 12)] rfl sc.nd (blkOk_by rfl) <| ji_list <| je_slL <| je_var 2 rfl <| je_int ⟨_, rfl, je_int ⟨_, rfl, _, .lst _, (rest.take n).map D.int, ?_, lc_map ((rest.take n).map D.int) (ix := [12]) (by decide) trivial rfl ?_ ?_ ?_⟩⟩
    · rw [cut_map, hcut]
    · rw [List.length_map, List.length_take]; exact sz1000 (by omega)
    · intro i d y h1 h2 B2 s2 H2 C2 cl2' fp2
      obtain ⟨r, hr1, rfl⟩ := it_map h1
      obtain ⟨z, hz, rfl⟩ := it_map h2
      rw [hr1] at hz
      cases hz
      exact jg_name 12 sc.nd fun _ _ _ _ _ _ => je_intI bn.int <| ja_cons <| je_var 12 rfl <| ja_nil ⟨_, rfl, rfl, rfl⟩
    refine ja_nil ⟨_, rest.take n, rfl, .lst _, fun ys hys hso => ja_nil ⟨_, _, rfl, .lst _, ja_cons <| je_callH h_residue hr hgd <| ja_cons <| je_var 0 rfl <| ja_cons <| je_var 1 rfl <| ja_nil ⟨_, [], .refl _, p, cl5, _, pr, rfl, rfl, hP5, ?_, by omega, by omega, fun v cl6 v0 v1 hP6 => ⟨_, .refl _, ja_nil ⟨_, _, rfl, ?_⟩⟩⟩⟩⟩
    · omega
    have hnd : ys.Nodup := hys.nodup_iff.mpr ((List.take_sublist n rest).nodup hU2.2)
    have hN : Nts pr ys := ⟨by rw [hys.length_eq, List.length_take]; omega, fun a ha => hU.1 a (List.mem_cons_of_mem _ (hsub a (hys.mem_iff.mp ha))), asc_strict hso hnd⟩
    have hr0 : 0 ≤ r0 ∧ r0 < pr ∧ r0 ∉ ys := ⟨(hU.1 r0 List.mem_cons_self).1, (hU.1 r0 List.mem_cons_self).2, fun h => hU2.1 (hsub r0 (hys.mem_iff.mp h))⟩
    have hly := hN.l1
    refine js_cons <| js_set 9 sc.nd <| je_callH h_with hr hgd <| ja_cons <| je_var 1 rfl <| ja_cons <| je_var 7 rfl <| ja_cons <| je_intI bn.int <| ja_cons <| je_ix <| je_var 2 rfl <| je_int ⟨_, _, .int r0, .lst _, rfl, atI_nat (j := 0) rfl, ja_nil ⟨_, rfl, ja_cons <| je_var 8 rfl <| ja_nil ⟨[], _, permI, pr, r0, v, ys, rfl, hpp, p3, p4, hN, hr0, ⟨v0, v1⟩, fun led hled => ⟨_, perm0, ?_⟩⟩⟩⟩
    have hW := want_pts (v := v) (by omega) hN hr0 ⟨v0, v1⟩ hnd
    have hlw := hW.l1
    have hsh3 := rs_shows p4 hled.rs (by rw [hled.len]; exact Nat.le_trans hlw (by decide))
    refine js_cons <| js_set 10 sc.nd <| je_catE <| je_lc [("nought", 13)] rfl sc.nd (blkOk_by rfl) <| ji_tup <| je_var 7 rfl ⟨_, rfl, lc_map ((ys.map fun n => (n, (0 : Int))).map dPt) (ix := [13]) (by decide) trivial (by simp) ?_ ?_ <| je_lst <| ja_cons <| je_tup <| ja_cons <| je_intI bn.int <| ja_cons <| je_ix <| je_var 2 rfl <| je_int ⟨_, _, .int r0, .lst _, rfl, atI_nat (j := 0) rfl, ja_nil ⟨_, rfl, ja_cons <| je_var 8 rfl <| ja_nil ⟨szok, ja_nil ⟨szok, _, _, (wantOf ys r0 v).map dPt, .lst _, .lst _, ?_, ?_, ?_⟩⟩⟩⟩⟩
    · rw [List.length_map]; exact sz1000 (by omega)
    · intro i d y h1 h2 B2 s2 H2 C2 cl2' fp2
      obtain ⟨r, hr1, rfl⟩ := it_map h1
      obtain ⟨z, hz, rfl⟩ := it_map h2
      rw [List.getElem?_map, hr1] at hz
      cases hz
      exact jg_name 13 sc.nd fun _ _ _ _ _ _ => je_tup <| ja_cons <| je_var 13 rfl <| ja_cons <| je_int <| ja_nil ⟨szok, rfl, rfl⟩
    · unfold wantOf
      rw [List.map_append]; rfl
    · rw [List.length_map]; exact sz1000 (by omega)
    refine js_one <| js_ret <| je_andP <| je_callH h_arethr hr hgd <| ja_cons <| je_var 1 rfl <| ja_cons <| je_var 9 rfl <| ja_cons <| je_var 10 rfl <| ja_nil ⟨[], _, permI, pr, led, wantOf ys r0 v, .lst ((wantOf ys r0 v).map dPt), rfl, .inl rfl, by omega, by omega, hW.isIn, hled, by omega, _, perm0, _, true, rfl, fun _ => je_and1 <| je_eqS <| je_repr hr hgd bn.repr <| ja_cons <| je_callH h_through hr hgd <| ja_cons <| je_var 1 rfl <| ja_cons <| je_tuple bn.tuple <| ja_cons <| je_var 10 rfl <| ja_nil ⟨_, _, rfl, .lst _, ja_nil ⟨[], _, permI, pr, wantOf ys r0 v, rfl, hpp, p3, p4, hW, fun cs4 hcs4 => ⟨_, perm0, ?_⟩⟩⟩, q cl6⟩
    obtain rfl : cs4 = led := isThr_eq hpp hcs4 hled hW.u
    exact ja_nil ⟨_, _, rfl, .id _, .inl ⟨_, rfl⟩, hsh3.pl, hsh3.sh, hsh3.dp, hsh3.ln, je_repr hr hgd bn.repr <| ja_cons <| je_var 9 rfl <| ja_nil ⟨_, _, rfl, .id _, .inl ⟨_, rfl⟩, hsh3.pl, hsh3.sh, hsh3.dp, hsh3.ln, _, _, rfl, rfl, by simp, rfl⟩⟩
def spLaw (ns : List Int) : Prop := ns.length ≤ 63
def spTheLaw : DSp := fun ds M Q => ∃ ns : List Int, ds = [.scr ns] ∧ M = [] ∧ Q (.bl true) []
theorem scTheLaw : FnScope ["script", "place"] ["script"] (defScope (top 41)) := ⟨rfl, rfl, rfl, by decide +kernel, rfl, by decide +kernel, by decide +kernel⟩
theorem ok_law {f : Addr} {fd : FuncData} (bn : BN mg) (h_right : Has P w K mg base "_law_right" k ["pot"] spRight) (h_pot : Has P w K mg base "_law_pot" k ["script", "place"] spPot) (h_cells : Has P w K mg base "_law_cells" k ["script", "most"] spCells) (F : Fun K "law" "law" (top 41) f fd) : FnG P w K mg base CX0 (k + 1) f fd ["script"] (lift K spTheLaw) :=
  have sc := scTheLaw
  def_ok F sc (fun ds M Q ⟨_, e, _⟩ => by rw [e]; rfl) fun cdv A outer s H E B ds M Q hr hgd h => by
    obtain ⟨ns, rfl, rfl, q⟩ := h
    refine js_one <| js_ret <| je_all rfl bn.all <| ja_cons <| je_lc [("place", 1)] rfl sc.nd (blkOk_by rfl) <| ji_list <| je_callH h_cells hr hgd <| ja_cons <| je_var 0 rfl <| ja_cons <| je_int <| ja_nil ⟨[], _, permI, ns, 3, rfl, by decide, by decide, fun n n0 n1 => ⟨_, perm0, _, rfl, lc_map ((((rgI 0 n)).map fun _ => true).map D.bl) (ix := [1]) (by decide) trivial (by simp) ?_ ?_ ?_⟩⟩
    · rw [List.length_map, rgI_length]; exact sz1000 (by omega)
    · intro i d y h1 h2 B2 s2 H2 C2 cl2' fp2
      obtain ⟨r, hr1, rfl⟩ := it_map h1
      obtain ⟨z, hz, rfl⟩ := it_map h2
      rw [List.getElem?_map, hr1] at hz
      cases hz
      have hrr := rgI_mem (List.mem_of_getElem? hr1)
      exact jg_name 1 sc.nd fun _ _ _ _ _ _ => je_drop <| je_callH h_right hr hgd <| ja_cons <| je_callH h_pot hr hgd <| ja_cons <| je_var 0 rfl <| ja_cons <| je_var 1 rfl <| ja_nil ⟨[], [], .refl _, ns, r.toNat, by rw [Int.toNat_of_nonneg hrr.1], rfl, by omega, fun pp cl hP => ⟨_, .refl _, ja_nil ⟨_, [], .refl _, pp, cl, rfl, rfl, hP, fun cl' => ⟨_, .refl _, [], List.nil_sublist _, rfl, rfl⟩⟩⟩⟩
    · refine ja_nil ⟨_, _, rfl, .lst _, ?_⟩
      rw [all_trueI]; exact q
end J
namespace J
open PySem PySem.Spec PyProof.Rows L2
theorem k_all {P : Program} {w : World} {K : PySem.W.Frag} {h : Heap} {mg : Str → Option Value} {fa : Addr} (X : K.In h) (G : h.Ns mainGlobals mg) (hfa : mg "law" = some (.ref fa)) (bn : BN mg) (c_LEAST_PRIME : CI mg "LEAST_PRIME" 3) (c_GREATEST_PRIME : CI mg "GREATEST_PRIME" 1000003) (c_GREATEST_DIVISOR : CI mg "GREATEST_DIVISOR" 1000) (c_MOST_COEFFICIENTS : CI mg "MOST_COEFFICIENTS" 200) (c_PAIR : CI mg "PAIR" 2) (d_is_integer : DefIn K "is_integer" (top 10)) (d_is_index : DefIn K "is_index" (top 11)) (d_is_prime : DefIn K "is_prime" (top 12)) (d_are_residues : DefIn K "are_residues" (top 13)) (d_check_prime : DefIn K "check_prime" (top 14)) (d_check_residue : DefIn K "check_residue" (top 15)) (d_parted_by : DefIn K "parted_by" (top 16)) (d_worth_at : DefIn K "worth_at" (top 20)) (d_sum_of : DefIn K "sum_of" (top 21)) (d_product_of : DefIn K "product_of" (top 22)) (d_scaled : DefIn K "scaled" (top 23)) (d_with_noughts : DefIn K "with_noughts" (top 24)) (d_through : DefIn K "through" (top 25)) (d_are_points : DefIn K "are_points" (top 26)) (d_poly_through : DefIn K "poly_through" (top 27)) (d_poly_with : DefIn K "poly_with" (top 28)) (d__law_pot : DefIn K "_law_pot" (top 30)) (d__law_take : DefIn K "_law_take" (top 31)) (d__law_of : DefIn K "_law_of" (top 32)) (d__law_some : DefIn K "_law_some" (top 33)) (d__law_cells : DefIn K "_law_cells" (top 34)) (d__law_prime : DefIn K "_law_prime" (top 35)) (d__law_residue : DefIn K "_law_residue" (top 36)) (d__law_at : DefIn K "_law_at" (top 37)) (d__law_unlike : DefIn K "_law_unlike" (top 38)) (d__law_are_through : DefIn K "_law_are_through" (top 39)) (d__law_right : DefIn K "_law_right" (top 40)) (d_law : DefIn K "law" (top 41)) :
    ∃ fd : FuncData, (∀ (s : Shared) (u : Value), BindsTo s fd ⟨[u], []⟩ [(("script" : Str), u)]) ∧ ∀ base : Heap, K.In base → base.Ns mainGlobals mg → FnG P w K mg base CX0 7 fa fd ["script"] (lift K spTheLaw) := by
  refine mkLaw X G hfa d_law (fun base {f} {fd} F => ?_) (fun _ _ _ _ _ _ _ => rfl)
  have h_is_integer : Has P w K mg base "is_integer" 1 ["value"] spIsInteger := mkHas X G d_is_integer (fun F => ok_is_integer (k := 0) bn F) (fun _ _ _ _ _ _ us hl => match us, hl with | [_], _ => rfl)
  have h_is_index : Has P w K mg base "is_index" 2 ["value", "many"] spIsIndex := mkHas X G d_is_index (fun F => ok_is_index (k := 1) (h_is_integer.up (by decide)) F) (fun _ _ _ _ _ _ us hl => match us, hl with | [_, _], _ => rfl)
  have h_is_prime : Has P w K mg base "is_prime" 2 ["value"] spIsPrime := mkHas X G d_is_prime (fun F => ok_is_prime (k := 1) bn c_LEAST_PRIME c_GREATEST_PRIME c_GREATEST_DIVISOR (h_is_integer.up (by decide)) F) (fun _ _ _ _ _ _ us hl => match us, hl with | [_], _ => rfl)
  have h_are_residues : Has P w K mg base "are_residues" 3 ["prime", "value"] spAreRes := mkHas X G d_are_residues (fun F => ok_are_residues (k := 2) bn (h_is_index.up (by decide)) F) (fun _ _ _ _ _ _ us hl => match us, hl with | [_, _], _ => rfl)
  have h_check_prime : Has P w K mg base "check_prime" 3 ["prime"] spCkPrime := mkHas X G d_check_prime (fun F => ok_check_prime (k := 2) (h_is_prime.up (by decide)) F) (fun _ _ _ _ _ _ us hl => match us, hl with | [_], _ => rfl)
  have h_check_residue : Has P w K mg base "check_residue" 3 ["prime", "residue"] spCkRes := mkHas X G d_check_residue (fun F => ok_check_residue (k := 2) (h_is_index.up (by decide)) F) (fun _ _ _ _ _ _ us hl => match us, hl with | [_, _], _ => rfl)
  have h_parted_by : Has P w K mg base "parted_by" 1 ["prime", "residue"] spParted := mkHas X G d_parted_by (fun F => ok_parted_by (k := 0) F) (fun _ _ _ _ _ _ us hl => match us, hl with | [_, _], _ => rfl)
  have h_worth_at : Has P w K mg base "worth_at" 1 ["prime", "poly", "residue"] spWorth := mkHas X G d_worth_at (fun F => ok_worth (k := 0) F) (fun _ _ _ _ _ _ us hl => match us, hl with | [_, _, _], _ => rfl)
  have h_sum_of : Has P w K mg base "sum_of" 1 ["prime", "one", "other"] spSum := mkHas X G d_sum_of (fun F => ok_sum_of (k := 0) bn F) (fun _ _ _ _ _ _ us hl => match us, hl with | [_, _, _], _ => rfl)
  have h_product_of : Has P w K mg base "product_of" 1 ["prime", "one", "other"] spProd := mkHas X G d_product_of (fun F => ok_product_of (k := 0) bn F) (fun _ _ _ _ _ _ us hl => match us, hl with | [_, _, _], _ => rfl)
  have h_scaled : Has P w K mg base "scaled" 1 ["prime", "poly", "residue"] spScaled := mkHas X G d_scaled (fun F => ok_scaled (k := 0) bn F) (fun _ _ _ _ _ _ us hl => match us, hl with | [_, _, _], _ => rfl)
  have h_with_noughts : Has P w K mg base "with_noughts" 2 ["prime", "noughts"] spWithN := mkHas X G d_with_noughts (fun F => ok_with_noughts (k := 1) (h_product_of.up (by decide)) F) (fun _ _ _ _ _ _ us hl => match us, hl with | [_, _], _ => rfl)
  have h_through : Has P w K mg base "through" 2 ["prime", "points"] spThrough := mkHas X G d_through (fun F => ok_through (k := 1) (h_worth_at.up (by decide)) (h_parted_by.up (by decide)) (h_sum_of.up (by decide)) (h_scaled.up (by decide)) (h_product_of.up (by decide)) F) (fun _ _ _ _ _ _ us hl => match us, hl with | [_, _], _ => rfl)
  have h_are_points : Has P w K mg base "are_points" 4 ["prime", "value"] spArePts := mkHas X G d_are_points (fun F => ok_are_points (k := 3) bn c_MOST_COEFFICIENTS c_PAIR (h_are_residues.up (by decide)) F) (fun _ _ _ _ _ _ us hl => match us, hl with | [_, _], _ => rfl)
  have h_poly_through : Has P w K mg base "poly_through" 5 ["prime", "points"] spPolyThr := mkHas X G d_poly_through (fun F => ok_poly_through (k := 4) (h_check_prime.up (by decide)) (h_are_points.up (by decide)) (h_through.up (by decide)) F) (fun _ _ _ _ _ _ us hl => match us, hl with | [_, _], _ => rfl)
  have hk_poly_through : HasK P w K mg base "poly_through" 5 ["prime", "points"] ["points", "prime"] List.reverse spPolyThr := mkHasK X G d_poly_through (fun F => ok_poly_through (k := 4) (h_check_prime.up (by decide)) (h_are_points.up (by decide)) (h_through.up (by decide)) F) (fun _ _ _ _ _ _ us hl => match us, hl with | [_, _], _ => rfl)
  have h_poly_with : Has P w K mg base "poly_with" 4 ["prime", "noughts", "residue", "value"] spPolyWith := mkHas X G d_poly_with (fun F => ok_poly_with (k := 3) bn c_MOST_COEFFICIENTS (h_check_prime.up (by decide)) (h_are_residues.up (by decide)) (h_check_residue.up (by decide)) (h_with_noughts.up (by decide)) (h_worth_at.up (by decide)) (h_parted_by.up (by decide)) (h_scaled.up (by decide)) F) (fun _ _ _ _ _ _ us hl => match us, hl with | [_, _, _, _], _ => rfl)
  have h__law_pot : Has P w K mg base "_law_pot" 1 ["script", "place"] spPot := mkHas X G d__law_pot (fun F => ok_law_pot (k := 0) bn F) (fun _ _ _ _ _ _ us hl => match us, hl with | [_, _], _ => rfl)
  have h__law_take : Has P w K mg base "_law_take" 1 ["pot", "upto"] spTake := mkHas X G d__law_take (fun F => ok_law_take (k := 0) bn F) (fun _ _ _ _ _ _ us hl => match us, hl with | [_, _], _ => rfl)
  have h__law_of : Has P w K mg base "_law_of" 2 ["pot", "some"] spOf := mkHas X G d__law_of (fun F => ok_law_of (k := 1) bn (h__law_take.up (by decide)) F) (fun _ _ _ _ _ _ us hl => match us, hl with | [_, _], _ => rfl)
  have h__law_some : Has P w K mg base "_law_some" 2 ["pot", "pool", "many"] spSome := mkHas X G d__law_some (fun F => ok_law_some (k := 1) bn (h__law_take.up (by decide)) F) (fun _ _ _ _ _ _ us hl => match us, hl with | [_, _, _], _ => rfl)
  have h__law_cells : Has P w K mg base "_law_cells" 1 ["script", "most"] spCells := mkHas X G d__law_cells (fun F => ok_law_cells (k := 0) bn F) (fun _ _ _ _ _ _ us hl => match us, hl with | [_, _], _ => rfl)
  have h__law_prime : Has P w K mg base "_law_prime" 3 ["pot"] spPrime := mkHas X G d__law_prime (fun F => ok_law_prime (k := 2) bn (h__law_of.up (by decide)) F) (fun _ _ _ _ _ _ us hl => match us, hl with | [_], _ => rfl)
  have h__law_residue : Has P w K mg base "_law_residue" 2 ["pot", "prime"] spResidue := mkHas X G d__law_residue (fun F => ok_law_residue (k := 1) bn (h__law_take.up (by decide)) F) (fun _ _ _ _ _ _ us hl => match us, hl with | [_, _], _ => rfl)
  have h__law_at : Has P w K mg base "_law_at" 1 ["prime", "poly", "residue"] spAt := mkHas X G d__law_at (fun F => ok_law_at (k := 0) bn F) (fun _ _ _ _ _ _ us hl => match us, hl with | [_, _, _], _ => rfl)
  have h__law_unlike : Has P w K mg base "_law_unlike" 3 ["pot", "prime", "most"] spUnlike := mkHas X G d__law_unlike (fun F => ok_law_unlike (k := 2) bn (h__law_take.up (by decide)) (h__law_some.up (by decide)) F) (fun _ _ _ _ _ _ us hl => match us, hl with | [_, _, _], _ => rfl)
  have h__law_are_through : Has P w K mg base "_law_are_through" 2 ["prime", "poly", "points"] spAreThr := mkHas X G d__law_are_through (fun F => ok_law_are_through (k := 1) bn (h__law_at.up (by decide)) F) (fun _ _ _ _ _ _ us hl => match us, hl with | [_, _, _], _ => rfl)
  have h__law_right : Has P w K mg base "_law_right" 6 ["pot"] spRight := mkHas X G d__law_right (fun F => ok_law_right (k := 5) bn (h__law_prime.up (by decide)) (h__law_unlike.up (by decide)) (h__law_residue.up (by decide)) (h_poly_through.up (by decide)) (hk_poly_through.up (by decide)) (h__law_are_through.up (by decide)) (h__law_some.up (by decide)) (h__law_at.up (by decide)) (h_poly_with.up (by decide)) F) (fun _ _ _ _ _ _ us hl => match us, hl with | [_], _ => rfl)
  exact ok_law (k := 6) bn (h__law_right.up (by decide)) (h__law_pot.up (by decide)) (h__law_cells.up (by decide)) F
theorem the_walk {l : PySem.W.OpenLaw} {q : Program} {loose : List Str} {XP : (Str → Option Value) → Heap → Prop} {YP : World → Heap → Prop} {d : DefRec} {K : Params → PySem.W.Frag} (hn : l.most = some 63) (hdf : d.params.defaults = [])
    (hY : ∀ (w : World) (h : Heap), YP w h → (K w.params).In h)
    (F : ∀ (w : World) (mg : Str → Option Value) (fa : Addr) (h : Heap), (K w.params).In h → h.Ns mainGlobals mg → mg d.name = some (.ref fa) →
      ∃ fd : FuncData, (∀ (s : Shared) (u : Value), BindsTo s fd ⟨[u], []⟩ [(("script" : Str), u)]) ∧ ∀ base : Heap, (K w.params).In base → base.Ns mainGlobals mg → FnG l.prog w (K w.params) mg base CX0 7 fa fd ["script"] (lift (K w.params) spTheLaw)) :
    PySem.W.WalkO q loose XP YP l.row.toRowW d [] (fun f vs => PySem.call f vs) :=
  walk_law (n := 63) (k := 7) (x := "script") (sp := fun _ => spTheLaw) hn szok hdf ⟨rfl, by decide, by decide⟩ hY F (fun _ ns hl => ⟨ns, rfl, rfl, rfl⟩)
end J
open PySem PySem.W PyProof.Rows in
set_option maxRecDepth 100000 in
set_option maxHeartbeats 0 in
theorem PySem.Challenge.cw_fewthrows_k01_whole_polynomials_through_holds : PySem.Challenge.rw_fewthrows_k01_whole_polynomials_through.Holds := by
  w_on; o_law; k_head; (case hw => w_witness2)
  k_fill
  refine J.the_walk (l := PySem.Challenge.rw_fewthrows_k01_whole_polynomials_through) rfl rfl (fun w h Y => PySem.W.kIn_of Y) ?F
  case F =>
    intro w mg fa h KX G hmg
    have c_LEAST_PRIME : J.CI mg "LEAST_PRIME" 3 := by
      refine' J.ci_mk KX G ?a
      (case a => k_is)
    have c_GREATEST_PRIME : J.CI mg "GREATEST_PRIME" 1000003 := by
      refine' J.ci_mk KX G ?a
      (case a => k_is)
    have c_GREATEST_DIVISOR : J.CI mg "GREATEST_DIVISOR" 1000 := by
      refine' J.ci_mk KX G ?a
      (case a => k_is)
    have c_MOST_COEFFICIENTS : J.CI mg "MOST_COEFFICIENTS" 200 := by
      refine' J.ci_mk KX G ?a
      (case a => k_is)
    have c_PAIR : J.CI mg "PAIR" 2 := by
      refine' J.ci_mk KX G ?a
      (case a => k_is)
    have n_len : mg "len" = none := by
      refine' PySem.W.mg_none_of KX G ?a
      (case a => k_is)
    have n_isi : mg "isinstance" = none := by
      refine' PySem.W.mg_none_of KX G ?a
      (case a => k_is)
    have n_all : mg "all" = none := by
      refine' PySem.W.mg_none_of KX G ?a
      (case a => k_is)
    have n_sum : mg "sum" = none := by
      refine' PySem.W.mg_none_of KX G ?a
      (case a => k_is)
    have n_sorted : mg "sorted" = none := by
      refine' PySem.W.mg_none_of KX G ?a
      (case a => k_is)
    have n_tuple : mg "tuple" = none := by
      refine' PySem.W.mg_none_of KX G ?a
      (case a => k_is)
    have n_list : mg "list" = none := by
      refine' PySem.W.mg_none_of KX G ?a
      (case a => k_is)
    have n_int : mg "int" = none := by
      refine' PySem.W.mg_none_of KX G ?a
      (case a => k_is)
    have n_bool : mg "bool" = none := by
      refine' PySem.W.mg_none_of KX G ?a
      (case a => k_is)
    have n_abs : mg "abs" = none := by
      refine' PySem.W.mg_none_of KX G ?a
      (case a => k_is)
    have n_max : mg "max" = none := by
      refine' PySem.W.mg_none_of KX G ?a
      (case a => k_is)
    have n_min : mg "min" = none := by
      refine' PySem.W.mg_none_of KX G ?a
      (case a => k_is)
    have n_repr : mg "repr" = none := by
      refine' PySem.W.mg_none_of KX G ?a
      (case a => k_is)
    have n_set : mg "set" = none := by
      refine' PySem.W.mg_none_of KX G ?a
      (case a => k_is)
    have n_range : mg "range" = none := by
      refine' PySem.W.mg_none_of KX G ?a
      (case a => k_is)
    have n_zip : mg "zip" = none := by
      refine' PySem.W.mg_none_of KX G ?a
      (case a => k_is)
    have n_enumerate : mg "enumerate" = none := by
      refine' PySem.W.mg_none_of KX G ?a
      (case a => k_is)
    have d_is_integer : J.DefInOf KX "is_integer" (J.top 10) := by
      refine' J.defIn_mk ?a ?l ?c ?k
      (case a => k_is)
      (case l => k_is)
      (case c => k_is)
      (case k => k_is)
    have d_is_index : J.DefInOf KX "is_index" (J.top 11) := by
      refine' J.defIn_mk ?a ?l ?c ?k
      (case a => k_is)
      (case l => k_is)
      (case c => k_is)
      (case k => k_is)
    have d_is_prime : J.DefInOf KX "is_prime" (J.top 12) := by
      refine' J.defIn_mk ?a ?l ?c ?k
      (case a => k_is)
      (case l => k_is)
      (case c => k_is)
      (case k => k_is)
    have d_are_residues : J.DefInOf KX "are_residues" (J.top 13) := by
      refine' J.defIn_mk ?a ?l ?c ?k
      (case a => k_is)
      (case l => k_is)
      (case c => k_is)
      (case k => k_is)
    have d_check_prime : J.DefInOf KX "check_prime" (J.top 14) := by
      refine' J.defIn_mk ?a ?l ?c ?k
      (case a => k_is)
      (case l => k_is)
      (case c => k_is)
      (case k => k_is)
    have d_check_residue : J.DefInOf KX "check_residue" (J.top 15) := by
      refine' J.defIn_mk ?a ?l ?c ?k
      (case a => k_is)
      (case l => k_is)
      (case c => k_is)
      (case k => k_is)
    have d_parted_by : J.DefInOf KX "parted_by" (J.top 16) := by
      refine' J.defIn_mk ?a ?l ?c ?k
      (case a => k_is)
      (case l => k_is)
      (case c => k_is)
      (case k => k_is)
    have d_worth_at : J.DefInOf KX "worth_at" (J.top 20) := by
      refine' J.defIn_mk ?a ?l ?c ?k
      (case a => k_is)
      (case l => k_is)
      (case c => k_is)
      (case k => k_is)
    have d_sum_of : J.DefInOf KX "sum_of" (J.top 21) := by
      refine' J.defIn_mk ?a ?l ?c ?k
      (case a => k_is)
      (case l => k_is)
      (case c => k_is)
      (case k => k_is)
    have d_product_of : J.DefInOf KX "product_of" (J.top 22) := by
      refine' J.defIn_mk ?a ?l ?c ?k
      (case a => k_is)
      (case l => k_is)
      (case c => k_is)
      (case k => k_is)
    have d_scaled : J.DefInOf KX "scaled" (J.top 23) := by
      refine' J.defIn_mk ?a ?l ?c ?k
      (case a => k_is)
      (case l => k_is)
      (case c => k_is)
      (case k => k_is)
    have d_with_noughts : J.DefInOf KX "with_noughts" (J.top 24) := by
      refine' J.defIn_mk ?a ?l ?c ?k
      (case a => k_is)
      (case l => k_is)
      (case c => k_is)
      (case k => k_is)
    have d_through : J.DefInOf KX "through" (J.top 25) := by
      refine' J.defIn_mk ?a ?l ?c ?k
      (case a => k_is)
      (case l => k_is)
      (case c => k_is)
      (case k => k_is)
    have d_are_points : J.DefInOf KX "are_points" (J.top 26) := by
      refine' J.defIn_mk ?a ?l ?c ?k
      (case a => k_is)
      (case l => k_is)
      (case c => k_is)
      (case k => k_is)
    have d_poly_through : J.DefInOf KX "poly_through" (J.top 27) := by
      refine' J.defIn_mk ?a ?l ?c ?k
      (case a => k_is)
      (case l => k_is)
      (case c => k_is)
      (case k => k_is)
    have d_poly_with : J.DefInOf KX "poly_with" (J.top 28) := by
      refine' J.defIn_mk ?a ?l ?c ?k
      (case a => k_is)
      (case l => k_is)
      (case c => k_is)
      (case k => k_is)
    have d__law_pot : J.DefInOf KX "_law_pot" (J.top 30) := by
      refine' J.defIn_mk ?a ?l ?c ?k
      (case a => k_is)
      (case l => k_is)
      (case c => k_is)
      (case k => k_is)
    have d__law_take : J.DefInOf KX "_law_take" (J.top 31) := by
      refine' J.defIn_mk ?a ?l ?c ?k
      (case a => k_is)
      (case l => k_is)
      (case c => k_is)
      (case k => k_is)
    have d__law_of : J.DefInOf KX "_law_of" (J.top 32) := by
      refine' J.defIn_mk ?a ?l ?c ?k
      (case a => k_is)
      (case l => k_is)
      (case c => k_is)
      (case k => k_is)
    have d__law_some : J.DefInOf KX "_law_some" (J.top 33) := by
      refine' J.defIn_mk ?a ?l ?c ?k
      (case a => k_is)
      (case l => k_is)
      (case c => k_is)
      (case k => k_is)
    have d__law_cells : J.DefInOf KX "_law_cells" (J.top 34) := by
      refine' J.defIn_mk ?a ?l ?c ?k
      (case a => k_is)
      (case l => k_is)
      (case c => k_is)
      (case k => k_is)
    have d__law_prime : J.DefInOf KX "_law_prime" (J.top 35) := by
      refine' J.defIn_mk ?a ?l ?c ?k
      (case a => k_is)
      (case l => k_is)
      (case c => k_is)
      (case k => k_is)
    have d__law_residue : J.DefInOf KX "_law_residue" (J.top 36) := by
      refine' J.defIn_mk ?a ?l ?c ?k
      (case a => k_is)
      (case l => k_is)
      (case c => k_is)
      (case k => k_is)
    have d__law_at : J.DefInOf KX "_law_at" (J.top 37) := by
      refine' J.defIn_mk ?a ?l ?c ?k
      (case a => k_is)
      (case l => k_is)
      (case c => k_is)
      (case k => k_is)
    have d__law_unlike : J.DefInOf KX "_law_unlike" (J.top 38) := by
      refine' J.defIn_mk ?a ?l ?c ?k
      (case a => k_is)
      (case l => k_is)
      (case c => k_is)
      (case k => k_is)
    have d__law_are_through : J.DefInOf KX "_law_are_through" (J.top 39) := by
      refine' J.defIn_mk ?a ?l ?c ?k
      (case a => k_is)
      (case l => k_is)
      (case c => k_is)
      (case k => k_is)
    have d__law_right : J.DefInOf KX "_law_right" (J.top 40) := by
      refine' J.defIn_mk ?a ?l ?c ?k
      (case a => k_is)
      (case l => k_is)
      (case c => k_is)
      (case k => k_is)
    have d_law : J.DefInOf KX "law" (J.top 41) := by
      refine' J.defIn_mk ?a ?l ?c ?k
      (case a => k_is)
      (case l => k_is)
      (case c => k_is)
      (case k => k_is)
    exact J.k_all KX G hmg ⟨n_len, n_isi, n_all, n_sum, n_sorted, n_tuple, n_list, n_int, n_bool, n_abs, n_max, n_min, n_repr, n_set, n_range, n_zip, n_enumerate⟩ c_LEAST_PRIME c_GREATEST_PRIME c_GREATEST_DIVISOR c_MOST_COEFFICIENTS c_PAIR d_is_integer d_is_index d_is_prime d_are_residues d_check_prime d_check_residue d_parted_by d_worth_at d_sum_of d_product_of d_scaled d_with_noughts d_through d_are_points d_poly_through d_poly_with d__law_pot d__law_take d__law_of d__law_some d__law_cells d__law_prime d__law_residue d__law_at d__law_unlike d__law_are_through d__law_right d_law
