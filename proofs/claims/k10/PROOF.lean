import PyProof.Rows.All
import Wide.All
import OpenK.AllK
import Wide.FinOn
import HandS.ForMost
import HandS.Wide
import HandS.Flow
import HandS.IsInst
import HandS.WordsExc
import HandS.ExcInit
import HandS.ExcField
import HandS.ExcIs
import HandS.CallSlots
import HandS.TryOnly
import HandS.SortInts
import HandS.TupLe
import HandS.Remove
import HandS.More
import HandS.DictComp
import HandS.SetFor
import HandS.Deep
import KE.KExcIs
import KE.KTryMore
import HandS.MakeKwOnly
import HandS.Zip
import HandS.Strs
import KE.GoesEnum
import HandS.RevRange
import HandS.SortRule
import HandS.Ends
import PyProof.StrLawsRepr
import HandS.Dict
import HandS.Text
import KE.DatumOrd
import PyProof.Rows.CallKwBuiltin
import PyProof.Rows.StrMul
import PySem.Challenge.RW_deadbeat_k10_reach_and_use
set_option Elab.async false
set_option linter.all false
set_option maxRecDepth 100000
/-! E1: data values, owned objects, the relation between the abstract heap and them. -/
namespace EV
open PySem PySem.Spec PyProof.Rows L2

/-- names by numbers (base 256) -/
def nmD : Nat → Nat → List Nat
  | 0, _ => []
  | f + 1, n => if n = 0 then [] else nmD f (n / 256) ++ [n % 256]
def nmE : List Nat → Nat := fun l => l.foldl (fun a d => a * 256 + d) 0
theorem nmE_D : ∀ (f n : Nat), n ≤ f → nmE (nmD f n) = n
  | 0, n, h => by
    have : n = 0 := Nat.le_zero.mp h
    subst this; rfl
  | f + 1, n, h => by
    unfold nmD
    by_cases e : n = 0
    · rw [if_pos e, e]; rfl
    · rw [if_neg e]
      have ih := nmE_D f (n / 256) (by omega)
      unfold nmE at ih ⊢
      rw [List.foldl_append, ih]
      show n / 256 * 256 + n % 256 = n
      omega
/-- the name of a number -/
def nm (i : Nat) : Str := ⟨(nmD i i).toArray⟩
theorem nm_inj {i j : Nat} (h : nm i = nm j) : i = j := by
  have e : nmD i i = nmD j j := by
    have e1 : (nmD i i).toArray = (nmD j j).toArray := congrArg Str.cps h
    simpa using e1
  rw [← nmE_D i i (Nat.le_refl _), ← nmE_D j j (Nat.le_refl _), e]

/-- a value: data, or the address of an owned object -/
inductive D where
  | non | bl (b : Bool) | int (i : Int) | str (x : Str) | ty (n : String) | tup (ds : List D) | lst (ds : List D) | dK (kvs : List (Key × D)) | dT (kvs : List (List Key × D)) | exn (a dx C : Addr) (f : Nat) (w : D) | ref (a : Addr)

mutual
inductive Rp (K : PySem.W.Frag) (H : Hp) : V → D → Prop
  | non : Rp K H .non .non
  | bl (b : Bool) : Rp K H (.bl b) (.bl b)
  | int (i : Int) : Rp K H (.int i) (.int i)
  | str (x : Str) : Rp K H (.str x) (.str x)
  | ty (n : String) : Rp K H (.ty n) (.ty n)
  | tup {a : Addr} {xs : List V} {ds : List D} : SqT K H a xs → RpA K H xs ds → Rp K H (.ref a) (.tup ds)
  | lst {a : Addr} {xs : List V} {ds : List D} : SqL K H a xs → RpA K H xs ds → Rp K H (.ref a) (.lst ds)
  | dK {a : Addr} {xs : List (Key × V)} {ds : List (Key × D)} : (∃ o, H a = some (.frz o (.dK xs))) → RpK K H xs ds → Rp K H (.ref a) (.dK ds)
  | dT {a : Addr} {xs : List (List Key × V)} {ds : List (List Key × D)} : (∃ o, H a = some (.frz o (.dT xs))) → RpT K H xs ds → Rp K H (.ref a) (.dT ds)
  | exn {a dx C : Addr} {f : Nat} {v : V} {w : D} : H dx = some (.xd [(nm f, v)]) → Rp K H v w → Rp K H (.ref a) (.exn a dx C f w)
  | ref (a : Addr) : Rp K H (.ref a) (.ref a)
inductive RpA (K : PySem.W.Frag) (H : Hp) : List V → List D → Prop
  | nil : RpA K H [] []
  | cons {v : V} {vs : List V} {d : D} {ds : List D} : Rp K H v d → RpA K H vs ds → RpA K H (v :: vs) (d :: ds)
inductive RpK (K : PySem.W.Frag) (H : Hp) : List (Key × V) → List (Key × D) → Prop
  | nil : RpK K H [] []
  | cons {k : Key} {v : V} {vs : List (Key × V)} {d : D} {ds : List (Key × D)} : Rp K H v d → RpK K H vs ds → RpK K H ((k, v) :: vs) ((k, d) :: ds)
inductive RpT (K : PySem.W.Frag) (H : Hp) : List (List Key × V) → List (List Key × D) → Prop
  | nil : RpT K H [] []
  | cons {k : List Key} {v : V} {vs : List (List Key × V)} {d : D} {ds : List (List Key × D)} : Rp K H v d → RpT K H vs ds → RpT K H ((k, v) :: vs) ((k, d) :: ds)
end
theorem same_sqT {K : PySem.W.Frag} {H H' : Hp} {a : Addr} {xs : List V} (e : Same H H') (h : SqT K H a xs) : SqT K H' a xs := by
  rcases h with (h | ⟨o, h⟩) | h
  · exact .inl (.inl (e _ _ h))
  · exact .inl (.inr ⟨o, e _ _ h⟩)
  · exact .inr h
mutual
theorem Rp.mono {K : PySem.W.Frag} {H H' : Hp} (e : Same H H') : ∀ {v : V} {d : D}, Rp K H v d → Rp K H' v d
  | _, _, .non => .non
  | _, _, .bl b => .bl b
  | _, _, .int i => .int i
  | _, _, .str x => .str x
  | _, _, .ty x => .ty x
  | _, _, .tup h r => .tup (same_sqT e h) (RpA.mono e r)
  | _, _, .lst h r => .lst (e.seq h) (RpA.mono e r)
  | _, _, .dK h r => .dK (let ⟨o, h⟩ := h; ⟨o, e _ _ h⟩) (RpK.mono e r)
  | _, _, .dT h r => .dT (let ⟨o, h⟩ := h; ⟨o, e _ _ h⟩) (RpT.mono e r)
  | _, _, .exn h r => .exn (e _ _ h) (Rp.mono e r)
  | _, _, .ref a => .ref a
theorem RpA.mono {K : PySem.W.Frag} {H H' : Hp} (e : Same H H') : ∀ {vs : List V} {ds : List D}, RpA K H vs ds → RpA K H' vs ds
  | _, _, .nil => .nil
  | _, _, .cons h r => .cons (Rp.mono e h) (RpA.mono e r)
theorem RpK.mono {K : PySem.W.Frag} {H H' : Hp} (e : Same H H') : ∀ {vs : List (Key × V)} {ds : List (Key × D)}, RpK K H vs ds → RpK K H' vs ds
  | _, _, .nil => .nil
  | _, _, .cons h r => .cons (Rp.mono e h) (RpK.mono e r)
theorem RpT.mono {K : PySem.W.Frag} {H H' : Hp} (e : Same H H') : ∀ {vs : List (List Key × V)} {ds : List (List Key × D)}, RpT K H vs ds → RpT K H' vs ds
  | _, _, .nil => .nil
  | _, _, .cons h r => .cons (Rp.mono e h) (RpT.mono e r)
end
theorem RpA.length {K : PySem.W.Frag} {H : Hp} : ∀ {vs : List V} {ds : List D}, RpA K H vs ds → vs.length = ds.length
  | _, _, .nil => rfl
  | _, _, .cons _ r => congrArg (· + 1) (RpA.length r)
theorem RpA.get {K : PySem.W.Frag} {H : Hp} : ∀ {vs : List V} {ds : List D} {i : Nat} {d : D}, RpA K H vs ds → ds[i]? = some d → ∃ v, vs[i]? = some v ∧ Rp K H v d
  | _, _, _, _, .nil, e => by simp at e
  | _, _, 0, _, .cons h r, e => by simp at e; subst e; exact ⟨_, rfl, h⟩
  | _, _, i + 1, d, .cons h r, e => by
    obtain ⟨v, e1, r1⟩ := RpA.get (i := i) (d := d) r (by simpa using e)
    exact ⟨v, by simpa using e1, r1⟩
theorem RpA.getV {K : PySem.W.Frag} {H : Hp} : ∀ {vs : List V} {ds : List D} {i : Nat} {v : V}, RpA K H vs ds → vs[i]? = some v → ∃ d, ds[i]? = some d ∧ Rp K H v d
  | _, _, _, _, .nil, e => by simp at e
  | _, _, 0, _, .cons h r, e => by simp at e; subst e; exact ⟨_, rfl, h⟩
  | _, _, i + 1, d, .cons h r, e => by
    obtain ⟨v, e1, r1⟩ := RpA.getV (i := i) (v := d) r (by simpa using e)
    exact ⟨v, by simpa using e1, r1⟩
theorem RpA.append {K : PySem.W.Frag} {H : Hp} : ∀ {vs us : List V} {ds es : List D}, RpA K H vs ds → RpA K H us es → RpA K H (vs ++ us) (ds ++ es)
  | _, _, _, _, .nil, s => s
  | _, _, _, _, .cons h r, s => .cons h (RpA.append r s)
theorem RpA.take {K : PySem.W.Frag} {H : Hp} : ∀ {vs : List V} {ds : List D} (n : Nat), RpA K H vs ds → RpA K H (vs.take n) (ds.take n)
  | _, _, 0, _ => .nil
  | _, _, _ + 1, .nil => .nil
  | _, _, n + 1, .cons h r => .cons h (RpA.take n r)
theorem RpA.drop {K : PySem.W.Frag} {H : Hp} : ∀ {vs : List V} {ds : List D} (n : Nat), RpA K H vs ds → RpA K H (vs.drop n) (ds.drop n)
  | _, _, 0, r => r
  | _, _, _ + 1, .nil => .nil
  | _, _, n + 1, .cons _ r => RpA.drop n r
theorem RpA.reverse {K : PySem.W.Frag} {H : Hp} {vs : List V} {ds : List D} (h : RpA K H vs ds) : RpA K H vs.reverse ds.reverse := by
  induction vs generalizing ds with
  | nil => cases h; exact .nil
  | cons v vs ih =>
    cases h with
    | cons h r => rw [List.reverse_cons, List.reverse_cons]; exact (ih r).append (.cons h .nil)

theorem RpA.set {K : PySem.W.Frag} {H : Hp} {v : V} {w : D} (q : Rp K H v w) : ∀ {vs : List V} {ds : List D} (n : Nat), RpA K H vs ds → RpA K H (vs.set n v) (ds.set n w)
  | _, _, _, .nil => .nil
  | _, _, 0, .cons _ r => .cons q r
  | _, _, n + 1, .cons h r => .cons h (RpA.set q n r)
theorem RpA.eraseIdx {K : PySem.W.Frag} {H : Hp} : ∀ {vs : List V} {ds : List D} (n : Nat), RpA K H vs ds → RpA K H (vs.eraseIdx n) (ds.eraseIdx n)
  | _, _, _, .nil => .nil
  | _, _, 0, .cons _ r => r
  | _, _, n + 1, .cons h r => .cons h (RpA.eraseIdx n r)
theorem RpA.insertIdx {K : PySem.W.Frag} {H : Hp} {v : V} {w : D} (q : Rp K H v w) : ∀ {vs : List V} {ds : List D} (n : Nat), RpA K H vs ds → RpA K H (vs.insertIdx n v) (ds.insertIdx n w)
  | _, _, 0, .nil => .cons q .nil
  | _, _, _ + 1, .nil => .nil
  | _, _, 0, .cons h r => .cons q (.cons h r)
  | _, _, n + 1, .cons h r => .cons h (RpA.insertIdx q n r)
theorem RpA.one {K : PySem.W.Frag} {H : Hp} {vs : List V} {w : D} (h : RpA K H vs [w]) : ∃ v, vs = [v] ∧ Rp K H v w := by
  cases h with
  | cons a t => cases t; exact ⟨_, rfl, a⟩
theorem RpA.two {K : PySem.W.Frag} {H : Hp} {vs : List V} {w w2 : D} (h : RpA K H vs [w, w2]) : ∃ v v2, vs = [v, v2] ∧ Rp K H v w ∧ Rp K H v2 w2 := by
  cases h with
  | cons a t =>
    obtain ⟨v2, rfl, r2⟩ := RpA.one t
    exact ⟨_, v2, rfl, a, r2⟩
theorem Rp.toRef {K : PySem.W.Frag} {H : Hp} {v : V} {a : Addr} (h : Rp K H v (.ref a)) : v = .ref a := by cases h; rfl
/-- fields -/
abbrev RF (K : PySem.W.Frag) (V0 : Hp) : List (Str × V) → List (Nat × D) → Prop := Paired fun (p : Str × V) (q : Nat × D) => p.1 = nm q.1 ∧ Rp K V0 p.2 q.2

/-- what an owned object holds -/
inductive OO where
  | lst (ws : List D)
  | ins (C : Addr) (fs : List (Nat × D))
  | dK (kvs : List (Key × D))
  | dT (kvs : List (List Key × D))
def RO (K : PySem.W.Frag) (V0 : Hp) (ho : HO) : OO → Prop
  | .lst ws => ∃ vs, ho = .lst vs ∧ RpA K V0 vs ws
  | .ins C fs => ∃ dx vf, ho = .ins C dx vf ∧ RF K V0 vf fs
  | .dK kvs => ∃ vs, ho = .dK vs ∧ RpK K V0 vs kvs
  | .dT kvs => ∃ vs, ho = .dT vs ∧ RpT K V0 vs kvs
theorem RO.mono {K : PySem.W.Frag} {H H' : Hp} (e : Same H H') {ho : HO} : ∀ {oo : OO}, RO K H ho oo → RO K H' ho oo
  | .lst _, ⟨vs, h, r⟩ => ⟨vs, h, r.mono e⟩
  | .ins _ _, ⟨dx, vf, h, r⟩ => ⟨dx, vf, h, Paired.mapP r fun _ _ z => ⟨z.1, z.2.mono e⟩⟩
  | .dK _, ⟨vs, h, r⟩ => ⟨vs, h, r.mono e⟩
  | .dT _, ⟨vs, h, r⟩ => ⟨vs, h, r.mono e⟩
abbrev Os := List (Addr × OO)

/-- H holds, apart from one another: the frame F, the data V0, the owned objects os -/
structure Rel (K : PySem.W.Frag) (F V0 : Hp) (os : Os) (H : Hp) : Prop where
  fr : Same F H
  vi : Same V0 H
  fv : ∀ a o, F a = some o → V0 a = none
  own : ∀ p ∈ os, F p.1 = none ∧ V0 p.1 = none ∧ ∃ ho, H p.1 = some ho ∧ RO K V0 ho p.2
  nd : (os.map (·.1)).Nodup
section
variable {K : PySem.W.Frag} {F V0 H : Hp} {os : Os} {p : Addr}
theorem none_of {H1 H2 : Hp} (e : Same H1 H2) {a : Addr} (h : H2 a = none) : H1 a = none := e.free h
theorem Rel.freshO (r : Rel K F V0 os H) (h : H p = none) : p ∉ os.map (·.1) := fun hm => by
  obtain ⟨q, hq, e⟩ := List.mem_map.mp hm
  obtain ⟨_, _, ho, eh, _⟩ := r.own q hq
  have e' : q.1 = p := e
  rw [e', h] at eh
  cases eh
theorem same_upd {H : Hp} {p : Addr} {o : HO} (h : H p = none) : Same H (upd H p o) := fun a u e => by
  rw [upd_ne (ne_of_none e h)]; exact e
/-- a new thing that never changes -/
theorem Rel.addV (r : Rel K F V0 os H) (h : H p = none) (o : HO) : Rel K F (upd V0 p o) os (upd H p o) := by
  have vp := r.vi.free h
  have fp := r.fr.free h
  have sv : Same V0 (upd V0 p o) := same_upd vp
  refine ⟨fun a u e => ?_, fun a u e => ?_, fun a u e => ?_, fun q hq => ?_, r.nd⟩
  · rw [upd_ne (ne_of_none e fp)]; exact r.fr a u e
  · by_cases ha : a = p
    · subst ha; rw [upd_same] at e ⊢; exact e
    · rw [upd_ne ha] at e ⊢; exact r.vi a u e
  · rw [upd_ne (ne_of_none e fp)]; exact r.fv a u e
  · obtain ⟨h1, h2, ho, h3, h4⟩ := r.own q hq
    have ne : q.1 ≠ p := ne_of_none h3 h
    exact ⟨h1, by rw [upd_ne ne]; exact h2, ho, by rw [upd_ne ne]; exact h3, h4.mono sv⟩
/-- a new owned thing -/
theorem Rel.addO (r : Rel K F V0 os H) (h : H p = none) {ho : HO} {oo : OO} (ro : RO K V0 ho oo) : Rel K F V0 ((p, oo) :: os) (upd H p ho) := by
  have sh : Same H (upd H p ho) := same_upd h
  refine ⟨r.fr.trans sh, r.vi.trans sh, r.fv, fun q hq => ?_, ?_⟩
  · rcases List.mem_cons.mp hq with e | hq
    · subst e; exact ⟨r.fr.free h, r.vi.free h, ho, upd_same, ro⟩
    · obtain ⟨h1, h2, ho', h3, h4⟩ := r.own q hq
      exact ⟨h1, h2, ho', sh _ _ h3, h4⟩
  · rw [List.map_cons, List.nodup_cons]; exact ⟨r.freshO h, r.nd⟩
theorem nd_fst {os : Os} (nd : (os.map (·.1)).Nodup) {i : Nat} {a : Addr} {oo : OO} (h : os[i]? = some (a, oo)) : ∀ p ∈ os, p.1 = a → p = (a, oo) := fun p hp e => by
  obtain ⟨j, hj⟩ := List.getElem?_of_mem hp
  have e1 : (os.map (·.1))[i]? = some a := by rw [List.getElem?_map, h]; rfl
  have e2 : (os.map (·.1))[j]? = some a := by rw [List.getElem?_map, hj]; exact congrArg some e
  have ij := nd_ix nd e1 e2
  subst ij
  rw [h] at hj
  exact (Option.some.inj hj).symm
/-- an owned thing changes -/
theorem Rel.mut (r : Rel K F V0 os H) {i : Nat} {a : Addr} {oo oo' : OO} (h : os[i]? = some (a, oo)) {ho : HO} (ro : RO K V0 ho oo') : Rel K F V0 (os.set i (a, oo')) (upd H a ho) := by
  obtain ⟨h1, h2, _, h3, _⟩ := r.own _ (List.mem_of_getElem? h)
  have hi : i < os.length := (List.getElem?_eq_some_iff.mp h).1
  have em : (os.set i (a, oo')).map (·.1) = os.map (·.1) := by
    rw [List.map_set]
    refine List.ext_getElem? fun j => ?_
    by_cases hj : i = j
    · subst hj
      rw [List.getElem?_set_self (by simpa using hi), List.getElem?_map, h]; rfl
    · rw [List.getElem?_set_ne hj]
  refine ⟨fun b u e => ?_, fun b u e => ?_, r.fv, fun q hq => ?_, by rw [em]; exact r.nd⟩
  · rw [upd_ne (ne_of_none e h1)]; exact r.fr b u e
  · rw [upd_ne (ne_of_none e h2)]; exact r.vi b u e
  · obtain ⟨j, hj⟩ := List.getElem?_of_mem hq
    by_cases hij : i = j
    · subst hij
      rw [List.getElem?_set_self hi] at hj
      have e := Option.some.inj hj
      subst e
      exact ⟨h1, h2, ho, upd_same, ro⟩
    · rw [List.getElem?_set_ne hij] at hj
      obtain ⟨k1, k2, ho', k3, k4⟩ := r.own q (List.mem_of_getElem? hj)
      have ne : q.1 ≠ a := fun e => by
        have e1 : (os.map (·.1))[i]? = some a := by rw [List.getElem?_map, h]; rfl
        have e2 : (os.map (·.1))[j]? = some a := by rw [List.getElem?_map, hj]; exact congrArg some e
        exact hij (nd_ix r.nd e1 e2)
      exact ⟨k1, k2, ho', by rw [upd_ne ne]; exact k3, k4⟩
theorem Rel.perm (r : Rel K F V0 os H) {os' : Os} (h : os.Perm os') : Rel K F V0 os' H :=
  ⟨r.fr, r.vi, r.fv, fun q hq => r.own q (h.mem_iff.mpr hq), (h.map _).nodup_iff.mp r.nd⟩
/-- fewer owned things are told -/
theorem Rel.drop (r : Rel K F V0 os H) {os' : Os} (h : os'.Sublist os) : Rel K F V0 os' H :=
  ⟨r.fr, r.vi, r.fv, fun q hq => r.own q (h.subset hq), r.nd.sublist (h.map _)⟩
/-- an owned list becomes data -/
theorem Rel.freeze (r : Rel K F V0 os H) {i : Nat} {a : Addr} {ds : List D} (h : os[i]? = some (a, .lst ds)) :
    ∃ V1, Same V0 V1 ∧ Rel K F V1 (os.eraseIdx i) H ∧ Rp K V1 (.ref a) (.lst ds) := by
  obtain ⟨h1, h2, ho, h3, vs, rfl, h4⟩ := r.own _ (List.mem_of_getElem? h)
  have sv : Same V0 (upd V0 a (.lst vs)) := same_upd h2
  refine ⟨upd V0 a (.lst vs), sv, ⟨r.fr, fun b u e => ?_, fun b u e => ?_, fun q hq => ?_, r.nd.sublist ((List.eraseIdx_sublist _ _).map _)⟩, .lst (.inl (.inl upd_same)) (RpA.mono sv h4)⟩
  · by_cases hb : b = a
    · subst hb; rw [upd_same] at e; cases e; exact h3
    · rw [upd_ne hb] at e; exact r.vi b u e
  · rw [upd_ne (ne_of_none e h1)]; exact r.fv b u e
  · obtain ⟨j, hj⟩ := List.getElem?_of_mem hq
    obtain ⟨k1, k2, ho', k3, k4⟩ := r.own q ((List.eraseIdx_sublist _ _).subset hq)
    have ne : q.1 ≠ a := fun e => by
      have e1 : (os.map (·.1))[i]? = some a := by rw [List.getElem?_map, h]; rfl
      rw [List.getElem?_eraseIdx] at hj
      split at hj
      · have e2 : (os.map (·.1))[j]? = some a := by rw [List.getElem?_map, hj]; exact congrArg some e
        have := nd_ix r.nd e1 e2
        omega
      · have e2 : (os.map (·.1))[j + 1]? = some a := by rw [List.getElem?_map, hj]; exact congrArg some e
        have := nd_ix r.nd e1 e2
        omega
    exact ⟨k1, by rw [upd_ne ne]; exact k2, ho', k3, k4.mono sv⟩
end

/-- a part of the owned things goes to the frame, and comes back -/
theorem Rel.frame {K : PySem.W.Frag} {F V0 H : Hp} {of or : Os} (r : Rel K F V0 (of ++ or) H) :
    ∃ F2 : Hp, Rel K F2 V0 of H ∧ ∀ (V1 : Hp) (os1 : Os) (H1 : Hp), Same V0 V1 → Rel K F2 V1 os1 H1 → Rel K F V1 (os1 ++ or) H1 := by
  have nd := r.nd
  rw [List.map_append, List.nodup_append] at nd
  obtain ⟨nd1, nd2, nd3⟩ := nd
  refine ⟨fun a => if a ∈ or.map (·.1) then H a else F a, ⟨fun a o e => ?_, r.vi, fun a o e => ?_, fun q hq => ?_, nd1⟩, fun V1 os1 H1 sv r1 => ?_⟩
  · (try dsimp only at e)
    split at e
    · exact e
    · exact r.fr a o e
  · (try dsimp only at e)
    split at e
    · rename_i hm
      obtain ⟨q, hq, rfl⟩ := List.mem_map.mp hm
      exact (r.own q (List.mem_append_right _ hq)).2.1
    · exact r.fv a o e
  · obtain ⟨h1, h2, h3⟩ := r.own q (List.mem_append_left _ hq)
    refine ⟨?_, h2, h3⟩
    (try dsimp only)
    rw [if_neg fun hm => nd3 q.1 (List.mem_map.mpr ⟨q, hq, rfl⟩) q.1 hm rfl]
    exact h1
  · have inF : ∀ q ∈ or, ∃ ho, H q.1 = some ho ∧ RO K V0 ho q.2 ∧ H1 q.1 = some ho ∧ V1 q.1 = none ∧ F q.1 = none := fun q hq => by
      obtain ⟨k1, k2, ho, k3, k4⟩ := r.own q (List.mem_append_right _ hq)
      have e : (if q.1 ∈ or.map (·.1) then H q.1 else F q.1) = some ho := by rw [if_pos (List.mem_map.mpr ⟨q, hq, rfl⟩)]; exact k3
      exact ⟨ho, k3, k4, r1.fr q.1 ho e, r1.fv q.1 ho e, k1⟩
    refine ⟨fun a o e => ?_, r1.vi, fun a o e => ?_, fun q hq => ?_, ?_⟩
    · by_cases hm : a ∈ or.map (·.1)
      · obtain ⟨q, hq, rfl⟩ := List.mem_map.mp hm
        obtain ⟨_, _, _, _, _, kf⟩ := inF q hq
        rw [kf] at e; cases e
      · exact r1.fr a o (by (try dsimp only); rw [if_neg hm]; exact e)
    · by_cases hm : a ∈ or.map (·.1)
      · obtain ⟨q, hq, rfl⟩ := List.mem_map.mp hm
        obtain ⟨_, _, _, _, kv, _⟩ := inF q hq
        exact kv
      · exact r1.fv a o (by (try dsimp only); rw [if_neg hm]; exact e)
    · rcases List.mem_append.mp hq with hq | hq
      · obtain ⟨k1, k2, k3⟩ := r1.own q hq
        refine ⟨?_, k2, k3⟩
        (try dsimp only at k1)
        split at k1
        · rename_i hm
          obtain ⟨q', hq', e⟩ := List.mem_map.mp hm
          obtain ⟨ho, e1, _⟩ := inF q' hq'
          rw [e, k1] at e1; cases e1
        · exact k1
      · obtain ⟨ho, k3, k4, k5, k6, k7⟩ := inF q hq
        exact ⟨k7, k6, ho, k5, k4.mono sv⟩
    · rw [List.map_append, List.nodup_append]
      refine ⟨r1.nd, nd2, fun a ha b hb e => ?_⟩
      subst e
      obtain ⟨q, hq, rfl⟩ := List.mem_map.mp ha
      obtain ⟨k1, _⟩ := r1.own q hq
      obtain ⟨q', hq', e⟩ := List.mem_map.mp hb
      obtain ⟨ho, e1, _⟩ := inF q' hq'
      (try dsimp only at k1)
      rw [if_pos hb] at k1
      rw [e, k1] at e1; cases e1
/-- the frame's slots -/
abbrev DEnv := List (Option D)
def SR (K : PySem.W.Frag) (V0 : Hp) (σ : L2.St) (env : DEnv) : Prop := σ.length = env.length ∧ ∀ (i : Nat) (w : D), env[i]? = some (some w) → ∃ v : V, σ[i]? = some (some v) ∧ Rp K V0 v w
theorem SR.mono {K : PySem.W.Frag} {V0 V1 : Hp} (e : Same V0 V1) {σ : L2.St} {env : DEnv} (h : SR K V0 σ env) : SR K V1 σ env :=
  ⟨h.1, fun i w q => let ⟨v, a, b⟩ := h.2 i w q; ⟨v, a, b.mono e⟩⟩
theorem SR.set {K : PySem.W.Frag} {V0 : Hp} {σ : L2.St} {env : DEnv} (h : SR K V0 σ env) {v : V} {w : D} (r : Rp K V0 v w) (i : Nat) : SR K V0 (σ.set i (some v)) (env.set i (some w)) := by
  refine ⟨by rw [List.length_set, List.length_set]; exact h.1, fun j u q => ?_⟩
  by_cases e : i = j
  · subst e
    have hi : i < env.length := by
      have := (List.getElem?_eq_some_iff.mp q).1
      rw [List.length_set] at this; exact this
    rw [List.getElem?_set_self hi] at q
    cases q
    exact ⟨v, by rw [List.getElem?_set_self (by rw [h.1]; exact hi)], r⟩
  · rw [List.getElem?_set_ne e] at q ⊢
    exact h.2 j u q

/-! ### canonical readings -/
@[irreducible] def wE (X : Cx) (e : Expr) : TE := fun σ H Q => ∀ (pins : List (Addr × Obj)) (s : Shared), Inv X pins σ H s → wpAny (model X.prog X.w) X.A (eval e X.env) (EP X pins σ Q) X.xe s
theorem wE_mk {X : Cx} {e : Expr} {σ : L2.St} {H : Hp} {Q : VK} (h : ∀ (pins : List (Addr × Obj)) (s : Shared), Inv X pins σ H s → wpAny (model X.prog X.w) X.A (eval e X.env) (EP X pins σ Q) X.xe s) : wE X e σ H Q := by unfold wE; exact h
theorem wE_run {X : Cx} {e : Expr} {σ : L2.St} {H : Hp} {Q : VK} (h : wE X e σ H Q) : ∀ (pins : List (Addr × Obj)) (s : Shared), Inv X pins σ H s → wpAny (model X.prog X.w) X.A (eval e X.env) (EP X pins σ Q) X.xe s := by unfold wE at h; exact h
theorem wE_pe {X : Cx} {e : Expr} : PE X e (wE X e) := by unfold wE; exact ⟨fun pins s _ _ _ I h => h pins s I⟩
theorem wE_of {X : Cx} {e : Expr} {t : TE} (h : PE X e t) {σ : L2.St} {H : Hp} {Q : VK} (q : t σ H Q) : wE X e σ H Q := by unfold wE; exact fun pins s I => h.run pins s σ H Q I q
@[irreducible] def wTt (X : Cx) (e : Expr) : TT := fun σ H Q => ∀ (pins : List (Addr × Obj)) (s : Shared), Inv X pins σ H s → wpAny (model X.prog X.w) X.A (isTrue e X.env (eval e X.env)) (TP X pins σ Q) X.xe s
theorem wTt_pt {X : Cx} {e : Expr} : PT X e (wTt X e) := by unfold wTt; exact ⟨fun pins s _ _ _ I h => h pins s I⟩
theorem wTt_of {X : Cx} {e : Expr} {t : TT} (h : PT X e t) {σ : L2.St} {H : Hp} {Q : Bool → Hp → Prop} (q : t σ H Q) : wTt X e σ H Q := by unfold wTt; exact fun pins s I => h.run pins s σ H Q I q
@[irreducible] def wPW (X : Cx) (e : Expr) : TT := fun σ H Q => ∀ (whole : Sem Value) (pins : List (Addr × Obj)) (s : Shared), Inv X pins σ H s → wpAny (model X.prog X.w) X.A (isTrue e X.env whole) (TP X pins σ Q) X.xe s
theorem wPW_pw {X : Cx} {e : Expr} : PW X e (wPW X e) := by unfold wPW; exact ⟨fun wh pins s _ _ _ I h => h wh pins s I⟩
theorem wPW_of {X : Cx} {e : Expr} {t : TT} (h : PW X e t) {σ : L2.St} {H : Hp} {Q : Bool → Hp → Prop} (q : t σ H Q) : wPW X e σ H Q := by unfold wPW; exact fun wh pins s I => h.run wh pins s σ H Q I q
@[irreducible] def wA (X : Cx) (es : List Expr) : TA := fun σ H Q => ∀ (pos : Pos) (pins : List (Addr × Obj)) (s : Shared), Inv X pins σ H s → wpAny (model X.prog X.w) X.A (spliced (backTo pos (starEach es X.env))) (AP X pins σ Q) X.xe s
theorem wA_pa {X : Cx} {es : List Expr} : PA X es (wA X es) := by unfold wA; exact ⟨fun pos pins s _ _ _ I h => h pos pins s I⟩
theorem wA_of {X : Cx} {es : List Expr} {t : TA} (h : PA X es t) {σ : L2.St} {H : Hp} {Q : List V → Hp → Prop} (q : t σ H Q) : wA X es σ H Q := by unfold wA; exact fun pos pins s I => h.run pos pins s σ H Q I q
@[irreducible] def wS1 (X : Cx) (st : Stmt) : TS := fun D σ H => ∀ (pins : List (Addr × Obj)) (s : Shared), Inv X pins σ H s → wpAny (model X.prog X.w) X.A (exec st X.env) (SP X pins D) X.xe s
theorem wS1_ps {X : Cx} {st : Stmt} : PS X st (wS1 X st) := by unfold wS1; exact ⟨fun pins s _ _ _ I h => h pins s I⟩
theorem wS1_of {X : Cx} {st : Stmt} {t : TS} (h : PS X st t) {σ : L2.St} {H : Hp} {D : Ends} (q : t D σ H) : wS1 X st D σ H := by unfold wS1; exact fun pins s I => h.run pins s σ H D I q
@[irreducible] def wSs (X : Cx) (sts : List Stmt) : TS := fun D σ H => ∀ (pins : List (Addr × Obj)) (s : Shared), Inv X pins σ H s → wpAny (model X.prog X.w) X.A (execs sts X.env) (SP X pins D) X.xe s
theorem wSs_pss {X : Cx} {sts : List Stmt} : PSs X sts (wSs X sts) := by unfold wSs; exact ⟨fun pins s _ _ _ I h => h pins s I⟩
theorem wSs_of {X : Cx} {sts : List Stmt} {t : TS} (h : PSs X sts t) {σ : L2.St} {H : Hp} {D : Ends} (q : t D σ H) : wSs X sts D σ H := by unfold wSs; exact fun pins s I => h.run pins s σ H D I q
@[irreducible] def wG (X : Cx) (tg : Expr) : TG := fun v σ H Q => ∀ (pins : List (Addr × Obj)) (s : Shared) (u : Value), Inv X pins σ H s → RelV v u → wpAny (model X.prog X.w) X.A (assign tg X.env u) (fun _ s' => ∃ σ' H', Inv X pins σ' H' s' ∧ Q σ' H') X.xe s
theorem wG_pg {X : Cx} {tg : Expr} : PG X tg (wG X tg) := by unfold wG; exact ⟨fun pins s _ _ _ u _ I r h => h pins s u I r⟩
theorem wG_of {X : Cx} {tg : Expr} {t : TG} (h : PG X tg t) {σ : L2.St} {H : Hp} {v : V} {Q : L2.St → Hp → Prop} (q : t v σ H Q) : wG X tg v σ H Q := by unfold wG; exact fun pins s u I r => h.run pins s σ H v u Q I r q
@[irreducible] def wGs (X : Cx) (tgs : List Expr) : TGs := fun vs σ H Q => ∀ (pins : List (Addr × Obj)) (s : Shared) (us : List Value), Inv X pins σ H s → Vals vs us → wpAny (model X.prog X.w) X.A (assignInOrder ((assignEach tgs X.env).map (·.2)) us) (fun _ s' => ∃ σ' H', Inv X pins σ' H' s' ∧ Q σ' H') X.xe s
theorem wGs_pgs {X : Cx} {tgs : List Expr} : PGs X tgs (wGs X tgs) := by unfold wGs; exact ⟨fun pins s _ _ _ us _ I r h => h pins s us I r⟩
theorem wGs_of {X : Cx} {tgs : List Expr} {t : TGs} (h : PGs X tgs t) {σ : L2.St} {H : Hp} {vs : List V} {Q : L2.St → Hp → Prop} (q : t vs σ H Q) : wGs X tgs vs σ H Q := by unfold wGs; exact fun pins s us I r => h.run pins s σ H vs us Q I r q
/-- a two-place operation on values -/
@[irreducible] def wO (X : Cx) (f : Value → Value → Sem Value) : R2 := fun x y H Q => ∀ (pins : List (Addr × Obj)) (s : Shared) (σ : L2.St) (v u : Value), Inv X pins σ H s → RelV x v → RelV y u → wpAny (model X.prog X.w) X.A (f v u) (EP X pins σ Q) X.xe s
theorem wO_mk {X : Cx} {f : Value → Value → Sem Value} {x y : V} {H : Hp} {Q : VK} (h : ∀ (pins : List (Addr × Obj)) (s : Shared) (σ : L2.St) (v u : Value), Inv X pins σ H s → RelV x v → RelV y u → wpAny (model X.prog X.w) X.A (f v u) (EP X pins σ Q) X.xe s) : wO X f x y H Q := by unfold wO; exact h
theorem wO_op {X : Cx} {f : Value → Value → Sem Value} : OpR X f (wO X f) := by unfold wO; exact fun pins s σ _ _ _ v u _ I r1 r2 h => h pins s σ v u I r1 r2
theorem wO_of {X : Cx} {f : Value → Value → Sem Value} {r : R2} (h : OpR X f r) {x y : V} {H : Hp} {Q : VK} (q : r x y H Q) : wO X f x y H Q := by unfold wO; exact fun pins s σ v u I r1 r2 => h pins s σ H x y v u Q I r1 r2 q
end EV

set_option Elab.async false
set_option linter.all false
set_option maxRecDepth 100000
/-! E2: judgements over plain values, and what an expression does as a transformer. -/
namespace EV
open PySem PySem.Spec PyProof.Rows L2

/-- an exception in the air: its class, its fields -/
structure Exn where
  C : Addr
  fs : List (Nat × D)
def ExnR (K : PySem.W.Frag) (V1 : Hp) (cls : Value) (d : Option Addr) (x : Exn) : Prop := cls = .ref x.C ∧ ∃ (dx : Addr) (vf : List (Str × V)), d = some dx ∧ V1 dx = some (.xd vf) ∧ RF K V1 vf x.fs
theorem ExnR.mono {K : PySem.W.Frag} {V1 V2 : Hp} {cls : Value} {d : Option Addr} {x : Exn} (s : Same V1 V2) (h : ExnR K V1 cls d x) : ExnR K V2 cls d x :=
  let ⟨e, dx, vf, e1, e2, r⟩ := h
  ⟨e, dx, vf, e1, s _ _ e2, Paired.mapP r fun _ _ z => ⟨z.1, z.2.mono s⟩⟩
abbrev Kx := Exn → Os → Prop
structure XkOk (X : Cx) (F V0 : Hp) (σ : L2.St) (kx : Kx) (W : WX) : Prop where
  tk : Takes X W
  ex : ∀ (V1 : Hp) (os1 : Os) (H1 : Hp) (cls : Value) (d : Option Addr) (x : Exn), Same V0 V1 → Rel X.K F V1 os1 H1 → ExnR X.K V1 cls d x → kx x os1 → W cls d σ H1
theorem XkOk.mono {X : Cx} {F V0 V1 : Hp} {σ : L2.St} {kx : Kx} {W : WX} (h : XkOk X F V0 σ kx W) (s : Same V0 V1) : XkOk X F V1 σ kx W :=
  ⟨h.tk, fun V2 os1 H1 cls d x s2 => h.ex V2 os1 H1 cls d x (s.trans s2)⟩
theorem XkOk.none {X : Cx} {F V0 : Hp} {σ : L2.St} : XkOk X F V0 σ (fun _ _ => False) (fun _ _ _ _ => False) := ⟨takes0, fun _ _ _ _ _ _ _ _ _ z => z⟩

def JE (X : Cx) (kx : Kx) (e : Expr) (env : DEnv) (os : Os) (k : D → Os → Prop) : Prop :=
  ∀ (F V0 H : Hp) (σ : L2.St) (Q : VK) (W : WX), Rel X.K F V0 os H → SR X.K V0 σ env → XkOk X F V0 σ kx W →
    (∀ (V1 : Hp) (os1 : Os) (H1 : Hp) (v : V) (w : D), Same V0 V1 → Rel X.K F V1 os1 H1 → Rp X.K V1 v w → k w os1 → Q v H1) → wE X e σ H Q
def JT (X : Cx) (kx : Kx) (e : Expr) (env : DEnv) (os : Os) (k : Bool → Os → Prop) : Prop :=
  ∀ (F V0 H : Hp) (σ : L2.St) (Q : Bool → Hp → Prop) (W : WX), Rel X.K F V0 os H → SR X.K V0 σ env → XkOk X F V0 σ kx W →
    (∀ (V1 : Hp) (os1 : Os) (H1 : Hp) (b : Bool), Same V0 V1 → Rel X.K F V1 os1 H1 → k b os1 → Q b H1) → wTt X e σ H Q
def JPW (X : Cx) (kx : Kx) (e : Expr) (env : DEnv) (os : Os) (k : Bool → Os → Prop) : Prop :=
  ∀ (F V0 H : Hp) (σ : L2.St) (Q : Bool → Hp → Prop) (W : WX), Rel X.K F V0 os H → SR X.K V0 σ env → XkOk X F V0 σ kx W →
    (∀ (V1 : Hp) (os1 : Os) (H1 : Hp) (b : Bool), Same V0 V1 → Rel X.K F V1 os1 H1 → k b os1 → Q b H1) → wPW X e σ H Q
def JA (X : Cx) (kx : Kx) (es : List Expr) (env : DEnv) (os : Os) (k : List D → Os → Prop) : Prop :=
  ∀ (F V0 H : Hp) (σ : L2.St) (Q : List V → Hp → Prop) (W : WX), Rel X.K F V0 os H → SR X.K V0 σ env → XkOk X F V0 σ kx W →
    (∀ (V1 : Hp) (os1 : Os) (H1 : Hp) (vs : List V) (ws : List D), Same V0 V1 → Rel X.K F V1 os1 H1 → RpA X.K V1 vs ws → k ws os1 → Q vs H1) → wA X es σ H Q
/-- a two-place operation by values -/
def JO (X : Cx) (f : Value → Value → Sem Value) (x y : D) (os : Os) (k : D → Os → Prop) : Prop :=
  ∀ (F V0 H : Hp) (v u : V) (Q : VK), Rel X.K F V0 os H → Rp X.K V0 v x → Rp X.K V0 u y →
    (∀ (V1 : Hp) (os1 : Os) (H1 : Hp) (z : V) (w : D), Same V0 V1 → Rel X.K F V1 os1 H1 → Rp X.K V1 z w → k w os1 → Q z H1) → wO X f v u H Q
theorem JE.mono {X : Cx} {kx : Kx} {e : Expr} {env : DEnv} {os : Os} {k k' : D → Os → Prop} (h : JE X kx e env os k) (hk : ∀ w o, k w o → k' w o) : JE X kx e env os k' :=
  fun F V0 H σ Q W r sr ek c => h F V0 H σ Q W r sr ek fun V1 o1 H1 v w a b d q => c V1 o1 H1 v w a b d (hk _ _ q)
theorem JE.drop {X : Cx} {kx : Kx} {e : Expr} {env : DEnv} {os os' : Os} {k : D → Os → Prop} (s : os'.Sublist os) (h : JE X kx e env os' k) : JE X kx e env os k := fun F V0 H σ Q W r => h F V0 H σ Q W (r.drop s)

/-! ### transformers -/
abbrev TrE := Kx → DEnv → Os → (D → Os → Prop) → Prop
abbrev TrT := Kx → DEnv → Os → (Bool → Os → Prop) → Prop
abbrev TrA := Kx → DEnv → Os → (List D → Os → Prop) → Prop
abbrev TrO := D → D → Os → (D → Os → Prop) → Prop
def Cm (X : Cx) (e : Expr) (t : TrE) : Prop := ∀ kx env os k, t kx env os k → JE X kx e env os k
def CmT (X : Cx) (e : Expr) (t : TrT) : Prop := ∀ kx env os k, t kx env os k → JT X kx e env os k
def CmPW (X : Cx) (e : Expr) (t : TrT) : Prop := ∀ kx env os k, t kx env os k → JPW X kx e env os k
def CmA (X : Cx) (es : List Expr) (t : TrA) (n : Nat) : Prop := es.length = n ∧ ∀ kx env os k, t kx env os k → JA X kx es env os fun ws os1 => ws.length = n ∧ k ws os1
def CmO (X : Cx) (f : Value → Value → Sem Value) (t : TrO) : Prop := ∀ x y os k, t x y os k → JO X f x y os k

/-- slots -/
def getE : DEnv → Nat → Option D
  | [], _ => none
  | x :: _, 0 => x
  | _ :: r, n + 1 => getE r n
def setE : DEnv → Nat → Option D → DEnv
  | [], _, _ => []
  | _ :: r, 0, y => y :: r
  | x :: r, n + 1, y => x :: setE r n y
theorem getE_eq : ∀ (env : DEnv) (i : Nat) (w : D), getE env i = some w → env[i]? = some (some w)
  | [], _, _, h => by cases h
  | x :: _, 0, w, h => by
    have h : x = some w := h
    rw [h]; rfl
  | _ :: r, n + 1, w, h => getE_eq r n w h
theorem setE_eq : ∀ (env : DEnv) (i : Nat) (y : Option D), setE env i y = env.set i y
  | [], _, _ => rfl
  | _ :: _, 0, _ => rfl
  | _ :: r, n + 1, y => congrArg (_ :: ·) (setE_eq r n y)

theorem rwI {K : PySem.W.Frag} {H : Hp} {i : Int} : Rp K H (.int i) (.int i) := .int i
theorem rwB {K : PySem.W.Frag} {H : Hp} {i : Bool} : Rp K H (.bl i) (.bl i) := .bl i
theorem rwS {K : PySem.W.Frag} {H : Hp} {i : Str} : Rp K H (.str i) (.str i) := .str i
theorem rwN {K : PySem.W.Frag} {H : Hp} : Rp K H .non .non := .non

section
variable {X : Cx} {kx : Kx} {env : DEnv} {os : Os} {k : D → Os → Prop} {kb : Bool → Os → Prop} {pos : Pos} {a b c e : Expr} {ta tb te : TrE}
theorem je_pure {t : TE} {w : D} (h : PE X e t) (hr : ∀ (F V0 H : Hp) (σ : L2.St) (Q : VK), Rel X.K F V0 os H → SR X.K V0 σ env → (∀ v, Rp X.K V0 v w → Q v H) → t σ H Q) (q : k w os) : JE X kx e env os k :=
  fun F V0 H σ Q W r sr ek c => wE_of h (hr F V0 H σ Q r sr fun v rv => c V0 os H v w (Same.refl _) r rv q)
def eV (i : Nat) : TrE := fun _ env os k => match getE env i with
  | some w => k w os
  | none => False
theorem cm_v {i : Nat} {x : Str} (hN : X.N[i]? = some x) (hv : Vis X.env.scope x) (hd : (x == ("__debug__" : Str)) = false) (hcd : (x == ("__classdict__" : Str)) = false) : Cm X (.Name x pos) (eV i) := by
  intro kx env os k h
  unfold eV at h
  split at h
  · rename_i w he
    refine je_pure (w := w) (pe_var hN hv hd hcd) (fun F V0 H σ Q r sr c => ?_) h
    obtain ⟨v, e1, r1⟩ := sr.2 i w (getE_eq _ _ _ he)
    exact ⟨v, e1, c v r1⟩
  · exact h.elim
/-- a value known beforehand -/
def eC (d : D) : TrE := fun _ _ os k => k d os
theorem cm_int {i : Int} {j} : Cm X (.Constant (.int i) j pos) (eC (.int i)) := fun _ _ _ _ q => je_pure (w := .int i) pe_int (fun _ _ _ _ _ _ _ c => c _ rwI) q
theorem cm_str {x : Str} {j} : Cm X (.Constant (.str x) j pos) (eC (.str x)) := fun _ _ _ _ q => je_pure (w := .str x) pe_str (fun _ _ _ _ _ _ _ c => c _ rwS) q
theorem cm_bl {x : Bool} {j} : Cm X (.Constant (.bool x) j pos) (eC (.bl x)) := fun _ _ _ _ q => je_pure (w := .bl x) pe_bl (fun _ _ _ _ _ _ _ c => c _ rwB) q
theorem cm_non {j} : Cm X (.Constant .none j pos) (eC .non) := fun _ _ _ _ q => je_pure (w := .non) pe_non (fun _ _ _ _ _ _ _ c => c _ rwN) q
/-- a constant of the module -/
structure Glb (K : PySem.W.Frag) (mg : Str → Option Value) (x : Str) (d : D) : Prop where
  ex : ∃ (v : V) (u : Value), mg x = some u ∧ RelV v u ∧ ∀ V0 : Hp, Rp K V0 v d
theorem cm_glob {x : Str} {d : D} (g : Glb X.K X.mg x d) (hg : Gl X x) (hd : (x == ("__debug__" : Str)) = false) : Cm X (.Name x pos) (eC d) := fun _ _ _ _ q => by
  obtain ⟨v, u, h1, h2, h3⟩ := g.ex
  exact je_pure (w := d) (pe_glob hg h1 h2 hd) (fun _ V0 _ _ _ _ _ c => c _ (h3 V0)) q
/-- a built-in class as a value -/
theorem cm_ty {x : Str} {n : String} (hv : bootBuiltins x = some (.type n)) (hm : X.mg x = none) (hg : Gl X x) (hn : x ≠ "__name__") (hd : (x == ("__debug__" : Str)) = false) : Cm X (.Name x pos) (eC (.ty n)) := fun _ _ _ _ q =>
  je_pure (w := .ty n) (pe_bltn hg hm hv (v := .ty n) rfl hn hd) (fun _ _ _ _ _ _ _ c => c _ (Rp.ty n)) q

/-! ### operators -/
def eBin (o : TrO) (ta tb : TrE) : TrE := fun kx env os k => ta kx env os fun x os1 => tb kx env os1 fun y os2 => o x y os2 k
theorem cm_bin {op : Operator} {o : TrO} (ho : CmO X (binaryOp op) o) (ha : Cm X a ta) (hb : Cm X b tb) : Cm X (.BinOp a op b pos) (eBin o ta tb) := by
  intro kx env os k h F V0 H σ Q W r sr ek c
  refine wE_of (pe_op (r := wO X (binaryOp op)) wO_op wE_pe wE_pe) ?_
  refine ha _ _ _ _ h F V0 H σ _ W r sr ek fun V1 os1 H1 v x s1 r1 rx hx => ?_
  refine hb _ _ _ _ hx F V1 H1 σ _ W r1 (sr.mono s1) (ek.mono s1) fun V2 os2 H2 u y s2 r2 ry hy => ?_
  exact ho _ _ _ _ hy F V2 H2 v u Q r2 (rx.mono s2) ry fun V3 os3 H3 z w s3 r3 rw' q => c V3 os3 H3 z w ((s1.trans s2).trans s3) r3 rw' q
theorem cm_cmp {op : CmpOp} {o : TrO} (ho : CmO X (compareOp op) o) (ha : Cm X a ta) (hb : Cm X b tb) (hm : behindInMarks op b = false) : Cm X (.Compare a [op] [b] pos) (eBin o ta tb) := by
  intro kx env os k h F V0 H σ Q W r sr ek c
  refine wE_of (pe_cmpR (r := wO X (compareOp op)) wO_op wE_pe wE_pe hm) ?_
  refine ha _ _ _ _ h F V0 H σ _ W r sr ek fun V1 os1 H1 v x s1 r1 rx hx => ?_
  refine hb _ _ _ _ hx F V1 H1 σ _ W r1 (sr.mono s1) (ek.mono s1) fun V2 os2 H2 u y s2 r2 ry hy => ?_
  exact ho _ _ _ _ hy F V2 H2 v u Q r2 (rx.mono s2) ry fun V3 os3 H3 z w s3 r3 rw' q => c V3 os3 H3 z w ((s1.trans s2).trans s3) r3 rw' q
/-- the answer of a test among values -/
def onB (kb : Bool → Os → Prop) (w : D) (os : Os) : Prop := match w with
  | .bl b => kb b os
  | _ => False
def tCmp (o : TrO) (ta tb : TrE) : TrT := fun kx env os kb => ta kx env os fun x os1 => tb kx env os1 fun y os2 => o x y os2 (onB kb)
theorem onB_bl {kb : Bool → Os → Prop} {w : D} {os : Os} (h : onB kb w os) : ∃ b, w = .bl b ∧ kb b os := by
  unfold onB at h
  split at h
  · exact ⟨_, rfl, h⟩
  · exact h.elim
theorem ct_cmp {op : CmpOp} {o : TrO} (ho : CmO X (compareOp op) o) (ha : Cm X a ta) (hb : Cm X b tb) (hm : behindInMarks op b = false) : CmT X (.Compare a [op] [b] pos) (tCmp o ta tb) := by
  intro kx env os k h F V0 H σ Q W r sr ek c
  refine wTt_of (pt_cmpR (r := wO X (compareOp op)) wO_op wE_pe wE_pe hm) ?_
  refine ha _ _ _ _ h F V0 H σ _ W r sr ek fun V1 os1 H1 v x s1 r1 rx hx => ?_
  refine hb _ _ _ _ hx F V1 H1 σ _ W r1 (sr.mono s1) (ek.mono s1) fun V2 os2 H2 u y s2 r2 ry hy => ?_
  refine ho _ _ _ _ hy F V2 H2 v u _ r2 (rx.mono s2) ry fun V3 os3 H3 z w s3 r3 rw' q => ?_
  obtain ⟨bo, e, q⟩ := onB_bl q
  subst e
  cases rw'
  exact ⟨bo, rfl, c V3 os3 H3 bo ((s1.trans s2).trans s3) r3 q⟩
/-- a op1 b op2 c as a test -/
def tChain (o o' : TrO) (ta tb tc : TrE) : TrT := fun kx env os kb => ta kx env os fun x os1 => tb kx env os1 fun y os2 => o x y os2 fun w os3 => onB (fun b1 os3 =>
  (b1 = true → tc kx env os3 fun z os4 => o' y z os4 (onB kb)) ∧ (b1 = false → kb false os3)) w os3
theorem ct_chain {op op' : CmpOp} {o o' : TrO} {tc : TrE} (ho : CmO X (compareOp op) o) (ho' : CmO X (compareOp op') o') (ha : Cm X a ta) (hb : Cm X b tb) (hc : Cm X c tc)
    (hm : lastMarks [op, op'] [b, c] = false) : CmT X (.Compare a [op, op'] [b, c] pos) (tChain o o' ta tb tc) := by
  intro kx env os k h F V0 H σ Q W r sr ek cc
  refine wTt_of (pt_chain (r := wO X (compareOp op)) (r' := wO X (compareOp op')) wO_op wO_op wE_pe wE_pe wE_pe hm) ?_
  refine ha _ _ _ _ h F V0 H σ _ W r sr ek fun V1 os1 H1 v x s1 r1 rx hx => ?_
  refine hb _ _ _ _ hx F V1 H1 σ _ W r1 (sr.mono s1) (ek.mono s1) fun V2 os2 H2 u y s2 r2 ry hy => ?_
  refine ho _ _ _ _ hy F V2 H2 v u _ r2 (rx.mono s2) ry fun V3 os3 H3 z w s3 r3 rw' q => ?_
  obtain ⟨bo, e, q1, q2⟩ := onB_bl q
  subst e
  cases rw'
  refine ⟨bo, rfl, ?_⟩
  cases bo with
  | false => exact iteF ⟨false, rfl, cc V3 os3 H3 false ((s1.trans s2).trans s3) r3 (q2 rfl)⟩
  | true =>
    refine iteT ?_
    refine hc _ _ _ _ (q1 rfl) F V3 H3 σ _ W r3 (sr.mono ((s1.trans s2).trans s3)) (ek.mono ((s1.trans s2).trans s3)) fun V4 os4 H4 v4 z4 s4 r4 rz hz => ?_
    refine ho' _ _ _ _ hz F V4 H4 u v4 _ r4 (ry.mono (s3.trans s4)) rz fun V5 os5 H5 z5 w5 s5 r5 rw5 q => ?_
    obtain ⟨bo2, e2, q3⟩ := onB_bl q
    subst e2
    cases rw5
    exact ⟨bo2, rfl, cc V5 os5 H5 bo2 ((((s1.trans s2).trans s3).trans s4).trans s5) r5 q3⟩

theorem JO.mk {f : Value → Value → Sem Value} {r : R2} {x y : D} (hf : OpR X f r)
    (h : ∀ (F V0 H : Hp) (v u : V) (Q : VK), Rel X.K F V0 os H → Rp X.K V0 v x → Rp X.K V0 u y →
      (∀ (V1 : Hp) (os1 : Os) (H1 : Hp) (z : V) (w : D), Same V0 V1 → Rel X.K F V1 os1 H1 → Rp X.K V1 z w → k w os1 → Q z H1) → r v u H Q) : JO X f x y os k :=
  fun F V0 H v u Q r1 rx ry c => wO_of hf (h F V0 H v u Q r1 rx ry c)
theorem jo_rI {f : Value → Value → Sem Value} {C : Int → Int → Prop} {g : Int → Int → Int} {i j : Int} (hf : OpR X f (rI C fun i j => .int (g i j))) (hc : C i j) (q : k (.int (g i j)) os) : JO X f (.int i) (.int j) os k :=
  JO.mk hf fun F V0 H v u Q r rx ry c => by
    cases rx; cases ry
    exact ⟨i, j, rfl, rfl, hc, c V0 os H _ _ (Same.refl _) r rwI q⟩
theorem jo_rI0 {f : Value → Value → Sem Value} {g : Int → Int → Int} {i j : Int} (hf : OpR X f (rI0 fun i j => .int (g i j))) (q : k (.int (g i j)) os) : JO X f (.int i) (.int j) os k :=
  JO.mk hf fun F V0 H v u Q r rx ry c => by
    cases rx; cases ry
    exact ⟨i, j, rfl, rfl, c V0 os H _ _ (Same.refl _) r rwI q⟩
theorem jo_rB0 {f : Value → Value → Sem Value} {g : Int → Int → Bool} {i j : Int} (hf : OpR X f (rI0 fun i j => .bl (g i j))) (q : k (.bl (g i j)) os) : JO X f (.int i) (.int j) os k :=
  JO.mk hf fun F V0 H v u Q r rx ry c => by
    cases rx; cases ry
    exact ⟨i, j, rfl, rfl, c V0 os H _ _ (Same.refl _) r rwB q⟩
/-- an operation on two ints with a condition -/
def oI (C : Int → Int → Prop) (g : Int → Int → Int) : TrO := fun x y os k => match x, y with
  | .int i, .int j => C i j ∧ k (.int (g i j)) os
  | _, _ => False
def oI0 (g : Int → Int → Int) : TrO := fun x y os k => match x, y with
  | .int i, .int j => k (.int (g i j)) os
  | _, _ => False
def oB0 (g : Int → Int → Bool) : TrO := fun x y os k => match x, y with
  | .int i, .int j => k (.bl (g i j)) os
  | _, _ => False
theorem cmo_I {f : Value → Value → Sem Value} {C C' : Int → Int → Prop} {g : Int → Int → Int} (hf : OpR X f (rI C fun i j => .int (g i j))) (hc : ∀ i j, C' i j → C i j) : CmO X f (oI C' g) := by
  intro x y os k h
  unfold oI at h
  split at h
  · exact jo_rI hf (hc _ _ h.1) h.2
  · exact h.elim
theorem cmo_I0 {f : Value → Value → Sem Value} {g : Int → Int → Int} (hf : OpR X f (rI0 fun i j => .int (g i j))) : CmO X f (oI0 g) := by
  intro x y os k h
  unfold oI0 at h
  split at h
  · exact jo_rI0 hf h
  · exact h.elim
theorem cmo_B0 {f : Value → Value → Sem Value} {g : Int → Int → Bool} (hf : OpR X f (rI0 fun i j => .bl (g i j))) : CmO X f (oB0 g) := by
  intro x y os k h
  unfold oB0 at h
  split at h
  · exact jo_rB0 hf h
  · exact h.elim
def MulOk (i j : Int) : Prop := (-18446744073709551616 < i ∧ i < 18446744073709551616) ∨ (-18446744073709551616 < j ∧ j < 18446744073709551616) ∨ CMulW i j
def DivOk (_ j : Int) : Prop := 0 < j ∧ j < 340282366920938463463374607431768211456
def ModOk (_ j : Int) : Prop := 0 < j
def PowOk (i j : Int) : Prop := 0 ≤ j ∧ j ≤ 1000000 ∧ -18446744073709551616 < i ∧ i < 18446744073709551616
def ShrOk (_ j : Int) : Prop := 0 ≤ j
def oSub : TrO := fun x y os k => match x, y with
  | .int i, .int j => k (.int (i - j)) os
  | _, _ => False
def oMul : TrO := fun x y os k => match x, y with
  | .int i, .int j => MulOk i j ∧ k (.int (i * j)) os
  | _, _ => False
def oDiv : TrO := fun x y os k => match x, y with
  | .int i, .int j => DivOk i j ∧ k (.int (i / j)) os
  | _, _ => False
def oMod : TrO := fun x y os k => match x, y with
  | .int i, .int j => ModOk i j ∧ k (.int (i % j)) os
  | _, _ => False
def oPow : TrO := fun x y os k => match x, y with
  | .int i, .int j => PowOk i j ∧ k (.int (i ^ j.toNat)) os
  | _, _ => False
def oShl : TrO := fun x y os k => match x, y with
  | .int i, .int j => PowOk i j ∧ k (.int (i * 2 ^ j.toNat)) os
  | _, _ => False
def oShr : TrO := fun x y os k => match x, y with
  | .int i, .int j => ShrOk i j ∧ k (.int (i / 2 ^ j.toNat)) os
  | _, _ => False
def oBand : TrO := fun x y os k => match x, y with
  | .int i, .int j => k (.int (Builtin.bitAnd i j)) os
  | _, _ => False
def oBor : TrO := fun x y os k => match x, y with
  | .int i, .int j => k (.int (Builtin.bitOr i j)) os
  | _, _ => False
def oBxor : TrO := fun x y os k => match x, y with
  | .int i, .int j => k (.int (Builtin.bitXor i j)) os
  | _, _ => False
def oLt : TrO := fun x y os k => match x, y with
  | .int i, .int j => k (.bl (decide (i < j))) os
  | _, _ => False
def oLe : TrO := fun x y os k => match x, y with
  | .int i, .int j => k (.bl (decide (i ≤ j))) os
  | _, _ => False
def oGt : TrO := fun x y os k => match x, y with
  | .int i, .int j => k (.bl (decide (j < i))) os
  | _, _ => False
def oGe : TrO := fun x y os k => match x, y with
  | .int i, .int j => k (.bl (decide (j ≤ i))) os
  | _, _ => False
theorem cmo_sub : CmO X (binaryOp .Sub) oSub := cmo_I0 op_sub
theorem pow64 : (2 : Nat) ^ 64 = 18446744073709551616 := by decide
theorem cmo_mul : CmO X (binaryOp .Mult) oMul := by
  intro x y os k h
  unfold oMul at h
  split at h
  · obtain ⟨hc | hc | hc, q⟩ := h
    · exact jo_rI op_mul (.inl hc) q
    · exact jo_rI op_mul (.inr hc) q
    · exact jo_rI op_mulW hc q
  · exact h.elim
theorem cmo_div : CmO X (binaryOp .FloorDiv) oDiv := cmo_I op_fdivW fun i j h => wide_div (b := 128) h.1 (by rw [show (2 : Nat) ^ 128 = 340282366920938463463374607431768211456 from by decide]; have := h.1; have := h.2; omega) (by decide) (by decide)
theorem cmo_mod : CmO X (binaryOp .Mod) oMod := cmo_I op_mod fun _ _ h => h
theorem cmo_pow : CmO X (binaryOp .Pow) oPow := cmo_I op_pow fun i j h => ⟨h.1, h.2.1, by rw [pow64]; have := h.2.2; omega⟩
theorem cmo_shl : CmO X (binaryOp .LShift) oShl := cmo_I op_shl fun i j h => ⟨h.1, h.2.1, by rw [pow64]; have := h.2.2; omega⟩
theorem cmo_shr : CmO X (binaryOp .RShift) oShr := cmo_I op_shr fun _ _ h => h
theorem cmo_band : CmO X (binaryOp .BitAnd) oBand := cmo_I0 op_and
theorem cmo_bor : CmO X (binaryOp .BitOr) oBor := cmo_I0 op_or
theorem cmo_bxor : CmO X (binaryOp .BitXor) oBxor := cmo_I0 op_xor
theorem cmo_lt : CmO X (compareOp .Lt) oLt := cmo_B0 op_lt
theorem cmo_le : CmO X (compareOp .LtE) oLe := cmo_B0 op_le
theorem cmo_gt : CmO X (compareOp .Gt) oGt := cmo_B0 op_gt
theorem cmo_ge : CmO X (compareOp .GtE) oGe := cmo_B0 op_ge
/-- the list behind an address or in data -/
theorem rp_lst {K : PySem.W.Frag} {V0 : Hp} {v : V} {ds : List D} (h : Rp K V0 v (.lst ds)) : ∃ a xs, v = .ref a ∧ SqL K V0 a xs ∧ RpA K V0 xs ds := by
  cases h with
  | lst h1 h2 => exact ⟨_, _, rfl, h1, h2⟩
theorem rp_tup {K : PySem.W.Frag} {V0 : Hp} {v : V} {ds : List D} (h : Rp K V0 v (.tup ds)) : ∃ a xs, v = .ref a ∧ SqT K V0 a xs ∧ RpA K V0 xs ds := by
  cases h with
  | tup h1 h2 => exact ⟨_, _, rfl, h1, h2⟩
/-- w is a list of ds: data, or owned -/
def LstOf (os : Os) (w : D) (ds : List D) : Prop := match w with
  | .lst es => ds = es
  | .ref p => ∃ n : Nat, os[n]? = some (p, .lst ds)
  | _ => False
theorem lstOf_of {K : PySem.W.Frag} {F V0 H : Hp} {v : V} {w : D} {ds : List D} (r : Rel K F V0 os H) (rv : Rp K V0 v w) (h : LstOf os w ds) : ∃ a vs, v = .ref a ∧ SqL K H a vs ∧ RpA K V0 vs ds := by
  unfold LstOf at h
  split at h
  · subst h
    obtain ⟨a, xs, rfl, h1, h2⟩ := rp_lst rv
    exact ⟨a, xs, rfl, r.vi.seq h1, h2⟩
  · obtain ⟨n, ho⟩ := h
    obtain rfl := rv.toRef
    obtain ⟨_, _, ho', h3, vs, rfl, h4⟩ := r.own _ (List.mem_of_getElem? ho)
    exact ⟨_, vs, rfl, SqL.of h3, h4⟩
  · exact h.elim
/-- a new tuple, a new list, of data -/
theorem rel_newT {K : PySem.W.Frag} {F V0 H : Hp} {p : Addr} {vs : List V} {ds : List D} (r : Rel K F V0 os H) (hp : H p = none) (rs : RpA K V0 vs ds) :
    Same V0 (upd V0 p (.tup vs)) ∧ Rel K F (upd V0 p (.tup vs)) os (upd H p (.tup vs)) ∧ Rp K (upd V0 p (.tup vs)) (.ref p) (.tup ds) :=
  have s := same_upd (o := .tup vs) (r.vi.free hp)
  ⟨s, r.addV hp _, .tup (.inl (.inl upd_same)) (RpA.mono s rs)⟩
theorem rel_newL {K : PySem.W.Frag} {F V0 H : Hp} {p : Addr} {vs : List V} {ds : List D} (r : Rel K F V0 os H) (hp : H p = none) (rs : RpA K V0 vs ds) :
    Same V0 (upd V0 p (.lst vs)) ∧ Rel K F (upd V0 p (.lst vs)) os (upd H p (.lst vs)) ∧ Rp K (upd V0 p (.lst vs)) (.ref p) (.lst ds) :=
  have s := same_upd (o := .lst vs) (r.vi.free hp)
  ⟨s, r.addV hp _, .lst (.inl (.inl upd_same)) (RpA.mono s rs)⟩
/-- list + list -/
def rCatS (K : PySem.W.Frag) : R2 := fun x y H Q => ∃ a b xs ys, x = .ref a ∧ y = .ref b ∧ SqL K H a xs ∧ SqL K H b ys ∧ xs.length + ys.length ≤ sizeLine ∧ ∀ l, H l = none → Q (.ref l) (upd H l (.lst (xs ++ ys)))
end
end EV

set_option Elab.async false
set_option linter.all false
set_option maxRecDepth 100000
/-! E3: +, ==, in, is; tests; displays; subscripts; slices. -/
namespace EV
open PySem PySem.Spec PyProof.Rows L2
section
variable {X : Cx} {os : Os} {k : D → Os → Prop} {env : DEnv}
theorem op_catS : OpR X (binaryOp .Add) (rCatS X.K) := by
  intro pins s σ H x y v u Q I rx ry h
  obtain ⟨a, b, xs, ys, rfl, rfl, h1, h2, hz, q⟩ := h
  cases rx
  cases ry
  obtain ⟨us, r1, ⟨⟨cls, dd, data, sl⟩, n, ho, hc, hn, hd⟩, _⟩ := I.list h1
  obtain ⟨ws, r2, ⟨⟨cls2, dd2, data2, sl2⟩, n2, ho2, hc2, hn2, hd2⟩, _⟩ := I.list h2
  simp only at hc hd hc2 hd2
  subst hc hd hc2 hd2
  have hl : (us ++ ws).length ≤ sizeLine := by rw [List.length_append, ← r1.length, ← r2.length]; exact hz
  have ee : us.toArray ++ ws.toArray = (us ++ ws).toArray := by simp
  have kk := list_addW a b us.toArray ws.toArray n n2 dd dd2 sl sl2 (by rw [List.length_append] at hl; simpa using hl)
  refine concat_meets ⟨_, ho, rfl⟩ ⟨_, ho2, rfl⟩ noFill_list_add seq_list_add PySem.F.slot_list_add PySem.F.entry_list_add (PySem.F.args_list_add_2 _ _) kk ⟨ho, ho2, ?_⟩
  rw [ee]
  exact ⟨.ref _, _, I.lnew (t' := s.toks) (r1.append r2) (by rw [(r1.append r2).length]; exact hl), rfl, q _ I.fresh⟩
theorem jo_cat {x y : D} {ds es : List D} (hx : LstOf os x ds) (hy : LstOf os y es) (hl : ds.length + es.length ≤ sizeLine) (q : k (.lst (ds ++ es)) os) : JO X (binaryOp .Add) x y os k :=
  JO.mk op_catS fun F V0 H v u Q r rx ry c => by
    obtain ⟨a, xs, rfl, h1, r1⟩ := lstOf_of r rx hx
    obtain ⟨b, ys, rfl, h2, r2⟩ := lstOf_of r ry hy
    refine ⟨a, b, xs, ys, rfl, rfl, h1, h2, by rw [r1.length, r2.length]; exact hl, fun p hp => ?_⟩
    obtain ⟨s2, r3, rp⟩ := rel_newL r hp (r1.append r2)
    exact c _ os _ _ (.lst (ds ++ es)) s2 r3 rp q
theorem jo_catO {x y : D} {ds es : List D} (hx : LstOf os x ds) (hy : LstOf os y es) (hl : ds.length + es.length ≤ sizeLine) (q : ∀ p, k (.ref p) ((p, .lst (ds ++ es)) :: os)) : JO X (binaryOp .Add) x y os k :=
  JO.mk op_catS fun F V0 H v u Q r rx ry c => by
    obtain ⟨a, xs, rfl, h1, r1⟩ := lstOf_of r rx hx
    obtain ⟨b, ys, rfl, h2, r2⟩ := lstOf_of r ry hy
    refine ⟨a, b, xs, ys, rfl, rfl, h1, h2, by rw [r1.length, r2.length]; exact hl, fun p hp => ?_⟩
    exact c V0 _ _ _ (.ref p) (Same.refl _) (r.addO hp (oo := .lst (ds ++ es)) ⟨_, rfl, r1.append r2⟩) (.ref p) (q p)
theorem jo_addS {x y : Str} (h : x.length + y.length ≤ sizeLine) (q : k (.str (x ++ y)) os) : JO X (binaryOp .Add) (.str x) (.str y) os k :=
  JO.mk op_add_str fun F V0 H v u Q r rx ry c => by
    cases rx; cases ry
    exact ⟨x, y, rfl, rfl, h, c V0 os H _ _ (Same.refl _) r rwS q⟩
def catL (x y : D) (os : Os) (k : D → Os → Prop) : Prop := ∃ ds es, LstOf os x ds ∧ LstOf os y es ∧ ds.length + es.length ≤ sizeLine ∧ k (.lst (ds ++ es)) os
def oAdd : TrO := fun x y os k => match x with
  | .int i => (match y with
    | .int j => k (.int (i + j)) os
    | _ => False)
  | .str a => (match y with
    | .str b => a.length + b.length ≤ sizeLine ∧ k (.str (a ++ b)) os
    | _ => False)
  | .lst ds => (match y with
    | .lst es => ds.length + es.length ≤ sizeLine ∧ k (.lst (ds ++ es)) os
    | y => catL (.lst ds) y os k)
  | x => catL x y os k
theorem cmo_add : CmO X (binaryOp .Add) oAdd := by
  intro x y os k h
  have gen : ∀ x y, catL x y os k → JO X (binaryOp .Add) x y os k := fun x y ⟨ds, es, h1, h2, h3, q⟩ => jo_cat h1 h2 h3 q
  unfold oAdd at h
  split at h
  · split at h
    · exact jo_rI0 op_add h
    · exact h.elim
  · split at h
    · exact jo_addS h.1 h.2
    · exact h.elim
  · split at h
    · exact jo_cat (ds := _) (es := _) rfl rfl h.1 h.2
    · exact gen _ _ h
  · exact gen _ _ h
/-- list + list, the new one owned -/
def oAddO : TrO := fun x y os k => ∃ ds es, LstOf os x ds ∧ LstOf os y es ∧ ds.length + es.length ≤ sizeLine ∧ ∀ p, k (.ref p) ((p, .lst (ds ++ es)) :: os)
theorem cmo_addO : CmO X (binaryOp .Add) oAddO := fun x y os k ⟨ds, es, h1, h2, h3, q⟩ => jo_catO h1 h2 h3 q
end

/-! ### == -/
mutual
def toP : D → PyData
  | .non => .none
  | .bl b => .bool b
  | .int i => .int i
  | .str x => .str x
  | .ty _ => .none
  | .tup ds => .tuple (toPs ds)
  | .lst ds => .list (toPs ds)
  | .dK _ => .none
  | .dT _ => .none
  | .exn .. => .none
  | .ref _ => .none
def toPs : List D → List PyData
  | [] => []
  | d :: ds => toP d :: toPs ds
end
mutual
/-- no types inside, not too deep, texts that can be held -/
def shp : D → Nat → Bool
  | .non, _ => true
  | .bl _, _ => true
  | .int _, _ => true
  | .str x, _ => PyData.canLay0 (.str x)
  | .ty _, _ => false
  | .tup ds, n => decide (0 < n) && shpA ds (n - 1)
  | .lst ds, n => decide (0 < n) && shpA ds (n - 1)
  | .dK _, _ => false
  | .dT _, _ => false
  | .exn .., _ => false
  | .ref _, _ => false
def shpA : List D → Nat → Bool
  | [], _ => true
  | d :: ds, n => shp d n && shpA ds n
end
theorem toPs_map (ds : List D) : toPs ds = ds.map toP := by
  induction ds with
  | nil => rfl
  | cons d ds ih => rw [toPs, ih, List.map_cons]
theorem shpA_all {ds : List D} {n : Nat} : shpA ds n = true ↔ ∀ d ∈ ds, shp d n = true := by
  induction ds with
  | nil => simp [shpA]
  | cons d ds ih => rw [shpA, Bool.and_eq_true, ih]; simp
mutual
theorem shp_lay : ∀ {d : D} {n : Nat}, shp d n = true → (toP d).canLay0 = true ∧ (toP d).depth ≤ n + 1
  | .non, n, _ => by simp [toP, PyData.canLay0, PyData.depth]
  | .bl b, n, _ => by simp [toP, PyData.canLay0, PyData.depth]
  | .int i, n, _ => by simp [toP, PyData.canLay0, PyData.depth]
  | .str x, n, h => ⟨h, by simp [toP, PyData.depth]⟩
  | .tup ds, n, h => by
    rw [shp, Bool.and_eq_true, decide_eq_true_iff] at h
    obtain ⟨h1, h2⟩ := shpA_lay h.2
    simp only [toP, PyData.canLay0, PyData.depth]
    exact ⟨h1, by omega⟩
  | .lst ds, n, h => by
    rw [shp, Bool.and_eq_true, decide_eq_true_iff] at h
    obtain ⟨h1, h2⟩ := shpA_lay h.2
    simp only [toP, PyData.canLay0, PyData.depth]
    exact ⟨h1, by omega⟩
theorem shpA_lay : ∀ {ds : List D} {n : Nat}, shpA ds n = true → PyData.canLayAll0 (toPs ds) = true ∧ PyData.depthAll (toPs ds) ≤ n + 1
  | [], n, _ => by simp [toPs, PyData.canLayAll0, PyData.depthAll]
  | d :: ds, n, h => by
    rw [shpA, Bool.and_eq_true] at h
    obtain ⟨h1, h2⟩ := shp_lay h.1
    obtain ⟨h3, h4⟩ := shpA_lay h.2
    simp only [toPs, PyData.canLayAll0, PyData.depthAll, Bool.and_eq_true]
    exact ⟨⟨h1, h3⟩, by omega⟩
end
theorem shp_shaped {d : D} (h : shp d 60 = true) : SeqAt.shaped (toP d) = true := by
  obtain ⟨h1, h2⟩ := shp_lay h
  show (PyData.canLay0 (toP d) && decide ((toP d).depth ≤ 64)) = true
  rw [h1, Bool.true_and, decide_eq_true_iff]
  omega
mutual
/-- w is the data d: owned lists inside are read -/
inductive AsD (os : Os) : D → D → Prop
  | same (d : D) : AsD os d d
  | tup {ws ds : List D} : AsDs os ws ds → AsD os (.tup ws) (.tup ds)
  | lst {ws ds : List D} : AsDs os ws ds → AsD os (.lst ws) (.lst ds)
  | own {p : Addr} {n : Nat} {ws ds : List D} : os[n]? = some (p, .lst ws) → AsDs os ws ds → AsD os (.ref p) (.lst ds)
inductive AsDs (os : Os) : List D → List D → Prop
  | same (ds : List D) : AsDs os ds ds
  | nil : AsDs os [] []
  | cons {w d : D} {ws ds : List D} : AsD os w d → AsDs os ws ds → AsDs os (w :: ws) (d :: ds)
end
theorem AsD.own1 {os : Os} {p : Addr} {n : Nat} {ws : List D} (h : os[n]? = some (p, .lst ws)) : AsD os (.ref p) (.lst ws) := .own h (.same ws)
mutual
theorem dp_of {K : PySem.W.Frag} {H : Hp} : ∀ {d : D} {v : V} {n : Nat}, shp d n = true → Rp K H v d → Dp K H v (toP d)
  | .non, _, _, _, h => by cases h; exact .non
  | .bl b, _, _, _, h => by cases h; exact .bl b
  | .int b, _, _, _, h => by cases h; exact .int b
  | .str b, _, _, _, h => by cases h; exact .str b
  | .tup ds, _, n, s, h => by
    rw [shp, Bool.and_eq_true] at s
    cases h with
    | tup h1 h2 => exact .tup h1 (dpA_of s.2 h2)
  | .lst ds, _, n, s, h => by
    rw [shp, Bool.and_eq_true] at s
    cases h with
    | lst h1 h2 => exact .lst h1 (dpA_of s.2 h2)
theorem dpA_of {K : PySem.W.Frag} {H : Hp} : ∀ {ds : List D} {vs : List V} {n : Nat}, shpA ds n = true → RpA K H vs ds → DpAll K H vs (toPs ds)
  | [], _, _, _, h => by cases h; exact .nil
  | d :: ds, _, n, s, h => by
    rw [shpA, Bool.and_eq_true] at s
    cases h with
    | cons h1 h2 => exact .cons (dp_of s.1 h1) (dpA_of s.2 h2)
end
mutual
theorem asD_dp {K : PySem.W.Frag} {F V0 H : Hp} {os : Os} (r : Rel K F V0 os H) : ∀ {w d : D} {v : V} {n : Nat}, AsD os w d → shp d n = true → Rp K V0 v w → Dp K H v (toP d)
  | _, _, _, _, .same d, s, rv => dp_of s (Rp.mono r.vi rv)
  | _, _, _, n, .tup h, s, rv => by
    rw [shp, Bool.and_eq_true] at s
    cases rv with
    | tup h1 h2 => exact .tup (same_sqT r.vi h1) (asDs_dp r h s.2 h2)
  | _, _, _, n, .lst h, s, rv => by
    rw [shp, Bool.and_eq_true] at s
    cases rv with
    | lst h1 h2 => exact .lst (r.vi.seq h1) (asDs_dp r h s.2 h2)
  | _, _, _, n, .own ho h, s, rv => by
    rw [shp, Bool.and_eq_true] at s
    obtain rfl := rv.toRef
    obtain ⟨_, _, ho', h3, vs, rfl, h4⟩ := r.own _ (List.mem_of_getElem? ho)
    exact .lst (SqL.of h3) (asDs_dp r h s.2 h4)
theorem asDs_dp {K : PySem.W.Frag} {F V0 H : Hp} {os : Os} (r : Rel K F V0 os H) : ∀ {ws ds : List D} {vs : List V} {n : Nat}, AsDs os ws ds → shpA ds n = true → RpA K V0 vs ws → DpAll K H vs (toPs ds)
  | _, _, _, _, .same d, s, rv => dpA_of s (RpA.mono r.vi rv)
  | _, _, _, _, .nil, s, rv => by cases rv; exact .nil
  | _, _, _, _, .cons h1 h2, s, rv => by
    rw [shpA, Bool.and_eq_true] at s
    cases rv with
    | cons a b => exact .cons (asD_dp r h1 s.1 a) (asDs_dp r h2 s.2 b)
end
def eqD (d e : D) : Bool := PyData.eqv (toP d) (toP e)
def genEq (x y : D) (os : Os) (k : Bool → Prop) : Prop := ∃ d e, AsD os x d ∧ AsD os y e ∧ shp d 60 = true ∧ shp e 60 = true ∧ k (eqD d e)
/-- data that == tells apart by their value -/
def scalD : D → V
  | .non => .non | .bl b => .bl b | .int i => .int i | .str x => .str x | .ty n => .ty n | _ => .flt 0
def isScal : D → Bool
  | .non => true | .bl _ => true | .int _ => true | .str _ => true | _ => false
theorem rp_scal {K : PySem.W.Frag} {V0 : Hp} {v : V} : ∀ {d : D}, isScal d = true → Rp K V0 v d → v = scalD d
  | .non, _, h => by cases h; rfl
  | .bl _, _, h => by cases h; rfl
  | .int _, _, h => by cases h; rfl
  | .str _, _, h => by cases h; rfl
def oEq : TrO := fun x y os k => match x with
  | .int i => (match y with
    | .int j => k (.bl (decide (i = j))) os
    | y => genEq (.int i) y os fun b => k (.bl b) os)
  | .str i => (match y with
    | .str j => k (.bl (decide (i = j))) os
    | y => genEq (.str i) y os fun b => k (.bl b) os)
  | .bl i => (match y with
    | .bl j => k (.bl (decide (i = j))) os
    | y => genEq (.bl i) y os fun b => k (.bl b) os)
  | x => genEq x y os fun b => k (.bl b) os
def oNe : TrO := fun x y os k => match x with
  | .int i => (match y with
    | .int j => k (.bl (!decide (i = j))) os
    | y => genEq (.int i) y os fun b => k (.bl (!b)) os)
  | .str i => (match y with
    | .str j => k (.bl (!decide (i = j))) os
    | y => genEq (.str i) y os fun b => k (.bl (!b)) os)
  | .bl i => (match y with
    | .bl j => k (.bl (!decide (i = j))) os
    | y => genEq (.bl i) y os fun b => k (.bl (!b)) os)
  | x => genEq x y os fun b => k (.bl (!b)) os
section
variable {X : Cx} {os : Os} {k : D → Os → Prop} {env : DEnv} {kb : Bool → Os → Prop}
theorem jo_gen {lvl : Nat} {x y : D} (hr : Room lvl X.A) (h : genEq x y os fun b => k (.bl b) os) : JO X (compareOp .Eq) x y os k := by
  obtain ⟨d, e, h1, h2, s1, s2, q⟩ := h
  exact JO.mk (op_eqD hr.units) fun F V0 H v u Q r rx ry c => ⟨_, _, asD_dp r h1 s1 rx, asD_dp r h2 s2 ry, shp_shaped s1, shp_shaped s2, c V0 os H _ _ (Same.refl _) r rwB q⟩
theorem jo_genN {lvl : Nat} {x y : D} (hr : Room lvl X.A) (h : genEq x y os fun b => k (.bl (!b)) os) : JO X (compareOp .NotEq) x y os k := by
  obtain ⟨d, e, h1, h2, s1, s2, q⟩ := h
  exact JO.mk (op_neD hr.units) fun F V0 H v u Q r rx ry c => ⟨_, _, asD_dp r h1 s1 rx, asD_dp r h2 s2 ry, shp_shaped s1, shp_shaped s2, c V0 os H _ _ (Same.refl _) r rwB q⟩
theorem jo_eqS {d1 d2 : D} (h1 : isScal d1 = true) (h2 : isScal d2 = true) (h : scal (scalD d1) (scalD d2) = true) (q : k (.bl (decide (scalD d1 = scalD d2))) os) : JO X (compareOp .Eq) d1 d2 os k :=
  JO.mk op_eq fun F V0 H v u Q r rx ry c => by
    have e1 := rp_scal h1 rx
    have e2 := rp_scal h2 ry
    subst e1 e2
    exact ⟨h, c V0 os H _ _ (Same.refl _) r rwB q⟩
theorem jo_neS {d1 d2 : D} (h1 : isScal d1 = true) (h2 : isScal d2 = true) (h : scal (scalD d1) (scalD d2) = true) (q : k (.bl (!decide (scalD d1 = scalD d2))) os) : JO X (compareOp .NotEq) d1 d2 os k :=
  JO.mk op_ne fun F V0 H v u Q r rx ry c => by
    have e1 := rp_scal h1 rx
    have e2 := rp_scal h2 ry
    subst e1 e2
    exact ⟨h, c V0 os H _ _ (Same.refl _) r rwB q⟩
theorem cmo_eq {lvl : Nat} (hr : Room lvl X.A) : CmO X (compareOp .Eq) oEq := by
  intro x y os k h
  unfold oEq at h
  split at h
  · rename_i i
    split at h
    · rename_i j
      refine jo_eqS rfl rfl rfl ?_
      rw [show decide (scalD (.int i) = scalD (.int j)) = decide (i = j) from decide_eq_decide.mpr ⟨fun h => V.int.inj h, fun h => congrArg V.int h⟩]; exact h
    · exact jo_gen hr h
  · rename_i i
    split at h
    · rename_i j
      refine jo_eqS rfl rfl rfl ?_
      rw [show decide (scalD (.str i) = scalD (.str j)) = decide (i = j) from decide_eq_decide.mpr ⟨fun h => V.str.inj h, fun h => congrArg V.str h⟩]; exact h
    · exact jo_gen hr h
  · rename_i i
    split at h
    · rename_i j
      refine jo_gen hr ⟨_, _, .same _, .same _, rfl, rfl, ?_⟩
      rw [show eqD (.bl i) (.bl j) = decide (i = j) from by cases i <;> cases j <;> rfl]
      exact h
    · exact jo_gen hr h
  · exact jo_gen hr h
theorem cmo_ne {lvl : Nat} (hr : Room lvl X.A) : CmO X (compareOp .NotEq) oNe := by
  intro x y os k h
  unfold oNe at h
  split at h
  · rename_i i
    split at h
    · rename_i j
      refine jo_neS rfl rfl rfl ?_
      rw [show decide (scalD (.int i) = scalD (.int j)) = decide (i = j) from decide_eq_decide.mpr ⟨fun h => V.int.inj h, fun h => congrArg V.int h⟩]; exact h
    · exact jo_genN hr h
  · rename_i i
    split at h
    · rename_i j
      refine jo_neS rfl rfl rfl ?_
      rw [show decide (scalD (.str i) = scalD (.str j)) = decide (i = j) from decide_eq_decide.mpr ⟨fun h => V.str.inj h, fun h => congrArg V.str h⟩]; exact h
    · exact jo_genN hr h
  · rename_i i
    split at h
    · rename_i j
      refine jo_genN hr ⟨_, _, .same _, .same _, rfl, rfl, ?_⟩
      rw [show eqD (.bl i) (.bl j) = decide (i = j) from by cases i <;> cases j <;> rfl]
      exact h
    · exact jo_genN hr h
  · exact jo_genN hr h
/-- is None -/
def isNonD : D → Bool
  | .non => true | _ => false
theorem rw_non {K : PySem.W.Frag} {V0 : Hp} {v : V} : ∀ {w : D}, Rp K V0 v w → decide (v = .non) = isNonD w
  | .non, h => by cases h; rfl
  | .bl _, h => by cases h; rfl
  | .int _, h => by cases h; rfl
  | .str _, h => by cases h; rfl
  | .ty _, h => by cases h; rfl
  | .tup _, h => by cases h; rfl
  | .lst _, h => by cases h; rfl
  | .dK _, h => by cases h; rfl
  | .dT _, h => by cases h; rfl
  | .exn .., h => by cases h; rfl
  | .ref _, h => by cases h; rfl
def oIsN : TrO := fun x y os k => match y with
  | .non => k (.bl (isNonD x)) os
  | .bl b => (match x with
    | .bl a => k (.bl (decide (a = b))) os
    | _ => False)
  | _ => False
def oNotN : TrO := fun x y os k => match y with
  | .non => k (.bl (!isNonD x)) os
  | .bl b => (match x with
    | .bl a => k (.bl (!decide (a = b))) os
    | _ => False)
  | _ => False
theorem cmo_isN : CmO X (compareOp .Is) oIsN := by
  intro x y os k h
  unfold oIsN at h
  split at h
  · exact JO.mk op_isN fun F V0 H v u Q r rx ry c => by
      cases ry
      exact ⟨rfl, by rw [rw_non rx]; exact c V0 os H _ _ (Same.refl _) r rwB h⟩
  · split at h
    · exact JO.mk op_is_bl fun F V0 H v u Q r rx ry c => by
        cases ry
        cases rx
        exact ⟨_, _, rfl, rfl, c V0 os H _ _ (Same.refl _) r rwB h⟩
    · exact h.elim
  · exact h.elim
theorem cmo_notN : CmO X (compareOp .IsNot) oNotN := by
  intro x y os k h
  unfold oNotN at h
  split at h
  · exact JO.mk op_notN fun F V0 H v u Q r rx ry c => by
      cases ry
      exact ⟨rfl, by rw [rw_non rx]; exact c V0 os H _ _ (Same.refl _) r rwB h⟩
  · split at h
    · exact JO.mk op_isnot_bl fun F V0 H v u Q r rx ry c => by
        cases ry
        cases rx
        exact ⟨_, _, rfl, rfl, c V0 os H _ _ (Same.refl _) r rwB h⟩
    · exact h.elim
  · exact h.elim
/-- the items of a list or tuple at hand -/
def SeqOf (os : Os) (w : D) (ds : List D) : Prop := match w with
  | .lst es => ds = es
  | .tup es => ds = es
  | .ref p => ∃ n : Nat, os[n]? = some (p, .lst ds)
  | _ => False
theorem seqOf_of {K : PySem.W.Frag} {F V0 H : Hp} {v : V} {w : D} {ds : List D} (r : Rel K F V0 os H) (rv : Rp K V0 v w) (h : SeqOf os w ds) : ∃ a vs, v = .ref a ∧ (SqL K H a vs ∨ SqT K H a vs) ∧ RpA K V0 vs ds := by
  unfold SeqOf at h
  split at h
  · subst h
    obtain ⟨a, xs, rfl, h1, h2⟩ := rp_lst rv
    exact ⟨a, xs, rfl, .inl (r.vi.seq h1), h2⟩
  · subst h
    obtain ⟨a, xs, rfl, h1, h2⟩ := rp_tup rv
    exact ⟨a, xs, rfl, .inr (same_sqT r.vi h1), h2⟩
  · obtain ⟨n, ho⟩ := h
    obtain rfl := rv.toRef
    obtain ⟨_, _, ho', h3, vs, rfl, h4⟩ := r.own _ (List.mem_of_getElem? ho)
    exact ⟨_, vs, rfl, .inl (SqL.of h3), h4⟩
  · exact h.elim
theorem rpA_scal {K : PySem.W.Frag} {V0 : Hp} : ∀ {ds : List D} {vs : List V}, ds.all isScal = true → RpA K V0 vs ds → vs = ds.map scalD
  | [], _, _, h => by cases h; rfl
  | d :: ds, _, s, h => by
    rw [List.all_cons, Bool.and_eq_true] at s
    cases h with
    | cons a b => rw [rp_scal s.1 a, rpA_scal s.2 b]; rfl
def inD (x : D) (ds : List D) : Bool := inV (scalD x) (ds.map scalD)
theorem flat_scal : ∀ {d : D}, isScal d = true → flatV (scalD d) = true
  | .non, _ => rfl
  | .bl _, _ => rfl
  | .int _, _ => rfl
  | .str _, _ => rfl
theorem flat_all {ds : List D} (h : ds.all isScal = true) : (ds.map scalD).all flatV = true := by
  rw [List.all_map, List.all_eq_true]
  rw [List.all_eq_true] at h
  exact fun d hd => flat_scal (h d hd)
def oIn : TrO := fun x w os k => isScal x = true ∧ ∃ ds, SeqOf os w ds ∧ ds.all isScal = true ∧ k (.bl (inD x ds)) os
def oNotIn : TrO := fun x w os k => isScal x = true ∧ ∃ ds, SeqOf os w ds ∧ ds.all isScal = true ∧ k (.bl (!inD x ds)) os
theorem cmo_in : CmO X (compareOp .In) oIn := fun x w os k ⟨hx, ds, hs, hd, q⟩ =>
  JO.mk op_in_seq fun F V0 H v u Q r rx ry c => by
    have e := rp_scal hx rx
    subst e
    obtain ⟨a, vs, rfl, h1, ra⟩ := seqOf_of r ry hs
    have e := rpA_scal hd ra
    subst e
    refine ⟨a, _, rfl, h1, flat_scal hx, flat_all hd, c V0 os H _ _ (Same.refl _) r ?_ q⟩
    rw [if_neg (by decide)]
    exact rwB
theorem cmo_notIn : CmO X (compareOp .NotIn) oNotIn := fun x w os k ⟨hx, ds, hs, hd, q⟩ =>
  JO.mk op_notIn_seq fun F V0 H v u Q r rx ry c => by
    have e := rp_scal hx rx
    subst e
    obtain ⟨a, vs, rfl, h1, ra⟩ := seqOf_of r ry hs
    have e := rpA_scal hd ra
    subst e
    refine ⟨a, _, rfl, h1, flat_scal hx, flat_all hd, c V0 os H _ _ (Same.refl _) r ?_ q⟩
    rw [if_pos rfl]
    exact rwB

/-! ### tests -/
/-- truth of any value -/
def truD : D → Option Bool
  | .non => some false | .bl b => some b | .int i => some (i != 0) | .str x => if x.length ≤ sizeLine then some ((x.length : Int) != 0) else none
  | .lst ds => some (!ds.isEmpty) | .tup ds => some (!ds.isEmpty) | _ => none
def truW (os : Os) (w : D) (b : Bool) : Prop := match w with
  | .ref a => ∃ (n : Nat) (ws : List D), os[n]? = some (a, OO.lst ws) ∧ b = !ws.isEmpty
  | d => truD d = some b
theorem isE {α β : Type} {xs : List α} {ys : List β} (h : xs.length = ys.length) : (!xs.isEmpty) = !ys.isEmpty := by
  cases xs <;> cases ys <;> simp_all
theorem truV_of {K : PySem.W.Frag} {F V0 H : Hp} {v : V} {w : D} {b : Bool} (r : Rel K F V0 os H) (rv : Rp K V0 v w) (t : truW os w b) : TruV K v H b := by
  cases w with
  | non => cases rv; exact (Option.some.inj (show some false = some b from t)).symm
  | bl _ => cases rv; exact (Option.some.inj (show some _ = some b from t)).symm
  | int _ => cases rv; exact (Option.some.inj (show some _ = some b from t)).symm
  | str z =>
    cases rv
    have t : (if z.length ≤ sizeLine then some ((z.length : Int) != 0) else none) = some b := t
    by_cases hz : z.length ≤ sizeLine
    · rw [if_pos hz] at t; exact ⟨hz, (Option.some.inj t).symm⟩
    · rw [if_neg hz] at t; cases t
  | ty _ => cases (show none = some b from t)
  | dK _ => cases (show none = some b from t)
  | dT _ => cases (show none = some b from t)
  | exn _ _ _ _ _ => cases (show none = some b from t)
  | tup ds =>
    have t : some (!ds.isEmpty) = some b := t
    obtain ⟨p, xs, rfl, h1, h2⟩ := rp_tup rv
    exact .inr (.inl ⟨xs, same_sqT r.vi h1, by rw [isE h2.length]; exact (Option.some.inj t).symm⟩)
  | lst ds =>
    have t : some (!ds.isEmpty) = some b := t
    obtain ⟨p, xs, rfl, h1, h2⟩ := rp_lst rv
    exact .inl ⟨xs, r.vi.seq h1, by rw [isE h2.length]; exact (Option.some.inj t).symm⟩
  | ref p =>
    obtain rfl := rv.toRef
    obtain ⟨n, ws, ho, e⟩ := t
    obtain ⟨_, _, ho', h3, vs, rfl, h4⟩ := r.own _ (List.mem_of_getElem? ho)
    exact .inl ⟨vs, SqL.of h3, by rw [isE h4.length]; exact e⟩
def tV (te : TrE) : TrT := fun kx env os kb => te kx env os fun w os1 => match w with
  | .bl b => kb b os1
  | w => ∃ b, truW os1 w b ∧ kb b os1
variable {a b c e : Expr} {ta tb te : TrE} {pos : Pos} {tc td : TrT}
theorem ct_v (h : Cm X e te) (he : ∀ whole, isTrue e X.env whole = (do let v ← whole; standAt e.pos; holding [v] (truthy v)) := by intro _; rfl) : CmT X e (tV te) := by
  intro kx env os kb q F V0 H σ Q W r sr ek c
  refine wTt_of (pt_truth wE_pe he) ?_
  refine h _ _ _ _ q F V0 H σ _ W r sr ek fun V1 os1 H1 v x s1 r1 rx q1 => ?_
  have key : ∃ b, truW os1 x b ∧ kb b os1 := by
    split at q1
    · exact ⟨_, rfl, q1⟩
    · exact q1
  obtain ⟨b, e1, q2⟩ := key
  exact ⟨b, truV_of r1 rx e1, c V1 os1 H1 b s1 r1 q2⟩
def tNot (t : TrT) : TrT := fun kx env os kb => t kx env os fun b os1 => kb (!b) os1
theorem ct_not (h : CmT X a tc) : CmT X (.UnaryOp .Not a pos) (tNot tc) := by
  intro kx env os kb q F V0 H σ Q W r sr ek c
  refine wTt_of (pt_not wTt_pt) ?_
  exact h _ _ _ _ q F V0 H σ _ W r sr ek fun V1 os1 H1 b s1 r1 q => c V1 os1 H1 (!b) s1 r1 q
def tAnd (t u : TrT) : TrT := fun kx env os kb => t kx env os fun b os1 => (b = true → u kx env os1 kb) ∧ (b = false → kb false os1)
def tOr (t u : TrT) : TrT := fun kx env os kb => t kx env os fun b os1 => (b = false → u kx env os1 kb) ∧ (b = true → kb true os1)
theorem ct_pw (h : CmPW X e tc) : CmT X e tc := fun kx env os kb q F V0 H σ Q W r sr ek c => wTt_of wPW_pw.pt (h _ _ _ _ q F V0 H σ Q W r sr ek c)
theorem cpw_and1 (h : CmT X a tc) : CmPW X (.BoolOp .And [a] pos) tc := fun kx env os kb q F V0 H σ Q W r sr ek c => wPW_of (pw_and1 wTt_pt) (h _ _ _ _ q F V0 H σ Q W r sr ek c)
theorem cpw_or1 (h : CmT X a tc) : CmPW X (.BoolOp .Or [a] pos) tc := fun kx env os kb q F V0 H σ Q W r sr ek c => wPW_of (pw_or1 wTt_pt) (h _ _ _ _ q F V0 H σ Q W r sr ek c)
theorem cpw_and {rest : List Expr} (h : CmT X a tc) (h2 : CmPW X (.BoolOp .And (b :: rest) pos) td) : CmPW X (.BoolOp .And (a :: b :: rest) pos) (tAnd tc td) := by
  intro kx env os kb q F V0 H σ Q W r sr ek c
  refine wPW_of (pw_and wTt_pt wPW_pw) ?_
  refine h _ _ _ _ q F V0 H σ _ W r sr ek fun V1 os1 H1 b1 s1 r1 q => ?_
  cases b1 with
  | false => exact iteF (c V1 os1 H1 false s1 r1 (q.2 rfl))
  | true => exact iteT (h2 _ _ _ _ (q.1 rfl) F V1 H1 σ Q W r1 (sr.mono s1) (ek.mono s1) fun V2 os2 H2 b2 s2 r2 q2 => c V2 os2 H2 b2 (s1.trans s2) r2 q2)
theorem cpw_or {rest : List Expr} (h : CmT X a tc) (h2 : CmPW X (.BoolOp .Or (b :: rest) pos) td) : CmPW X (.BoolOp .Or (a :: b :: rest) pos) (tOr tc td) := by
  intro kx env os kb q F V0 H σ Q W r sr ek c
  refine wPW_of (pw_or wTt_pt wPW_pw) ?_
  refine h _ _ _ _ q F V0 H σ _ W r sr ek fun V1 os1 H1 b1 s1 r1 q => ?_
  cases b1 with
  | true => exact iteT (c V1 os1 H1 true s1 r1 (q.2 rfl))
  | false => exact iteF (h2 _ _ _ _ (q.1 rfl) F V1 H1 σ Q W r1 (sr.mono s1) (ek.mono s1) fun V2 os2 H2 b2 s2 r2 q2 => c V2 os2 H2 b2 (s1.trans s2) r2 q2)
/-- bools as values -/
def eAnd (ta tb : TrE) : TrE := fun kx env os k => ta kx env os fun w os1 => onB (fun b1 os1 => (b1 = true → tb kx env os1 k) ∧ (b1 = false → k (.bl false) os1)) w os1
def eOr (ta tb : TrE) : TrE := fun kx env os k => ta kx env os fun w os1 => onB (fun b1 os1 => (b1 = false → tb kx env os1 k) ∧ (b1 = true → k (.bl true) os1)) w os1
def eNot (ta : TrE) : TrE := fun kx env os k => ta kx env os fun w os1 => onB (fun b1 os1 => k (.bl (!b1)) os1) w os1
theorem cm_one {op} (h : Cm X a ta) : Cm X (.BoolOp op [a] pos) ta := fun kx env os k q F V0 H σ Q W r sr ek c => wE_of (pe_one wE_pe) (h _ _ _ _ q F V0 H σ Q W r sr ek c)
theorem cm_and {rest : List Expr} (h : Cm X a ta) (h2 : Cm X (.BoolOp .And (b :: rest) pos) tb) : Cm X (.BoolOp .And (a :: b :: rest) pos) (eAnd ta tb) := by
  intro kx env os k q F V0 H σ Q W r sr ek c
  refine wE_of (pe_and wE_pe wE_pe) ?_
  refine h _ _ _ _ q F V0 H σ _ W r sr ek fun V1 os1 H1 v w s1 r1 rv q => ?_
  obtain ⟨b1, e, q⟩ := onB_bl q
  subst e
  cases rv
  refine ⟨b1, rfl, ?_⟩
  cases b1 with
  | false => exact iteF (c V1 os1 H1 _ _ s1 r1 rwB (q.2 rfl))
  | true => exact iteT (h2 _ _ _ _ (q.1 rfl) F V1 H1 σ Q W r1 (sr.mono s1) (ek.mono s1) fun V2 os2 H2 z w s2 r2 rz q2 => c V2 os2 H2 z w (s1.trans s2) r2 rz q2)
theorem cm_or {rest : List Expr} (h : Cm X a ta) (h2 : Cm X (.BoolOp .Or (b :: rest) pos) tb) : Cm X (.BoolOp .Or (a :: b :: rest) pos) (eOr ta tb) := by
  intro kx env os k q F V0 H σ Q W r sr ek c
  refine wE_of (pe_or wE_pe wE_pe) ?_
  refine h _ _ _ _ q F V0 H σ _ W r sr ek fun V1 os1 H1 v w s1 r1 rv q => ?_
  obtain ⟨b1, e, q⟩ := onB_bl q
  subst e
  cases rv
  refine ⟨b1, rfl, ?_⟩
  cases b1 with
  | true => exact iteT (c V1 os1 H1 _ _ s1 r1 rwB (q.2 rfl))
  | false => exact iteF (h2 _ _ _ _ (q.1 rfl) F V1 H1 σ Q W r1 (sr.mono s1) (ek.mono s1) fun V2 os2 H2 z w s2 r2 rz q2 => c V2 os2 H2 z w (s1.trans s2) r2 rz q2)
theorem cm_not (h : Cm X a ta) : Cm X (.UnaryOp .Not a pos) (eNot ta) := by
  intro kx env os k q F V0 H σ Q W r sr ek c
  refine wE_of (pe_not wE_pe) ?_
  refine h _ _ _ _ q F V0 H σ _ W r sr ek fun V1 os1 H1 v w s1 r1 rv q => ?_
  obtain ⟨b1, e, q⟩ := onB_bl q
  subst e
  cases rv
  exact ⟨b1, rfl, c V1 os1 H1 _ _ s1 r1 rwB q⟩
def eIf (t : TrT) (ta tb : TrE) : TrE := fun kx env os k => t kx env os fun b1 os1 => (b1 = true → ta kx env os1 k) ∧ (b1 = false → tb kx env os1 k)
theorem cm_if (h : CmT X c tc) (h1 : Cm X a ta) (h2 : Cm X b tb) : Cm X (.IfExp c a b pos) (eIf tc ta tb) := by
  intro kx env os k q F V0 H σ Q W r sr ek cc
  refine wE_of (pe_ifExp wTt_pt wE_pe wE_pe) ?_
  refine h _ _ _ _ q F V0 H σ _ W r sr ek fun V1 os1 H1 b1 s1 r1 q => ?_
  cases b1 with
  | true => exact iteT (h1 _ _ _ _ (q.1 rfl) F V1 H1 σ Q W r1 (sr.mono s1) (ek.mono s1) fun V2 os2 H2 z w s2 r2 rz q2 => cc V2 os2 H2 z w (s1.trans s2) r2 rz q2)
  | false => exact iteF (h2 _ _ _ _ (q.2 rfl) F V1 H1 σ Q W r1 (sr.mono s1) (ek.mono s1) fun V2 os2 H2 z w s2 r2 rz q2 => cc V2 os2 H2 z w (s1.trans s2) r2 rz q2)
/-- a test as a value: a bool -/
def eNeg (ta : TrE) : TrE := fun kx env os k => ta kx env os fun w os1 => match w with
  | .int i => k (.int (-i)) os1
  | _ => False
theorem cm_neg (h : Cm X a ta) : Cm X (.UnaryOp .USub a pos) (eNeg ta) := by
  intro kx env os k q F V0 H σ Q W r sr ek c
  refine wE_of (pe_un un_neg wE_pe) ?_
  refine h _ _ _ _ q F V0 H σ _ W r sr ek fun V1 os1 H1 v x s1 r1 rx q => ?_
  split at q
  · cases rx
    exact ⟨_, rfl, c V1 os1 H1 _ _ s1 r1 rwI q⟩
  · exact q.elim

/-! ### arguments, displays -/
variable {es : List Expr} {n : Nat} {tl : TrA}
def aN : TrA := fun _ _ os k => k [] os
def aC (t : TrE) (ts : TrA) : TrA := fun kx env os k => t kx env os fun w os1 => ts kx env os1 fun ws os2 => k (w :: ws) os2
theorem ca_nil : CmA X [] aN 0 := ⟨rfl, fun kx env os kl q F V0 H σ Q W r sr ek c => wA_of pa_nil (c V0 os H [] [] (Same.refl _) r .nil ⟨rfl, q⟩)⟩
theorem ca_cons (h : Cm X e te) (h2 : CmA X es tl n) (hs : starEach (e :: es) X.env = (false, eval e X.env) :: starEach es X.env) : CmA X (e :: es) (aC te tl) (n + 1) := by
  refine ⟨congrArg (· + 1) h2.1, ?_⟩
  intro kx env os kl q F V0 H σ Q W r sr ek c
  refine wA_of (pa_cons wE_pe wA_pa hs) ?_
  refine h _ _ _ _ q F V0 H σ _ W r sr ek fun V1 os1 H1 v w s1 r1 rv q => ?_
  exact h2.2 _ _ _ _ q F V1 H1 σ _ W r1 (sr.mono s1) (ek.mono s1) fun V2 os2 H2 vs ws s2 r2 rs ⟨hl, q2⟩ => c V2 os2 H2 (v :: vs) (w :: ws) (s1.trans s2) r2 (.cons (rv.mono s2) rs) ⟨congrArg (· + 1) hl, q2⟩
def eTup (tl : TrA) : TrE := fun kx env os k => tl kx env os fun ws os1 => k (.tup ws) os1
def eLst (tl : TrA) : TrE := fun kx env os k => tl kx env os fun ws os1 => k (.lst ws) os1
def eLstO (tl : TrA) : TrE := fun kx env os k => tl kx env os fun ws os1 => ∀ p, k (.ref p) ((p, .lst ws) :: os1)
theorem cm_tup {x1} (h : CmA X es tl n) (hn : n ≤ 1000) : Cm X (.Tuple es x1 pos) (eTup tl) := by
  intro kx env os k q F V0 H σ Q W r sr ek c
  refine wE_of (pe_tup wA_pa) ?_
  refine h.2 _ _ _ _ q F V0 H σ _ W r sr ek fun V1 os1 H1 vs ws s1 r1 rs ⟨hl, q⟩ => ?_
  refine ⟨by rw [rs.length, hl]; exact Nat.le_of_lt (small1000 hn), fun p hp => ?_⟩
  obtain ⟨s2, r2, rp⟩ := rel_newT r1 hp rs
  exact c _ os1 _ _ (.tup ws) (s1.trans s2) r2 rp q
theorem cm_lst (h : CmA X es tl n) (hn : n ≤ 1000) : Cm X (.List es pos) (eLst tl) := by
  intro kx env os k q F V0 H σ Q W r sr ek c
  refine wE_of (pe_lst wA_pa) ?_
  refine h.2 _ _ _ _ q F V0 H σ _ W r sr ek fun V1 os1 H1 vs ws s1 r1 rs ⟨hl, q⟩ => ?_
  refine ⟨by rw [rs.length, hl]; exact Nat.le_of_lt (small1000 hn), fun p hp => ?_⟩
  obtain ⟨s2, r2, rp⟩ := rel_newL r1 hp rs
  exact c _ os1 _ _ (.lst ws) (s1.trans s2) r2 rp q
theorem cm_lstO (h : CmA X es tl n) (hn : n ≤ 1000) : Cm X (.List es pos) (eLstO tl) := by
  intro kx env os k q F V0 H σ Q W r sr ek c
  refine wE_of (pe_lst wA_pa) ?_
  refine h.2 _ _ _ _ q F V0 H σ _ W r sr ek fun V1 os1 H1 vs ws s1 r1 rs ⟨hl, q⟩ => ?_
  refine ⟨by rw [rs.length, hl]; exact Nat.le_of_lt (small1000 hn), fun p hp => ?_⟩
  exact c V1 _ _ _ (.ref p) s1 (r1.addO hp (oo := .lst ws) ⟨vs, rfl, rs⟩) (.ref p) (q p)
/-- an owned list becomes data -/
def frzK (w : D) (os : Os) (k : D → Os → Prop) : Prop := match w with
  | .ref a => ∃ (n : Nat) (ds : List D), os[n]? = some (a, OO.lst ds) ∧ k (.lst ds) (os.eraseIdx n)
  | w => k w os
def eFrz (t : TrE) : TrE := fun kx env os k => t kx env os fun w os1 => frzK w os1 k
theorem frzK_of {K : PySem.W.Frag} {F V0 H : Hp} {v : V} {w : D} (r : Rel K F V0 os H) (rv : Rp K V0 v w) (h : frzK w os k) : ∃ V1 os1 w1, Same V0 V1 ∧ Rel K F V1 os1 H ∧ Rp K V1 v w1 ∧ k w1 os1 := by
  unfold frzK at h
  split at h
  · obtain ⟨n, ds, ho, q⟩ := h
    obtain rfl := rv.toRef
    obtain ⟨V1, s1, r1, rp⟩ := r.freeze ho
    exact ⟨V1, _, _, s1, r1, rp, q⟩
  · exact ⟨V0, os, w, Same.refl _, r, rv, h⟩
theorem cm_frz (h : Cm X e te) : Cm X e (eFrz te) := by
  intro kx env os k q F V0 H σ Q W r sr ek c
  refine h _ _ _ _ q F V0 H σ _ W r sr ek fun V1 os1 H1 v w s1 r1 rv q => ?_
  obtain ⟨V2, os2, w2, s2, r2, rp, q2⟩ := frzK_of r1 rv q
  exact c V2 os2 H1 v w2 (s1.trans s2) r2 rp q2

/-! ### subscripts -/
@[irreducible] def wIx (X : Cx) : R2 := fun x y H Q => ∀ (value slice : Expr) (pins : List (Addr × Obj)) (s : Shared) (σ : L2.St) (v u : Value), Inv X pins σ H s → RelV x v → RelV y u →
  subscripted slice false v u = operate [v, u] (getItem v u) → wpAny (model X.prog X.w) X.A (subscriptTail value slice v u) (EP X pins σ Q) X.xe s
theorem wIx_ix : IxR X (wIx X) := by unfold wIx; exact fun value slice pins s σ _ _ _ v u _ I rx ry h hs => h value slice pins s σ v u I rx ry hs
theorem wIx_of {r : R2} (h : IxR X r) {x y : V} {H : Hp} {Q : VK} (q : r x y H Q) : wIx X x y H Q := by unfold wIx; exact fun value slice pins s σ v u I rx ry hs => h value slice pins s σ H x y v u Q I rx ry q hs
theorem atI_map {α β : Type} {xs : List α} {ys : List β} (hl : xs.length = ys.length) {i : Int} {y : β} (h : atI ys i = some y) : ∃ j, ixN xs.length i = some j ∧ ys[j]? = some y := by
  unfold atI at h
  rw [← hl] at h
  cases e : ixN xs.length i with
  | none => rw [e] at h; cases h
  | some j => rw [e] at h; exact ⟨j, rfl, h⟩
theorem atI_of {α : Type} {xs : List α} {i : Int} {j : Nat} {x : α} (h1 : ixN xs.length i = some j) (h2 : xs[j]? = some x) : atI xs i = some x := by
  unfold atI
  rw [h1]; exact h2
/-- w[i] -/
def oIx : TrO := fun x y os k => match y with
  | .int i => (match x with
    | .lst ds => ∃ d, atI ds i = some d ∧ k d os
    | .tup ds => ∃ d, atI ds i = some d ∧ k d os
    | .ref p => ∃ (n : Nat) (ws : List D) (w : D), os[n]? = some (p, .lst ws) ∧ atI ws i = some w ∧ k w os
    | .str x => x.length ≤ sizeLine ∧ ∃ n, atI x.cps.toList i = some n ∧ k (.str ⟨#[n]⟩) os
    | _ => False)
  | _ => False
def eIx (o : TrO) (ta tb : TrE) : TrE := fun kx env os k => ta kx env os fun x os1 => tb kx env os1 fun y os2 => o x y os2 k
def CmIx (X : Cx) (o : TrO) : Prop := ∀ x y os k, o x y os k → ∀ (F V0 H : Hp) (v u : V) (Q : VK), Rel X.K F V0 os H → Rp X.K V0 v x → Rp X.K V0 u y →
    (∀ (V1 : Hp) (os1 : Os) (H1 : Hp) (z : V) (w : D), Same V0 V1 → Rel X.K F V1 os1 H1 → Rp X.K V1 z w → k w os1 → Q z H1) → wIx X v u H Q
theorem cmi_ix : CmIx X oIx := by
  intro x y os k h F V0 H v u Q r rx ry c
  unfold oIx at h
  split at h
  · split at h
    · obtain ⟨d, h, q⟩ := h
      obtain ⟨p, xs, rfl, h1, h2⟩ := rp_lst rx
      cases ry
      obtain ⟨j, e1, e2⟩ := atI_map h2.length h
      obtain ⟨z, e3, rz⟩ := h2.get e2
      exact wIx_of ix_list ⟨p, xs, _, z, rfl, rfl, r.vi.seq h1, atI_of e1 e3, c V0 os H z d (Same.refl _) r rz q⟩
    · obtain ⟨d, h, q⟩ := h
      obtain ⟨p, xs, rfl, h1, h2⟩ := rp_tup rx
      cases ry
      obtain ⟨j, e1, e2⟩ := atI_map h2.length h
      obtain ⟨z, e3, rz⟩ := h2.get e2
      exact wIx_of ix_tup ⟨p, xs, _, z, rfl, rfl, same_sqT r.vi h1, atI_of e1 e3, c V0 os H z d (Same.refl _) r rz q⟩
    · obtain ⟨n, ws, w, ho, h, q⟩ := h
      obtain rfl := rx.toRef
      cases ry
      obtain ⟨_, _, ho', h3, vs, rfl, h4⟩ := r.own _ (List.mem_of_getElem? ho)
      obtain ⟨j, e1, e2⟩ := atI_map h4.length h
      obtain ⟨z, e3, rz⟩ := h4.get e2
      exact wIx_of ix_list ⟨_, vs, _, z, rfl, rfl, SqL.of h3, atI_of e1 e3, c V0 os H z w (Same.refl _) r rz q⟩
    · obtain ⟨hx, n, h, q⟩ := h
      cases rx; cases ry
      exact wIx_of ix_str ⟨_, _, n, rfl, rfl, hx, h, c V0 os H _ _ (Same.refl _) r rwS q⟩
    · exact h.elim
  · exact h.elim
theorem cm_ix {o : TrO} (ho : CmIx X o) (ha : Cm X a ta) (hb : Cm X b tb) (hs : PlainIx b) : Cm X (.Subscript a b pos) (eIx o ta tb) := by
  intro kx env os k h F V0 H σ Q W r sr ek c
  refine wE_of (pe_ix (r := wIx X) wIx_ix wE_pe wE_pe hs) ?_
  refine ha _ _ _ _ h F V0 H σ _ W r sr ek fun V1 os1 H1 v x s1 r1 rx hx => ?_
  refine hb _ _ _ _ hx F V1 H1 σ _ W r1 (sr.mono s1) (ek.mono s1) fun V2 os2 H2 u y s2 r2 ry hy => ?_
  exact ho _ _ _ _ hy F V2 H2 v u Q r2 (rx.mono s2) ry fun V3 os3 H3 z w s3 r3 rw' q => c V3 os3 H3 z w ((s1.trans s2).trans s3) r3 rw' q

/-! ### slices -/
def cutA {α : Type} (xs : List α) (lo hi : Option Int) : List α := (xs.drop (HT.sIx xs.length 0 lo)).take (HT.sIx xs.length xs.length hi - HT.sIx xs.length 0 lo)
@[irreducible] def wPO (X : Cx) (e : Option Expr) : TO := fun σ H Q => ∀ (pins : List (Addr × Obj)) (s : Shared), Inv X pins σ H s → wpAny (model X.prog X.w) X.A (evalPart e X.env) (fun u s' => ∃ o H', Inv X pins σ H' s' ∧ IsPart u o ∧ Q o H') X.xe s
theorem wPO_po {e : Option Expr} : PO X e (wPO X e) := by unfold wPO; exact ⟨fun pins s _ _ _ I h => h pins s I⟩
theorem wPO_of {e : Option Expr} {t : TO} (h : PO X e t) {σ : L2.St} {H : Hp} {Q : Option Int → Hp → Prop} (q : t σ H Q) : wPO X e σ H Q := by unfold wPO; exact fun pins s I => h.run pins s σ H Q I q
abbrev TrPO := Kx → DEnv → Os → (Option Int → Os → Prop) → Prop
def CmPO (X : Cx) (e : Option Expr) (t : TrPO) : Prop := ∀ kx env os ko, t kx env os ko → ∀ (F V0 H : Hp) (σ : L2.St) (Q : Option Int → Hp → Prop) (W : WX), Rel X.K F V0 os H → SR X.K V0 σ env → XkOk X F V0 σ kx W →
    (∀ (V1 : Hp) (os1 : Os) (H1 : Hp) (o : Option Int), Same V0 V1 → Rel X.K F V1 os1 H1 → ko o os1 → Q o H1) → wPO X e σ H Q
def pN : TrPO := fun _ _ os k => k none os
def pS (t : TrE) : TrPO := fun kx env os k => t kx env os fun w os1 => match w with
  | .int i => k (some i) os1
  | _ => False
theorem cp_none : CmPO X none pN := fun kx env os ko q F V0 H σ Q W r sr ek c => wPO_of po_none (c V0 os H none (Same.refl _) r q)
theorem cp_some (h : Cm X e te) : CmPO X (some e) (pS te) := by
  intro kx env os ko q F V0 H σ Q W r sr ek c
  refine wPO_of (po_some wE_pe) ?_
  refine h _ _ _ _ q F V0 H σ _ W r sr ek fun V1 os1 H1 v w s1 r1 rv q => ?_
  split at q
  · cases rv
    exact ⟨_, rfl, c V1 os1 H1 _ s1 r1 q⟩
  · exact q.elim
/-- what a slice of a value gives -/
def slW (w : D) (os : Os) (lo hi : Option Int) (k : D → Os → Prop) : Prop := match w with
  | .lst ds => k (.lst (cutA ds lo hi)) os
  | .tup ds => (cutA ds lo hi).length < ds.length ∧ k (.tup (cutA ds lo hi)) os
  | .str x => x.length ≤ sizeLine ∧ k (.str (cutS x lo hi)) os
  | .ref p => ∃ (n : Nat) (ds : List D), os[n]? = some (p, OO.lst ds) ∧ k (.lst (cutA ds lo hi)) os
  | _ => False
def slO (w : D) (os : Os) (lo hi : Option Int) (k : D → Os → Prop) : Prop := ∃ ds, LstOf os w ds ∧ ∀ p, k (.ref p) ((p, .lst (cutA ds lo hi)) :: os)
theorem RpA.cut {K : PySem.W.Frag} {H : Hp} {vs : List V} {ds : List D} (h : RpA K H vs ds) (lo hi : Option Int) : RpA K H (cutV vs lo hi) (cutA ds lo hi) := by
  unfold cutV cutA
  rw [h.length]
  exact (h.drop _).take _
variable {lo hi : Option Expr} {p2 : Pos} {tlo thi : TrPO}
theorem cut_len {α : Type} (xs : List α) (lo hi : Option Int) : (cutA xs lo hi).length ≤ xs.length := by
  unfold cutA
  rw [List.length_take, List.length_drop]
  omega
def wSl (X : Cx) : V → Option Int → Option Int → Hp → VK → Prop := fun x l u H Q => rSlL X.K x l u H Q ∨ rSlT X.K x l u H Q ∨ rSlS x l u H Q
theorem wSl_sl : SlR X (wSl X) := sl_list.or (sl_tup.or sl_str)
def eSl (t : TrE) (tlo thi : TrPO) : TrE := fun kx env os k => t kx env os fun w os1 => tlo kx env os1 fun l os2 => thi kx env os2 fun u os3 => slW w os3 l u k
def eSlO (t : TrE) (tlo thi : TrPO) : TrE := fun kx env os k => t kx env os fun w os1 => tlo kx env os1 fun l os2 => thi kx env os2 fun u os3 => slO w os3 l u k
theorem slW_of {F V0 H : Hp} {v : V} {w : D} {l u : Option Int} {Q : VK} (r3 : Rel X.K F V0 os H) (rv3 : Rp X.K V0 v w) (q : slW w os l u k)
    (c : ∀ (V1 : Hp) (os1 : Os) (H1 : Hp) (v : V) (w : D), Same V0 V1 → Rel X.K F V1 os1 H1 → Rp X.K V1 v w → k w os1 → Q v H1) : wSl X v l u H Q := by
  unfold slW at q
  split at q
  · rename_i ds
    obtain ⟨p, xs, rfl, h1, h2⟩ := rp_lst rv3
    refine .inl ⟨p, xs, rfl, r3.vi.seq h1, fun p' hp' => ?_⟩
    obtain ⟨s4, r4, rp⟩ := rel_newL r3 hp' (h2.cut l u)
    exact c _ os _ _ (.lst _) s4 r4 rp q
  · rename_i ds
    obtain ⟨hlt, q⟩ := q
    obtain ⟨p, xs, rfl, h1, h2⟩ := rp_tup rv3
    have hl : (cutV xs l u).length < xs.length := by
      rw [(h2.cut l u).length, h2.length]; exact hlt
    refine .inr (.inl ⟨p, xs, rfl, same_sqT r3.vi h1, ?_⟩)
    first
      | (refine ⟨hl, fun p' hp' => ?_⟩
         obtain ⟨s4, r4, rp⟩ := rel_newT r3 hp' (h2.cut l u)
         exact c _ os _ _ (.tup _) s4 r4 rp q)
      | (refine ⟨fun e => ?_, fun p' hp' => ?_⟩
         · exact absurd hl (by unfold cutV; simp_all)
         · obtain ⟨s4, r4, rp⟩ := rel_newT r3 hp' (h2.cut l u)
           exact c _ os _ _ (.tup _) s4 r4 rp q)
      | skip
  · obtain ⟨hl, q⟩ := q
    cases rv3
    exact .inr (.inr ⟨_, rfl, hl, c V0 os H _ _ (Same.refl _) r3 rwS q⟩)
  · obtain ⟨n, ds, ho, q⟩ := q
    obtain rfl := rv3.toRef
    obtain ⟨_, _, ho', h3, vs, rfl, h4⟩ := r3.own _ (List.mem_of_getElem? ho)
    refine .inl ⟨_, vs, rfl, SqL.of h3, fun p' hp' => ?_⟩
    obtain ⟨s4, r4, rp⟩ := rel_newL r3 hp' (h4.cut l u)
    exact c _ os _ _ (.lst _) s4 r4 rp q
  · exact q.elim
theorem cm_sl (h : Cm X e te) (hlo : CmPO X lo tlo) (hhi : CmPO X hi thi) : Cm X (.Subscript e (.Slice lo hi none p2) pos) (eSl te tlo thi) := by
  intro kx env os k q F V0 H σ Q W r sr ek c
  refine wE_of (pe_slice (r := wSl X) wSl_sl wE_pe wPO_po wPO_po) ?_
  refine h _ _ _ _ q F V0 H σ _ W r sr ek fun V1 os1 H1 v w s1 r1 rv q => ?_
  refine hlo _ _ _ _ q F V1 H1 σ _ W r1 (sr.mono s1) (ek.mono s1) fun V2 os2 H2 l s2 r2 q => ?_
  refine hhi _ _ _ _ q F V2 H2 σ _ W r2 (sr.mono (s1.trans s2)) (ek.mono (s1.trans s2)) fun V3 os3 H3 u s3 r3 q => ?_
  exact slW_of r3 (rv.mono (s2.trans s3)) q fun V4 os4 H4 v4 w4 s4 r4 rp q => c V4 os4 H4 v4 w4 (((s1.trans s2).trans s3).trans s4) r4 rp q
theorem cm_slO (h : Cm X e te) (hlo : CmPO X lo tlo) (hhi : CmPO X hi thi) : Cm X (.Subscript e (.Slice lo hi none p2) pos) (eSlO te tlo thi) := by
  intro kx env os k q F V0 H σ Q W r sr ek c
  refine wE_of (pe_slice (r := wSl X) wSl_sl wE_pe wPO_po wPO_po) ?_
  refine h _ _ _ _ q F V0 H σ _ W r sr ek fun V1 os1 H1 v w s1 r1 rv q => ?_
  refine hlo _ _ _ _ q F V1 H1 σ _ W r1 (sr.mono s1) (ek.mono s1) fun V2 os2 H2 l s2 r2 q => ?_
  refine hhi _ _ _ _ q F V2 H2 σ _ W r2 (sr.mono (s1.trans s2)) (ek.mono (s1.trans s2)) fun V3 os3 H3 u s3 r3 q => ?_
  obtain ⟨ds, hl, q⟩ := q
  obtain ⟨a, vs, rfl, h1, ra⟩ := lstOf_of r3 (rv.mono (s2.trans s3)) hl
  refine .inl ⟨a, vs, rfl, h1, fun p' hp' => ?_⟩
  exact c V3 _ _ _ (.ref p') ((s1.trans s2).trans s3) (r3.addO hp' (oo := .lst (cutA ds l u)) ⟨_, rfl, ra.cut l u⟩) (.ref p') (q p')
end
end EV

set_option Elab.async false
set_option linter.all false
set_option maxRecDepth 100000
/-! E4: calls of built-ins, methods of lists, statements, loops. -/
namespace EV
open PySem PySem.Spec PyProof.Rows L2

/-! ### calls of built-ins -/
/-- a call of a known built-in by values -/
def JC (X : Cx) (f : Value) (ws : List D) (os : Os) (k : D → Os → Prop) : Prop :=
  ∀ (F V0 H : Hp) (vs : List V) (Q : VK), Rel X.K F V0 os H → RpA X.K V0 vs ws →
    (∀ (V1 : Hp) (os1 : Os) (H1 : Hp) (z : V) (w : D), Same V0 V1 → Rel X.K F V1 os1 H1 → Rp X.K V1 z w → k w os1 → Q z H1) →
    ∀ (pins : List (Addr × Obj)) (s : Shared) (σ : L2.St) (us : List Value), Inv X pins σ H s → Vals vs us → wpAny (model X.prog X.w) X.A (call f us) (EP X pins σ Q) X.xe s
abbrev TrC := List D → Os → (D → Os → Prop) → Prop
def CmC (X : Cx) (f : Value) (c : TrC) : Prop := ∀ ws os k, c ws os k → JC X f ws os k
theorem JC.mk {X : Cx} {os : Os} {k : D → Os → Prop} {f : Value} {r : List V → Hp → VK → Prop} {ws : List D} (hf : CallR X f r)
    (h : ∀ (F V0 H : Hp) (vs : List V) (Q : VK), Rel X.K F V0 os H → RpA X.K V0 vs ws →
      (∀ (V1 : Hp) (os1 : Os) (H1 : Hp) (z : V) (w : D), Same V0 V1 → Rel X.K F V1 os1 H1 → Rp X.K V1 z w → k w os1 → Q z H1) → r vs H Q) : JC X f ws os k :=
  fun F V0 H vs Q r1 rs c pins s σ us I rv => hf pins s σ H vs us Q I rv (h F V0 H vs Q r1 rs c)
def eCB (c : TrC) (tl : TrA) : TrE := fun kx env os k => tl kx env os fun ws os1 => c ws os1 k
section
variable {X : Cx} {os : Os} {k : D → Os → Prop} {env : DEnv} {pos p : Pos} {a b e : Expr} {es : List Expr} {x : Str} {tl : TrA} {n : Nat} {te : TrE}
theorem cm_callB {id : String} {c : TrC} (hc : CmC X (.builtin id) c) (hv : bootBuiltins x = some (.builtin id)) (hm : X.mg x = none) (hg : Gl X x) (h : CmA X (e :: es) tl n) (hn : x ≠ "__name__") (hdb : (x == ("__debug__" : Str)) = false)
    (he : starEach (e :: es) X.env = (false, eval e X.env) :: starEach es X.env) (hpl : (backTo pos (starEach es X.env)).any (·.1) = false) : Cm X (.Call (.Name x p) (e :: es) [] pos) (eCB c tl) := by
  intro kx env os k q F V0 H σ Q W r sr ek cc
  refine wE_of (pe_callB (id := id) (r := fun vs H Q => ∀ (pins : List (Addr × Obj)) (s : Shared) (σ : L2.St) (us : List Value), Inv X pins σ H s → Vals vs us → wpAny (model X.prog X.w) X.A (call (.builtin id) us) (EP X pins σ Q) X.xe s)
    (fun pins s σ H vs us Q I rv h => h pins s σ us I rv) hg hm hv wA_pa hn hdb he hpl) ?_
  refine h.2 _ _ _ _ q F V0 H σ _ W r sr ek fun V1 os1 H1 vs ws s1 r1 rs ⟨_, q⟩ => ?_
  exact hc _ _ _ q F V1 H1 vs Q r1 rs fun V2 os2 H2 z w s2 r2 rz q2 => cc V2 os2 H2 z w (s1.trans s2) r2 rz q2
theorem cm_callTy {id : String} {c : TrC} (hc : CmC X (.type id) c) (hv : bootBuiltins x = some (.type id)) (hm : X.mg x = none) (hg : Gl X x) (h : CmA X (e :: es) tl n) (hn : x ≠ "__name__") (hdb : (x == ("__debug__" : Str)) = false)
    (he : starEach (e :: es) X.env = (false, eval e X.env) :: starEach es X.env) (hpl : (backTo pos (starEach es X.env)).any (·.1) = false) : Cm X (.Call (.Name x p) (e :: es) [] pos) (eCB c tl) := by
  intro kx env os k q F V0 H σ Q W r sr ek cc
  refine wE_of (pe_callTy (T := id) (r := fun vs H Q => ∀ (pins : List (Addr × Obj)) (s : Shared) (σ : L2.St) (us : List Value), Inv X pins σ H s → Vals vs us → wpAny (model X.prog X.w) X.A (call (.type id) us) (EP X pins σ Q) X.xe s)
    (fun pins s σ H vs us Q I rv h => h pins s σ us I rv) hg hm hv wA_pa hn hdb he hpl) ?_
  refine h.2 _ _ _ _ q F V0 H σ _ W r sr ek fun V1 os1 H1 vs ws s1 r1 rs ⟨_, q⟩ => ?_
  exact hc _ _ _ q F V1 H1 vs Q r1 rs fun V2 os2 H2 z w s2 r2 rz q2 => cc V2 os2 H2 z w (s1.trans s2) r2 rz q2
/-- len -/
def lenK (w : D) (os : Os) (k : D → Os → Prop) : Prop := match w with
  | .lst ds => k (.int ds.length) os
  | .tup ds => k (.int ds.length) os
  | .str x => x.length ≤ sizeLine ∧ k (.int x.length) os
  | .ref p => ∃ (n : Nat) (ws : List D), os[n]? = some (p, .lst ws) ∧ k (.int ws.length) os
  | _ => False
def cLen : TrC := fun ws os k => match ws with
  | [w] => lenK w os k
  | _ => False
theorem cmc_len : CmC X (.builtin "len") cLen := by
  intro ws os k h
  unfold cLen at h
  split at h
  · refine JC.mk call_len fun F V0 H vs Q r rs c => ?_
    obtain ⟨v, rfl, rv⟩ := rs.one
    unfold lenK at h
    split at h
    · obtain ⟨p, xs, rfl, h1, h2⟩ := rp_lst rv
      exact ⟨_, _, rfl, .inl ⟨xs, r.vi.seq h1, h2.length.symm⟩, c V0 os H _ _ (Same.refl _) r rwI h⟩
    · obtain ⟨p, xs, rfl, h1, h2⟩ := rp_tup rv
      exact ⟨_, _, rfl, .inr ⟨xs, same_sqT r.vi h1, h2.length.symm⟩, c V0 os H _ _ (Same.refl _) r rwI h⟩
    · cases rv
      exact ⟨_, _, rfl, ⟨h.1, rfl⟩, c V0 os H _ _ (Same.refl _) r rwI h.2⟩
    · obtain ⟨n, ws, ho, q⟩ := h
      obtain rfl := rv.toRef
      obtain ⟨_, _, ho', h3, vs, rfl, h4⟩ := r.own _ (List.mem_of_getElem? ho)
      exact ⟨_, _, rfl, .inl ⟨vs, SqL.of h3, h4.length.symm⟩, c V0 os H _ _ (Same.refl _) r rwI q⟩
    · exact h.elim
  · exact h.elim
def cInt : TrC := fun ws os k => match ws with
  | [.int i] => k (.int i) os
  | [.bl b] => k (.int (if b then 1 else 0)) os
  | _ => False
theorem cmc_int : CmC X (.type "int") cInt := by
  intro ws os k h
  unfold cInt at h
  split at h
  · exact JC.mk call_int1 fun F V0 H vs Q r rs c => by
      obtain ⟨v, rfl, rv⟩ := rs.one
      cases rv
      exact .inl ⟨_, rfl, c V0 os H _ _ (Same.refl _) r rwI h⟩
  · exact JC.mk call_int1 fun F V0 H vs Q r rs c => by
      obtain ⟨v, rfl, rv⟩ := rs.one
      cases rv
      exact .inr ⟨_, rfl, c V0 os H _ _ (Same.refl _) r rwI h⟩
  · exact h.elim
def cAbs : TrC := fun ws os k => match ws with
  | [.int i] => k (.int (if i < 0 then -i else i)) os
  | _ => False
theorem cmc_abs : CmC X (.builtin "abs") cAbs := by
  intro ws os k h
  unfold cAbs at h
  split at h
  · exact JC.mk call_abs fun F V0 H vs Q r rs c => by
      obtain ⟨v, rfl, rv⟩ := rs.one
      cases rv
      exact ⟨_, rfl, c V0 os H _ _ (Same.refl _) r rwI h⟩
  · exact h.elim
def cStrI : TrC := fun ws os k => match ws with
  | [.int i] => i.natAbs.log2 < 1920 ∧ k (.str (toString i)) os
  | _ => False
theorem cmc_strI : CmC X (.type "str") cStrI := by
  intro ws os k h
  unfold cStrI at h
  split at h
  · exact JC.mk call_str_int fun F V0 H vs Q r rs c => by
      obtain ⟨v, rfl, rv⟩ := rs.one
      cases rv
      exact ⟨_, rfl, h.1, c V0 os H _ _ (Same.refl _) r rwS h.2⟩
  · exact h.elim
theorem rpA_int {K : PySem.W.Frag} {H : Hp} : ∀ {ns : List Int} {vs : List V}, RpA K H vs (ns.map D.int) → vs = ns.map V.int
  | [], _, h => by cases h; rfl
  | n :: ns, _, h => by
    cases h with
    | cons a b => cases a; rw [rpA_int b]; rfl
theorem rpA_ints {K : PySem.W.Frag} {H : Hp} : ∀ ns : List Int, RpA K H (ns.map V.int) (ns.map D.int)
  | [] => .nil
  | n :: ns => .cons (.int n) (rpA_ints ns)
/-- max, min: of two ints, of a list of ints -/
def cMax : TrC := fun ws os k => match ws with
  | [.int i, .int j] => k (.int (if j > i then j else i)) os
  | [w] => ∃ ns : List Int, LstOf os w (ns.map D.int) ∧ 0 < ns.length ∧ ∀ m, m ∈ ns → (∀ y, y ∈ ns → y ≤ m) → k (.int m) os
  | _ => False
def cMin : TrC := fun ws os k => match ws with
  | [.int i, .int j] => k (.int (if j < i then j else i)) os
  | [w] => ∃ ns : List Int, LstOf os w (ns.map D.int) ∧ 0 < ns.length ∧ ∀ m, m ∈ ns → (∀ y, y ∈ ns → m ≤ y) → k (.int m) os
  | _ => False
theorem cmc_max (hc : X.calm = true) : CmC X (.builtin "max") cMax := by
  intro ws os k h
  unfold cMax at h
  split at h
  · exact JC.mk (call_max2 hc) fun F V0 H vs Q r rs c => by
      obtain ⟨v, v2, rfl, rv, rv2⟩ := rs.two
      cases rv; cases rv2
      exact ⟨_, _, rfl, c V0 os H _ _ (Same.refl _) r rwI h⟩
  · obtain ⟨ns, h1, hn, q⟩ := h
    exact JC.mk (cr_max hc) fun F V0 H vs Q r rs c => by
      obtain ⟨v, rfl, rv⟩ := rs.one
      obtain ⟨a, xs, rfl, hs, ra⟩ := lstOf_of r rv h1
      have e := rpA_int ra
      subst e
      exact ⟨a, ns, rfl, hs, hn, fun m h1 h2 => c V0 os H _ _ (Same.refl _) r rwI (q m h1 h2)⟩
  · exact h.elim
theorem cmc_min (hc : X.calm = true) : CmC X (.builtin "min") cMin := by
  intro ws os k h
  unfold cMin at h
  split at h
  · exact JC.mk (call_min2 hc) fun F V0 H vs Q r rs c => by
      obtain ⟨v, v2, rfl, rv, rv2⟩ := rs.two
      cases rv; cases rv2
      exact ⟨_, _, rfl, c V0 os H _ _ (Same.refl _) r rwI h⟩
  · obtain ⟨ns, h1, hn, q⟩ := h
    exact JC.mk (cr_min hc) fun F V0 H vs Q r rs c => by
      obtain ⟨v, rfl, rv⟩ := rs.one
      obtain ⟨a, xs, rfl, hs, ra⟩ := lstOf_of r rv h1
      have e := rpA_int ra
      subst e
      exact ⟨a, ns, rfl, hs, hn, fun m h1 h2 => c V0 os H _ _ (Same.refl _) r rwI (q m h1 h2)⟩
  · exact h.elim
def cSum : TrC := fun ws os k => match ws with
  | [w] => ∃ ns : List Int, LstOf os w (ns.map D.int) ∧ k (.int ns.sum) os
  | _ => False
theorem cmc_sum (hc : X.calm = true) : CmC X (.builtin "sum") cSum := by
  intro ws os k h
  unfold cSum at h
  split at h
  · obtain ⟨ns, h1, q⟩ := h
    exact JC.mk (cr_sum hc) fun F V0 H vs Q r rs c => by
      obtain ⟨v, rfl, rv⟩ := rs.one
      obtain ⟨a, xs, rfl, hs, ra⟩ := lstOf_of r rv h1
      have e := rpA_int ra
      subst e
      exact ⟨a, ns, rfl, hs, c V0 os H _ _ (Same.refl _) r rwI q⟩
  · exact h.elim
/-- sorted of ints -/
def cSortI : TrC := fun ws os k => match ws with
  | [w] => ∃ ns : List Int, LstOf os w (ns.map D.int) ∧ ∀ ms : List Int, ms.Perm ns → ms.Pairwise (· ≤ ·) → k (.lst (ms.map D.int)) os
  | _ => False
theorem cmc_sortI : CmC X (.builtin "sorted") cSortI := by
  intro ws os k h
  unfold cSortI at h
  split at h
  · obtain ⟨ns, h1, q⟩ := h
    exact JC.mk cr_sortedI fun F V0 H vs Q r rs c => by
      obtain ⟨v, rfl, rv⟩ := rs.one
      obtain ⟨a, xs, rfl, hs, ra⟩ := lstOf_of r rv h1
      have e := rpA_int ra
      subst e
      refine ⟨a, ns, rfl, hs, fun ms p h1 h2 hp => ?_⟩
      obtain ⟨s2, r2, rp⟩ := rel_newL r hp (rpA_ints (K := X.K) (H := V0) ms)
      exact c _ os _ _ (.lst (ms.map D.int)) s2 r2 rp (q ms h1 h2)
  · exact h.elim
/-- list(x) -/
def seqK (w : D) (os : Os) (k : List D → Prop) : Prop := match w with
  | .lst ds => k ds
  | .tup ds => k ds
  | .ref p => ∃ (n : Nat) (ws : List D), os[n]? = some (p, .lst ws) ∧ k ws
  | _ => False
theorem seqK_of {w : D} {kk : List D → Prop} (h : seqK w os kk) : ∃ ds, SeqOf os w ds ∧ kk ds := by
  unfold seqK at h
  split at h
  · exact ⟨_, rfl, h⟩
  · exact ⟨_, rfl, h⟩
  · obtain ⟨n, ws, ho, q⟩ := h
    exact ⟨ws, ⟨n, ho⟩, q⟩
  · exact h.elim
def cList : TrC := fun ws os k => match ws with
  | [w] => seqK w os fun ds => k (.lst ds) os
  | _ => False
def cListO : TrC := fun ws os k => match ws with
  | [w] => seqK w os fun ds => ∀ p, k (.ref p) ((p, .lst ds) :: os)
  | _ => False
theorem cmc_list : CmC X (.type "list") cList := by
  intro ws os k h
  unfold cList at h
  split at h
  · obtain ⟨ds, hs, q⟩ := seqK_of h
    exact JC.mk call_list_of fun F V0 H vs Q r rs c => by
      obtain ⟨v, rfl, rv⟩ := rs.one
      obtain ⟨a, xs, rfl, hs, ra⟩ := seqOf_of r rv hs
      refine ⟨a, xs, rfl, hs, fun l hl => ?_⟩
      obtain ⟨s2, r2, rp⟩ := rel_newL r hl ra
      exact c _ os _ _ (.lst ds) s2 r2 rp q
  · exact h.elim
theorem cmc_listO : CmC X (.type "list") cListO := by
  intro ws os k h
  unfold cListO at h
  split at h
  · obtain ⟨ds, hs, q⟩ := seqK_of h
    exact JC.mk call_list_of fun F V0 H vs Q r rs c => by
      obtain ⟨v, rfl, rv⟩ := rs.one
      obtain ⟨a, xs, rfl, hs, ra⟩ := seqOf_of r rv hs
      refine ⟨a, xs, rfl, hs, fun l hl => ?_⟩
      exact c V0 _ _ _ (.ref l) (Same.refl _) (r.addO hl (oo := .lst ds) ⟨xs, rfl, ra⟩) (.ref l) (q l)
  · exact h.elim
/-- isinstance(x, T) of a built-in class -/
def tyD : D → Option String
  | .non => some "NoneType" | .bl _ => some "bool" | .int _ => some "int" | .str _ => some "str" | .tup _ => some "tuple" | .lst _ => some "list" | _ => none
theorem tyX_of {K : PySem.W.Frag} {V0 H : Hp} {v : V} {n : String} (vi : Same V0 H) : ∀ {w : D}, Rp K V0 v w → tyD w = some n → TyX K H v (.type n)
  | .non, rv, t => by cases rv; cases t; exact .base .non
  | .bl _, rv, t => by cases rv; cases t; exact .base (.bl _)
  | .int _, rv, t => by cases rv; cases t; exact .base (.int _)
  | .str _, rv, t => by cases rv; cases t; exact .base (.str _)
  | .tup ds, rv, t => by
      cases t
      obtain ⟨p, xs, rfl, h1, h2⟩ := rp_tup rv
      rcases h1 with (h1 | ⟨o, h1⟩) | ⟨o, its, m, h1, h3, _⟩
      · exact .base (.tup (vi _ _ h1))
      · exact .fTuple (vi _ _ h1)
      · exact .kTuple h1 h3
  | .lst ds, rv, t => by
      cases t
      obtain ⟨p, xs, rfl, h1, h2⟩ := rp_lst rv
      rcases h1 with (h1 | ⟨o, h1⟩) | ⟨o, its, m, h1, h3, _⟩
      · exact .base (.lst (vi _ _ h1))
      · exact .base (.frz (vi _ _ h1))
      · exact .kList h1 h3
/-- the answers, by a table that reduces -/
def kitN (n m : String) : Option Bool :=
  match n with
  | "NoneType" => some false
  | "bool" => some (match m with | "bool" => true | "int" => true | _ => false)
  | _ => some (decide (n = m))
def isiD (w : D) (m : String) : Option Bool := match w with
  | .non => kitB "NoneType" m | .bl _ => kitB "bool" m | .int _ => kitB "int" m | .str _ => kitB "str" m | .tup _ => kitB "tuple" m | .lst _ => kitB "list" m | _ => none
def isiK (w : D) (m : String) (os : Os) (k : D → Os → Prop) : Prop := match w with
  | .ref p => ∃ (n : Nat) (ws : List D), os[n]? = some (p, .lst ws) ∧ ∃ b, kitB "list" m = some b ∧ k (.bl b) os
  | w => ∃ b, isiD w m = some b ∧ k (.bl b) os
def cIsi : TrC := fun ws os k => match ws with
  | [w, .ty m] => isiK w m os k
  | _ => False
theorem cmc_isi : CmC X (.builtin "isinstance") cIsi := by
  intro ws os k h
  unfold cIsi at h
  split at h
  · rename_i w m
    refine JC.mk call_isi fun F V0 H vs Q r rs c => ?_
    obtain ⟨v, v2, rfl, rv, rv2⟩ := rs.two
    cases rv2
    have key : ∃ n b, TyX X.K H v (.type n) ∧ kitB n m = some b ∧ k (.bl b) os := by
      unfold isiK at h
      split at h
      · obtain ⟨n, ws, ho, b, hb, q⟩ := h
        obtain rfl := rv.toRef
        obtain ⟨_, _, ho', h3, vs, rfl, h4⟩ := r.own _ (List.mem_of_getElem? ho)
        exact ⟨"list", b, .base (.lst h3), hb, q⟩
      · obtain ⟨b, hb, q⟩ := h
        unfold isiD at hb
        split at hb
        · exact ⟨_, b, tyX_of r.vi rv rfl, hb, q⟩
        · exact ⟨_, b, tyX_of r.vi rv rfl, hb, q⟩
        · exact ⟨_, b, tyX_of r.vi rv rfl, hb, q⟩
        · exact ⟨_, b, tyX_of r.vi rv rfl, hb, q⟩
        · exact ⟨_, b, tyX_of r.vi rv rfl, hb, q⟩
        · exact ⟨_, b, tyX_of r.vi rv rfl, hb, q⟩
        · cases hb
    obtain ⟨n, b, t, hb, q⟩ := key
    exact ⟨v, .ty m, _, _, b, rfl, .ty m, t, kit_ty hb, c V0 os H _ _ (Same.refl _) r rwB q⟩
  · exact h.elim

/-! ### methods of lists -/
theorem own_ty {K : PySem.W.Frag} {F V0 H : Hp} {p : Addr} {ws : List D} {n : Nat} (r : Rel K F V0 os H) (ho : os[n]? = some (p, .lst ws)) : ∃ vs, H p = some (.lst vs) ∧ RpA K V0 vs ws ∧ tyV K "list" (.ref p) H := by
  obtain ⟨_, _, ho', h3, vs, rfl, h4⟩ := r.own _ (List.mem_of_getElem? ho)
  exact ⟨vs, h3, h4, .inl ⟨rfl, vs, SqL.of h3⟩⟩
variable {o : Expr} {apos cpos : Pos} {to : TrE}
/-- an owned list at hand -/
def onL (w : D) (os : Os) (k : Addr → Prop) : Prop := match w with
  | .ref p => (∃ (n : Nat) (ws : List D), os[n]? = some (p, OO.lst ws)) ∧ k p
  | _ => False
theorem onL_ref {w : D} {kk : Addr → Prop} (h : onL w os kk) : ∃ (p : Addr) (n : Nat) (ws : List D), w = .ref p ∧ os[n]? = some (p, OO.lst ws) ∧ kk p := by
  unfold onL at h
  split at h
  · obtain ⟨⟨n, ws, ho⟩, q⟩ := h
    exact ⟨_, n, ws, rfl, ho, q⟩
  · exact h.elim
/-- xs.append(e): the receiver first, then the item -/
def eApp (to te : TrE) : TrE := fun kx env os k => to kx env os fun w os1 => onL w os1 fun p => te kx env os1 fun y os2 => ∃ (m : Nat) (us : List D), os2[m]? = some (p, .lst us) ∧ us.length < sizeLine ∧ k .non (os2.set m (p, .lst (us ++ [y])))
theorem cm_app (h : Cm X o to) (h2 : Cm X e te) (hbase : attributeBase o "append" X.env (eval o X.env) = eval o X.env)
    (hfew : ((backTo cpos (starEach [e] X.env)).all (fun x => !x.1) && (backToKw cpos (keywordEach [] X.env)).all (fun x => x.1.isSome)
      && decide ([e].length + ([] : List Keyword).length + (if ([] : List Keyword).isEmpty then 0 else 1) < 30)) = true)
    (hline : (apos.endLine == cpos.line) = true) (hs : starEach [e] X.env = (false, eval e X.env) :: starEach [] X.env) :
    Cm X (.Call (.Attribute o "append" apos) [e] [] cpos) (eApp to te) := by
  intro kx env os k q F V0 H σ Q W r sr ek c
  refine wE_of (pe_bm PySem.F.plainAttrs_list PySem.F.slot_list_append PySem.F.type_list_append mt_append wE_pe (pa_cons wE_pe pa_nil hs) hbase hfew hline hs) ?_
  refine h _ _ _ _ q F V0 H σ _ W r sr ek fun V1 os1 H1 v w s1 r1 rv q => ?_
  obtain ⟨pl, n, ws, rfl, ho, q⟩ := onL_ref q
  obtain rfl := rv.toRef
  obtain ⟨vs, h3, h4, ty⟩ := own_ty r1 ho
  refine ⟨ty, ?_⟩
  refine h2 _ _ _ _ q F V1 H1 σ _ W r1 (sr.mono s1) (ek.mono s1) fun V2 os2 H2 u y s2 r2 ru ⟨m, us, ho2, hl, q⟩ => ?_
  obtain ⟨vs2, h5, h6, _⟩ := own_ty r2 ho2
  refine ⟨pl, vs2, u, rfl, rfl, h5, by rw [h6.length]; exact hl, ?_⟩
  exact c V2 _ _ _ .non (s1.trans s2) (r2.mut ho2 (oo' := .lst (us ++ [y])) ⟨vs2 ++ [u], rfl, h6.append (.cons ru .nil)⟩) rwN q
/-- xs.pop(i) -/
def ePopAt (to te : TrE) : TrE := fun kx env os k => to kx env os fun w os1 => onL w os1 fun p => te kx env os1 fun y os2 => match y with
  | .int i => ∃ (m : Nat) (us : List D) (j : Nat) (z : D), os2[m]? = some (p, .lst us) ∧ -(2 ^ 63) ≤ i ∧ i < 2 ^ 63 ∧ seqIndex? i us.length = some j ∧ us[j]? = some z ∧ k z (os2.set m (p, .lst (us.eraseIdx j)))
  | _ => False
theorem cm_popAt (h : Cm X o to) (h2 : Cm X e te) (hbase : attributeBase o "pop" X.env (eval o X.env) = eval o X.env)
    (hfew : ((backTo cpos (starEach [e] X.env)).all (fun x => !x.1) && (backToKw cpos (keywordEach [] X.env)).all (fun x => x.1.isSome)
      && decide ([e].length + ([] : List Keyword).length + (if ([] : List Keyword).isEmpty then 0 else 1) < 30)) = true)
    (hline : (apos.endLine == cpos.line) = true) (hs : starEach [e] X.env = (false, eval e X.env) :: starEach [] X.env) :
    Cm X (.Call (.Attribute o "pop" apos) [e] [] cpos) (ePopAt to te) := by
  intro kx env os k q F V0 H σ Q W r sr ek c
  refine wE_of (pe_bm PySem.F.plainAttrs_list PySem.F.slot_list_pop PySem.F.type_list_pop mt_popAt wE_pe (pa_cons wE_pe pa_nil hs) hbase hfew hline hs) ?_
  refine h _ _ _ _ q F V0 H σ _ W r sr ek fun V1 os1 H1 v w s1 r1 rv q => ?_
  obtain ⟨pl, n, ws, rfl, ho, q⟩ := onL_ref q
  obtain rfl := rv.toRef
  obtain ⟨vs, h3, h4, ty⟩ := own_ty r1 ho
  refine ⟨ty, ?_⟩
  refine h2 _ _ _ _ q F V1 H1 σ _ W r1 (sr.mono s1) (ek.mono s1) fun V2 os2 H2 u y s2 r2 ru q => ?_
  split at q
  · obtain ⟨m, us, j, z, ho2, b1, b2, hj, hz, q⟩ := q
    cases ru
    obtain ⟨vs2, h5, h6, _⟩ := own_ty r2 ho2
    obtain ⟨zv, ez, rz⟩ := h6.get hz
    refine ⟨pl, vs2, _, j, zv, rfl, rfl, h5, b1, b2, by rw [h6.length]; exact hj, ez, ?_⟩
    exact c V2 _ _ _ z (s1.trans s2) (r2.mut ho2 (oo' := .lst (us.eraseIdx j)) ⟨vs2.eraseIdx j, rfl, h6.eraseIdx j⟩) rz q
  · exact q.elim
/-- xs.pop() -/
def ePop (to : TrE) : TrE := fun kx env os k => to kx env os fun w os1 => match w with
  | .ref p => ∃ (n : Nat) (ws : List D) (z : D), os1[n]? = some (p, .lst ws) ∧ ws[ws.length - 1]? = some z ∧ k z (os1.set n (p, .lst ws.dropLast))
  | _ => False
theorem cm_pop (h : Cm X o to) (hbase : attributeBase o "pop" X.env (eval o X.env) = eval o X.env) (hline : (apos.endLine == cpos.line) = true) :
    Cm X (.Call (.Attribute o "pop" apos) [] [] cpos) (ePop to) := by
  intro kx env os k q F V0 H σ Q W r sr ek c
  refine wE_of (pe_bm0 PySem.F.plainAttrs_list PySem.F.slot_list_pop PySem.F.type_list_pop mt_pop wE_pe hbase hline) ?_
  refine h _ _ _ _ q F V0 H σ _ W r sr ek fun V1 os1 H1 v w s1 r1 rv q => ?_
  split at q
  · obtain ⟨n, ws, z, ho, hz, q⟩ := q
    obtain rfl := rv.toRef
    obtain ⟨vs, h3, h4, ty⟩ := own_ty r1 ho
    refine ⟨ty, ?_⟩
    obtain ⟨zv, ez, rz⟩ := h4.get (i := ws.length - 1) hz
    refine ⟨_, vs, zv, rfl, rfl, h3, by rw [h4.length]; exact ez, ?_⟩
    refine c V1 _ _ _ z s1 (r1.mut ho (oo' := .lst ws.dropLast) ⟨vs.dropLast, rfl, ?_⟩) rz q
    rw [List.dropLast_eq_take, List.dropLast_eq_take, h4.length]
    exact h4.take _
  · exact q.elim
theorem rpA_rep {K : PySem.W.Frag} {H : Hp} {vs : List V} {ws : List D} (h : RpA K H vs ws) : ∀ n : Nat, RpA K H (List.replicate n vs).flatten (List.replicate n ws).flatten
  | 0 => .nil
  | n + 1 => by
    rw [List.replicate_succ, List.replicate_succ, List.flatten_cons, List.flatten_cons]
    exact h.append (rpA_rep h n)
/-- [e] * n: a new list of n times the one item: data or owned -/
def repK (own : Bool) (es : List D) (y : D) (os : Os) (k : D → Os → Prop) : Prop := match y with
  | .int j => -(2 ^ 63) ≤ j ∧ j < 2 ^ 63 ∧ es.length * j.toNat ≤ sizeLine ∧ (if own then ∀ a, k (.ref a) ((a, .lst (List.replicate j.toNat es).flatten) :: os) else k (.lst (List.replicate j.toNat es).flatten) os)
  | _ => False
def eRep (own : Bool) (tl : TrA) (tb : TrE) : TrE := fun kx env os k => tl kx env os fun es os1 => tb kx env os1 fun y os2 => repK own es y os2 k
theorem cm_rep {own : Bool} {p1 : Pos} (h : CmA X es tl n) (hn : n ≤ 1000) (h2 : Cm X b te) : Cm X (.BinOp (.List es p1) .Mult b pos) (eRep own tl te) := by
  intro kx env os k q F V0 H σ Q W r sr ek c
  refine wE_of (pe_op (r := wO X (binaryOp .Mult)) wO_op wE_pe wE_pe) ?_
  refine wE_of (pe_lst wA_pa) ?_
  refine h.2 _ _ _ _ q F V0 H σ _ W r sr ek fun V1 os1 H1 vs ws s1 r1 rs ⟨hl, q⟩ => ?_
  refine ⟨by rw [rs.length, hl]; exact Nat.le_of_lt (small1000 hn), fun p hp => ?_⟩
  obtain ⟨s1', r1', rp⟩ := rel_newL r1 hp rs
  refine h2 _ _ _ _ q F _ _ σ _ W r1' (sr.mono (s1.trans s1')) (ek.mono (s1.trans s1')) fun V2 os2 H2 u y s2 r2 ru q => ?_
  obtain ⟨a0, xs, e0, h3, h4⟩ := rp_lst (Rp.mono s2 rp)
  cases e0
  have s12 := (s1.trans s1').trans s2
  unfold repK at q
  split at q
  · obtain ⟨b1, b2, hsz, q⟩ := q
    cases ru
    refine wO_of op_rep ?_
    have hH : H2 p = some (.lst vs) := r2.vi _ _ (s2 _ _ upd_same)
    have h4' : RpA X.K V2 vs ws := RpA.mono (s1'.trans s2) rs
    refine ⟨p, _, vs, rfl, rfl, hH, b1, b2, by rw [h4'.length]; exact hsz, fun a ha => ?_⟩
    split at q
    · exact c V2 _ _ _ (.ref a) s12 (r2.addO ha (oo := .lst _) ⟨_, rfl, rpA_rep h4' _⟩) (.ref a) (q a)
    · obtain ⟨s3, r3, rp3⟩ := rel_newL r2 ha (rpA_rep h4' _)
      exact c _ os2 _ _ (.lst _) (s12.trans s3) r3 rp3 q
  · exact q.elim
end

/-! ### statements -/
structure KR where
  rt : D → Os → Prop
  bk : DEnv → Os → Prop := fun _ _ => False
  ct : DEnv → Os → Prop := fun _ _ => False
  ex : Exn → DEnv → Os → Prop := fun _ _ _ => False
structure KS where
  nx : DEnv → Os → Prop
  r : KR
abbrev KS.rt (K : KS) := K.r.rt
abbrev KS.bk (K : KS) := K.r.bk
abbrev KS.ct (K : KS) := K.r.ct
abbrev KS.ex (K : KS) := K.r.ex
structure EndsOk (X : Cx) (F V0 : Hp) (K : KS) (D : Ends) (W : WX) : Prop where
  nx : ∀ (V1 : Hp) (os1 : Os) (H1 : Hp) (σ1 : L2.St) (env1 : DEnv), Same V0 V1 → Rel X.K F V1 os1 H1 → SR X.K V1 σ1 env1 → K.nx env1 os1 → D.nx σ1 H1
  rt : ∀ (V1 : Hp) (os1 : Os) (H1 : Hp) (v : V) (w : EV.D), Same V0 V1 → Rel X.K F V1 os1 H1 → Rp X.K V1 v w → K.rt w os1 → D.rt v H1
  bk : ∀ (V1 : Hp) (os1 : Os) (H1 : Hp) (σ1 : L2.St) (env1 : DEnv), Same V0 V1 → Rel X.K F V1 os1 H1 → SR X.K V1 σ1 env1 → K.bk env1 os1 → D.bk σ1 H1
  ct : ∀ (V1 : Hp) (os1 : Os) (H1 : Hp) (σ1 : L2.St) (env1 : DEnv), Same V0 V1 → Rel X.K F V1 os1 H1 → SR X.K V1 σ1 env1 → K.ct env1 os1 → D.ct σ1 H1
  tk : Takes X W
  ex : ∀ (V1 : Hp) (os1 : Os) (H1 : Hp) (σ1 : L2.St) (env1 : DEnv) (cls : Value) (d : Option Addr) (x : Exn), Same V0 V1 → Rel X.K F V1 os1 H1 → SR X.K V1 σ1 env1 → ExnR X.K V1 cls d x → K.ex x env1 os1 → W cls d σ1 H1
theorem EndsOk.mono {X : Cx} {F V0 V1 : Hp} {K : KS} {D : Ends} {W : WX} (h : EndsOk X F V0 K D W) (s : Same V0 V1) : EndsOk X F V1 K D W :=
  ⟨fun V2 o H σ e s2 => h.nx V2 o H σ e (s.trans s2), fun V2 o H v w s2 => h.rt V2 o H v w (s.trans s2), fun V2 o H σ e s2 => h.bk V2 o H σ e (s.trans s2), fun V2 o H σ e s2 => h.ct V2 o H σ e (s.trans s2), h.tk,
    fun V2 o H σ e c d x s2 => h.ex V2 o H σ e c d x (s.trans s2)⟩
theorem EndsOk.xk {X : Cx} {F V0 : Hp} {K : KS} {D : Ends} {W : WX} (h : EndsOk X F V0 K D W) {σ : L2.St} {env : DEnv} (sr : SR X.K V0 σ env) : XkOk X F V0 σ (fun x os => K.ex x env os) W :=
  ⟨h.tk, fun V1 os1 H1 cls d x s r e q => h.ex V1 os1 H1 σ env cls d x s r (sr.mono s) e q⟩
def JS1 (X : Cx) (st : Stmt) (env : DEnv) (os : Os) (K : KS) : Prop :=
  ∀ (F V0 H : Hp) (σ : L2.St) (D : Ends) (W : WX), Rel X.K F V0 os H → SR X.K V0 σ env → EndsOk X F V0 K D W → wS1 X st D σ H
def JSs (X : Cx) (sts : List Stmt) (env : DEnv) (os : Os) (K : KS) : Prop :=
  ∀ (F V0 H : Hp) (σ : L2.St) (D : Ends) (W : WX), Rel X.K F V0 os H → SR X.K V0 σ env → EndsOk X F V0 K D W → wSs X sts D σ H
def JG (X : Cx) (tg : Expr) (w : D) (env : DEnv) (os : Os) (kg : DEnv → Os → Prop) : Prop :=
  ∀ (F V0 H : Hp) (σ : L2.St) (v : V) (Q : L2.St → Hp → Prop) (W : WX), Rel X.K F V0 os H → SR X.K V0 σ env → Rp X.K V0 v w → Takes X W →
    (∀ (V1 : Hp) (os1 : Os) (H1 : Hp) (σ1 : L2.St) (env1 : DEnv), Same V0 V1 → Rel X.K F V1 os1 H1 → SR X.K V1 σ1 env1 → kg env1 os1 → Q σ1 H1) → wG X tg v σ H Q
abbrev TrS := (DEnv → Os → Prop) → KR → DEnv → Os → Prop
abbrev TrG := D → DEnv → Os → (DEnv → Os → Prop) → Prop
def CmS (X : Cx) (st : Stmt) (t : TrS) : Prop := ∀ N R env os, t N R env os → JS1 X st env os ⟨N, R⟩
def CmSs (X : Cx) (sts : List Stmt) (t : TrS) : Prop := ∀ N R env os, t N R env os → JSs X sts env os ⟨N, R⟩
def CmG (X : Cx) (tg : Expr) (t : TrG) : Prop := ∀ w env os kg, t w env os kg → JG X tg w env os kg
theorem XkOk.no {X : Cx} {F V0 : Hp} {σ : L2.St} {W : WX} (t : Takes X W) : XkOk X F V0 σ (fun _ _ => False) W := ⟨t, fun _ _ _ _ _ _ _ _ _ z => z.elim⟩
/-- what is raised within a statement -/
abbrev KR.xk (R : KR) (env : DEnv) : Kx := fun x os => R.ex x env os
/-- a block -/
def sNo : TrS := fun N _ env os => N env os
def sCo (t u : TrS) : TrS := fun N R env os => t (fun e o => u N R e o) R env os
section
variable {X : Cx} {pos : Pos} {e : Expr} {st : Stmt} {sts : List Stmt} {te to : TrE} {t : TrS} {ts : List TrS}
theorem cs_nil : CmSs X [] sNo := fun N R env os q F V0 H σ D W r sr ek => wSs_of pss_nil (ek.nx V0 os H σ env (Same.refl _) r sr q)
theorem cs_one (h : CmS X st t) : CmSs X [st] t := fun N R env os q F V0 H σ D W r sr ek => wSs_of (pss_one wS1_ps) (h _ _ _ _ q F V0 H σ D W r sr ek)
theorem cs_cons {u : TrS} (h : CmS X st t) (h2 : CmSs X sts u) : CmSs X (st :: sts) (sCo t u) := by
  intro N R env os q F V0 H σ D W r sr ek
  refine wSs_of (pss_cons wS1_ps wSs_pss) ?_
  refine h _ _ _ _ q F V0 H σ { D with nx := wSs X sts D } W r sr ⟨fun V1 os1 H1 σ1 env1 s1 r1 sr1 q => ?_, ek.rt, ek.bk, ek.ct, ek.tk, ek.ex⟩
  exact h2 _ _ _ _ q F V1 H1 σ1 D W r1 sr1 (ek.mono s1)
def sPass : TrS := fun N R env os => N env os
def sBrk : TrS := fun N R env os => R.bk env os
def sCnt : TrS := fun N R env os => R.ct env os
theorem c1_pass : CmS X (.Pass pos) sPass := fun N R env os q F V0 H σ D W r sr ek => wS1_of ps_pass (ek.nx V0 os H σ env (Same.refl _) r sr q)
theorem c1_brk : CmS X (.Break pos) sBrk := fun N R env os q F V0 H σ D W r sr ek => wS1_of ps_break (ek.bk V0 os H σ env (Same.refl _) r sr q)
theorem c1_cnt : CmS X (.Continue pos) sCnt := fun N R env os q F V0 H σ D W r sr ek => wS1_of ps_continue (ek.ct V0 os H σ env (Same.refl _) r sr q)
def sRet (te : TrE) : TrS := fun N R env os => te (R.xk env) env os fun w os1 => R.rt w os1
def sRetN : TrS := fun N R _ os => R.rt .non os
theorem c1_ret (h : Cm X e te) : CmS X (.Return (some e) pos) (sRet te) := by
  intro N R env os q F V0 H σ D W r sr ek
  refine wS1_of (ps_ret wE_pe) ?_
  exact h _ _ _ _ q F V0 H σ _ W r sr (ek.xk sr) fun V1 os1 H1 v w s1 r1 rv q => ek.rt V1 os1 H1 v w s1 r1 rv q
theorem c1_retN : CmS X (.Return none pos) sRetN := fun N R env os q F V0 H σ D W r sr ek => wS1_of ps_retN (ek.rt V0 os H .non .non (Same.refl _) r rwN q)
def sExpr (te : TrE) : TrS := fun N R env os => te (R.xk env) env os fun _ os1 => N env os1
theorem c1_expr (h : Cm X e te) (hs : swapsWith e none pos.line X.env = pure false) : CmS X (.Expr e pos) (sExpr te) := by
  intro N R env os q F V0 H σ D W r sr ek
  refine wS1_of (ps_expr wE_pe hs) ?_
  exact h _ _ _ _ q F V0 H σ _ W r sr (ek.xk sr) fun V1 os1 H1 v w s1 r1 rv q => ek.nx V1 os1 H1 σ env s1 r1 (sr.mono s1) q
def sIf (c : TrT) (p q : TrS) : TrS := fun N R env os => c (R.xk env) env os fun b os1 => (b = true → p N R env os1) ∧ (b = false → q N R env os1)
/-- both ways meet in J -/
def sIfJ (c : TrT) (p q : TrS) : TrS := fun N R env os => ∃ J : DEnv → Os → Prop, (c (R.xk env) env os fun b os1 => (b = true → p J R env os1) ∧ (b = false → q J R env os1)) ∧ ∀ e o, J e o → N e o
theorem c1_if {c : Expr} {p q : List Stmt} {tc : TrT} {tp tq : TrS} (h : CmT X c tc) (h1 : CmSs X p tp) (h2 : CmSs X q tq) : CmS X (.If c p q pos) (sIf tc tp tq) := by
  intro N R env os q F V0 H σ D W r sr ek
  refine wS1_of (ps_if wTt_pt wSs_pss wSs_pss) ?_
  refine h _ _ _ _ q F V0 H σ _ W r sr (ek.xk sr) fun V1 os1 H1 b s1 r1 q => ?_
  cases b with
  | true => exact iteT (h1 _ _ _ _ (q.1 rfl) F V1 H1 σ D W r1 (sr.mono s1) (ek.mono s1))
  | false => exact iteF (h2 _ _ _ _ (q.2 rfl) F V1 H1 σ D W r1 (sr.mono s1) (ek.mono s1))
theorem c1_ifJ {c : Expr} {p q : List Stmt} {tc : TrT} {tp tq : TrS} (h : CmT X c tc) (h1 : CmSs X p tp) (h2 : CmSs X q tq) : CmS X (.If c p q pos) (sIfJ tc tp tq) := by
  intro N R env os ⟨J, q, hJ⟩ F V0 H σ D W r sr ek
  exact c1_if h h1 h2 J R env os q F V0 H σ D W r sr ⟨fun V1 o1 H1 σ1 e1 a b c z => ek.nx V1 o1 H1 σ1 e1 a b c (hJ _ _ z), ek.rt, ek.bk, ek.ct, ek.tk, ek.ex⟩
/-- name = e -/
def sSet (i : Nat) (te : TrE) : TrS := fun N R env os => te (R.xk env) env os fun w os1 => N (setE env i (some w)) os1
theorem sr_setE {K : PySem.W.Frag} {V0 : Hp} {σ : L2.St} {env : DEnv} (h : SR K V0 σ env) {v : V} {w : D} (r : Rp K V0 v w) (i : Nat) : SR K V0 (σ.set i (some v)) (setE env i (some w)) := by
  rw [setE_eq]; exact h.set r i
theorem c1_set {i : Nat} {x : Str} {pos' : Pos} (hN : X.N.Nodup) (hi : X.N[i]? = some x) (hx : Loc X.env.scope x) (h : Cm X e te) (hs : swapsWith e (some (.Name x pos')) pos.line X.env = pure false)
    (hf : X.fn x = true ∨ X.env.scope.names.lookup x = some .local) : CmS X (.Assign [.Name x pos'] e pos) (sSet i te) := by
  intro N R env os q F V0 H σ D W r sr ek
  refine wS1_of (ps_set hN hi hx wE_pe hs hf) ?_
  exact h _ _ _ _ q F V0 H σ _ W r sr (ek.xk sr) fun V1 os1 H1 v w s1 r1 rv q => ek.nx V1 os1 H1 _ _ s1 r1 (sr_setE (sr.mono s1) rv i) q
/-- name op= e -/
def sAug (i : Nat) (o : TrO) (te : TrE) : TrS := fun N R env os => match getE env i with
  | some x => te (R.xk env) env os fun y os1 => o x y os1 fun z os2 => N (setE env i (some z)) os2
  | none => False

/-! ### targets -/
variable {tg : TrG}
def gName (i : Nat) : TrG := fun w env os kg => kg (setE env i (some w)) os
theorem cg_name {i : Nat} {x : Str} (hN : X.N.Nodup) (hi : X.N[i]? = some x) (hx : Loc X.env.scope x) (hf : X.fn x = true ∨ X.env.scope.names.lookup x = some .local) : CmG X (.Name x pos) (gName i) :=
  fun w env os kg q F V0 H σ v Q W r sr rv tk c => wG_of (pg_name hN hi hx hf) (c V0 os H _ _ (Same.refl _) r (sr_setE sr rv i) q)
def JGs (X : Cx) (tgs : List Expr) (ws : List D) (env : DEnv) (os : Os) (kg : DEnv → Os → Prop) : Prop :=
  ∀ (F V0 H : Hp) (σ : L2.St) (vs : List V) (Q : L2.St → Hp → Prop) (W : WX), Rel X.K F V0 os H → SR X.K V0 σ env → RpA X.K V0 vs ws → Takes X W →
    (∀ (V1 : Hp) (os1 : Os) (H1 : Hp) (σ1 : L2.St) (env1 : DEnv), Same V0 V1 → Rel X.K F V1 os1 H1 → SR X.K V1 σ1 env1 → kg env1 os1 → Q σ1 H1) → wGs X tgs vs σ H Q
abbrev TrGs := List D → DEnv → Os → (DEnv → Os → Prop) → Prop
def CmGs (X : Cx) (tgs : List Expr) (t : TrGs) (n : Nat) : Prop := tgs.length = n ∧ ∀ ws env os kg, ws.length = n → t ws env os kg → JGs X tgs ws env os kg
def gsN : TrGs := fun _ env os kg => kg env os
def gsC (g : TrG) (gs : TrGs) : TrGs := fun ws env os kg => match ws with
  | w :: ws => g w env os fun env1 os1 => gs ws env1 os1 kg
  | [] => False
theorem cgs_nil : CmGs X [] gsN 0 := ⟨rfl, fun ws env os kg hl q F V0 H σ vs Q W r sr rs tk c => by
  cases ws with
  | nil =>
    cases rs
    exact wGs_of pgs_nil ⟨rfl, c V0 os H σ env (Same.refl _) r sr q⟩
  | cons _ _ => cases hl⟩
theorem cgs_cons {tge : Expr} {tgs : List Expr} {gs : TrGs} {n : Nat} (h : CmG X tge tg) (h2 : CmGs X tgs gs n)
    (hs : (assignEach (tge :: tgs) X.env).map (·.2) = assign tge X.env :: (assignEach tgs X.env).map (·.2)) : CmGs X (tge :: tgs) (gsC tg gs) (n + 1) :=
  ⟨congrArg (· + 1) h2.1, fun ws env os kg hl q F V0 H σ vs Q W r sr rs tk c => by
    cases ws with
    | nil => cases hl
    | cons w ws =>
      cases rs with
      | cons rv rs =>
        refine wGs_of (pgs_cons wG_pg wGs_pgs hs) ⟨_, _, rfl, ?_⟩
        refine h _ _ _ _ q F V0 H σ _ _ W r sr rv tk fun V1 os1 H1 σ1 env1 s1 r1 sr1 q => ?_
        exact h2.2 _ _ _ _ (by simpa using hl) q F V1 H1 σ1 _ Q W r1 sr1 (RpA.mono s1 rs) tk fun V2 os2 H2 σ2 env2 s2 r2 sr2 q2 => c V2 os2 H2 σ2 env2 (s1.trans s2) r2 sr2 q2⟩
/-- (a, b, ..) = a tuple, a list of data -/
def gTup (n : Nat) (gs : TrGs) : TrG := fun w env os kg => match w with
  | .tup ds => ds.length = n ∧ gs ds env os kg
  | .lst ds => ds.length = n ∧ gs ds env os kg
  | _ => False
theorem cg_tup {es : List Expr} {m : Nat} {gs : TrGs} {n : Nat} (hc : X.calm = true) (h : CmGs X es gs n)
    (hn : (assignEach es X.env).length = n) (hst : (assignEach es X.env).findIdx? (·.1) = none) : CmG X (.Tuple es m pos) (gTup n gs) := by
  intro w env os kg q F V0 H σ v Q W r sr rv tk c
  unfold gTup at q
  split at q
  · obtain ⟨hl, q⟩ := q
    obtain ⟨p, xs, rfl, h1, h2⟩ := rp_tup rv
    refine wG_of (pg_tup (n := n) hc wGs_pgs hn hst) ⟨p, xs, rfl, same_sqT r.vi h1, by rw [h2.length]; exact hl, ?_⟩
    exact h.2 _ _ _ _ hl q F V0 H σ xs Q W r sr h2 tk c
  · obtain ⟨hl, q⟩ := q
    obtain ⟨p, xs, rfl, h1, h2⟩ := rp_lst rv
    refine wG_of (pg_lst (n := n) hc wGs_pgs hn hst) ⟨p, xs, rfl, r.vi.seq h1, by rw [h2.length]; exact hl, ?_⟩
    exact h.2 _ _ _ _ hl q F V0 H σ xs Q W r sr h2 tk c
  · exact q.elim
/-- target = e -/
def sAsg (g : TrG) (te : TrE) : TrS := fun N R env os => te (R.xk env) env os fun w os1 => g w env os1 N
theorem c1_asg {tge : Expr} (hg : CmG X tge tg) (h : Cm X e te) (hs : swapsWithSole [tge] e pos.line X.env = pure false) (hw : swappedStores [tge] e X.env = pure none)
    (h1 : (assignEach [tge] X.env).map (·.2) = [assign tge X.env]) : CmS X (.Assign [tge] e pos) (sAsg tg te) := by
  intro N R env os q F V0 H σ D W r sr ek
  refine wS1_of (ps_asg wE_pe wG_pg hs hw h1) ?_
  refine h _ _ _ _ q F V0 H σ _ W r sr (ek.xk sr) fun V1 os1 H1 v w s1 r1 rv q => ?_
  exact hg _ _ _ _ q F V1 H1 σ v _ W r1 (sr.mono s1) rv ek.tk fun V2 os2 H2 σ2 env2 s2 r2 sr2 q2 => ek.nx V2 os2 H2 σ2 env2 (s1.trans s2) r2 sr2 q2
def kx0 : Kx := fun _ _ => False
/-- o[i] = .., an owned list -/
def gSub (to ti : TrE) : TrG := fun w env os kg => to kx0 env os fun x os1 => ti kx0 env os1 fun y os2 => match x with
  | .ref p => (match y with
    | .int i => ∃ (n : Nat) (ws : List D) (j : Nat), os2[n]? = some (p, .lst ws) ∧ ixN ws.length i = some j ∧ kg env (os2.set n (p, .lst (ws.set j w)))
    | _ => False)
  | _ => False
theorem cg_sub {o ix : Expr} {ti : TrE} (h : Cm X o to) (h2 : Cm X ix ti)
    (ha : ∀ v, assign (.Subscript o ix pos) X.env v = (do
      let ov ← holding [v] (eval o X.env)
      let iv ← holding [v, ov] (eval ix X.env)
      standAt pos
      holding [v, ov, iv] (setItem ov iv v)
      release [v, ov, iv] [])) : CmG X (.Subscript o ix pos) (gSub to ti) := by
  intro w env os kg q F V0 H σ v Q W r sr rv tk c
  refine wG_of (pg_sub wE_pe wE_pe set_list ha) ?_
  refine h _ _ _ _ q F V0 H σ _ W r sr (XkOk.no tk) fun V1 os1 H1 ov x s1 r1 ro q => ?_
  refine h2 _ _ _ _ q F V1 H1 σ _ W r1 (sr.mono s1) (XkOk.no tk) fun V2 os2 H2 iv y s2 r2 ri q => ?_
  split at q
  · split at q
    · obtain ⟨n, ws, j, ho, hj, q⟩ := q
      have e := (Rp.mono s2 ro).toRef
      subst e
      cases ri
      obtain ⟨vs, h3, h4, _⟩ := own_ty r2 ho
      refine ⟨_, vs, _, j, rfl, rfl, h3, by rw [h4.length]; exact hj, ?_⟩
      have s := s1.trans s2
      exact c V2 _ _ σ env s (r2.mut ho (oo' := .lst (ws.set j w)) ⟨vs.set j v, rfl, RpA.set (rv.mono s) j h4⟩) (sr.mono s) q
    · exact q.elim
  · exact q.elim
end

/-! ### iteration -/
/-- an owned list that a loop reads stays as it is -/
abbrev Gd := Option (Addr × List D)
def gOk : Gd → Os → Prop
  | none, _ => True
  | some (p, all), os => ∃ n : Nat, os[n]? = some (p, OO.lst all)
def gK (gd : Gd) (os : Os) (k : Prop) : Prop := match gd with
  | none => k
  | some (p, all) => (∃ n : Nat, os[n]? = some (p, OO.lst all)) ∧ k
theorem gK_ok {gd : Gd} {os : Os} {k : Prop} (h : gK gd os k) : gOk gd os ∧ k := by
  cases gd with
  | none => exact ⟨trivial, h⟩
  | some z => exact h
theorem gK_mk {gd : Gd} {os : Os} {k : Prop} (h : gOk gd os) (q : k) : gK gd os k := by
  cases gd with
  | none => exact q
  | some z => exact ⟨h, q⟩
/-- the iterator gives ws, whatever is made meanwhile -/
structure GI (K : PySem.W.Frag) (V1 : Hp) (J : It) (ws : List D) (gd : Gd) : Prop where
  go : ∀ (i : Nat) (F V2 : Hp) (os : Os) (H : Hp), Same V1 V2 → Rel K F V2 os H → gOk gd os → i < ws.length → J.go i H
  stop : ∀ (i : Nat) (F V2 : Hp) (os : Os) (H : Hp), Same V1 V2 → Rel K F V2 os H → gOk gd os → ws.length ≤ i → J.stop i H
  yld : ∀ (i : Nat) (F V2 : Hp) (os : Os) (H : Hp) (x : V) (H' : Hp) (w : D), Same V1 V2 → Rel K F V2 os H → gOk gd os → J.yld i H x H' → ws[i]? = some w → ∃ V3, Same V2 V3 ∧ Rel K F V3 os H' ∧ Rp K V3 x w
@[irreducible] def wPI (X : Cx) (tg iter : Expr) : TI := fun σ H R => ∀ (pins : List (Addr × Obj)) (s : Shared), Inv X pins σ H s →
  wpAny (model X.prog X.w) X.A (eval iter X.env) (fun v s1 => wpAny (model X.prog X.w) X.A (pyIter v) (PIE X pins σ tg R) X.xe s1) X.xe s
theorem wPI_pi {X : Cx} {tg iter : Expr} : PI X tg iter (wPI X tg iter) := by unfold wPI; exact ⟨fun pins s _ _ _ I h => h pins s I⟩
theorem wPI_of {X : Cx} {tg iter : Expr} {t : TI} (h : PI X tg iter t) {σ : L2.St} {H : Hp} {R : It → Hp → Prop} (q : t σ H R) : wPI X tg iter σ H R := by unfold wPI; exact fun pins s I => h.run pins s σ H R I q
def JI (X : Cx) (kx : Kx) (tg iter : Expr) (env : DEnv) (os : Os) (ki : List D → Gd → Os → Prop) : Prop :=
  ∀ (F V0 H : Hp) (σ : L2.St) (R : It → Hp → Prop) (W : WX), Rel X.K F V0 os H → SR X.K V0 σ env → XkOk X F V0 σ kx W →
    (∀ (V1 : Hp) (os1 : Os) (H1 : Hp) (J : It) (ws : List D) (gd : Gd), Same V0 V1 → Rel X.K F V1 os1 H1 → GI X.K V1 J ws gd → ki ws gd os1 → R J H1) → wPI X tg iter σ H R
abbrev TrI := Kx → DEnv → Os → (List D → Gd → Os → Prop) → Prop
def CmI (X : Cx) (tg iter : Expr) (t : TrI) : Prop := ∀ kx env os ki, t kx env os ki → JI X kx tg iter env os ki
section
variable {K : PySem.W.Frag} {V1 : Hp} {a : Addr} {xs : List V} {ds : List D}
theorem gi_list (h : SqL K V1 a xs) (r : RpA K V1 xs ds) : GI K V1 (Itl K a) ds none := by
  have hl := r.length
  refine ⟨fun i F V2 os H s2 r2 _ hi => ?_, fun i F V2 os H s2 r2 _ hi => ⟨xs, (s2.trans r2.vi).seq h, by omega⟩, fun i F V2 os H x H' w s2 r2 _ y e => ?_⟩
  · exact ⟨xs, xs[i]'(by omega), (s2.trans r2.vi).seq h, by simp [hl, hi]⟩
  · obtain ⟨rfl, y⟩ := y
    have ex := y xs ((s2.trans r2.vi).seq h)
    obtain ⟨d, ed, rd⟩ := r.getV ex
    rw [ed] at e
    cases e
    exact ⟨V2, Same.refl _, r2, Rp.mono s2 rd⟩
theorem gi_own {p : Addr} : GI K V1 (Itl K p) ds (some (p, ds)) := by
  have key : ∀ (F V2 : Hp) (os : Os) (H : Hp), Rel K F V2 os H → gOk (some (p, ds)) os → ∃ vs, SqL K H p vs ∧ RpA K V2 vs ds := fun F V2 os H r2 ⟨n, ho⟩ => by
    obtain ⟨_, _, ho', h3, vs, rfl, h4⟩ := r2.own _ (List.mem_of_getElem? ho)
    exact ⟨vs, SqL.of h3, h4⟩
  refine ⟨fun i F V2 os H s2 r2 g hi => ?_, fun i F V2 os H s2 r2 g hi => ?_, fun i F V2 os H x H' w s2 r2 g y e => ?_⟩
  · obtain ⟨vs, h, ra⟩ := key F V2 os H r2 g
    have hl := ra.length
    exact ⟨vs, vs[i]'(by omega), h, by simp [hl, hi]⟩
  · obtain ⟨vs, h, ra⟩ := key F V2 os H r2 g
    have hl := ra.length
    exact ⟨vs, h, by omega⟩
  · obtain ⟨vs, h, ra⟩ := key F V2 os H r2 g
    obtain ⟨rfl, y⟩ := y
    have ex := y vs h
    obtain ⟨d, ed, rd⟩ := ra.getV ex
    rw [ed] at e
    cases e
    exact ⟨V2, Same.refl _, r2, rd⟩
theorem gi_tup (h : SqT K V1 a xs) (r : RpA K V1 xs ds) : GI K V1 (Itt K a) ds none := by
  have hl := r.length
  refine ⟨fun i F V2 os H s2 r2 _ hi => ?_, fun i F V2 os H s2 r2 _ hi => ⟨xs, same_sqT (s2.trans r2.vi) h, by omega⟩, fun i F V2 os H x H' w s2 r2 _ y e => ?_⟩
  · exact ⟨xs, xs[i]'(by omega), same_sqT (s2.trans r2.vi) h, by simp [hl, hi]⟩
  · obtain ⟨rfl, y⟩ := y
    have ex := y xs (same_sqT (s2.trans r2.vi) h)
    obtain ⟨d, ed, rd⟩ := r.getV ex
    rw [ed] at e
    cases e
    exact ⟨V2, Same.refl _, r2, Rp.mono s2 rd⟩
/-- lo, lo + c, .. -/
def rng : Int → Int → Nat → List D
  | _, _, 0 => []
  | lo, c, n + 1 => .int lo :: rng (lo + c) c n
theorem rng_len : ∀ (lo c : Int) (n : Nat), (rng lo c n).length = n
  | _, _, 0 => rfl
  | lo, c, n + 1 => congrArg (· + 1) (rng_len (lo + c) c n)
theorem rng_get : ∀ {n : Nat} {lo c : Int} {i : Nat}, i < n → (rng lo c n)[i]? = some (.int (lo + (i : Int) * c))
  | n + 1, lo, c, 0, _ => by simp [rng]
  | n + 1, lo, c, i + 1, h => by
    have := rng_get (n := n) (lo := lo + c) (c := c) (i := i) (by omega)
    rw [rng, List.getElem?_cons_succ, this]
    have : lo + c + (i : Int) * c = lo + ((i + 1 : Nat) : Int) * c := by
      rw [Int.natCast_add, Int.add_mul]; simp; omega
    rw [this]
theorem rng_at {n : Nat} {lo c : Int} {i : Nat} {w : D} (h : (rng lo c n)[i]? = some w) : w = .int (lo + (i : Int) * c) ∧ i < n := by
  have hi : i < n := by
    have := (List.getElem?_eq_some_iff.mp h).1
    rw [rng_len] at this; exact this
  rw [rng_get hi] at h
  exact ⟨(Option.some.inj h).symm, hi⟩
theorem gi_rng (lo : Int) (n : Nat) : GI K V1 (Itr lo n) (rng lo 1 n) none := by
  refine ⟨fun i F V2 os H s2 r2 _ hi => by rw [rng_len] at hi; exact hi, fun i F V2 os H s2 r2 _ hi => by rw [rng_len] at hi; exact hi, fun i F V2 os H x H' w s2 r2 _ y e => ?_⟩
  obtain ⟨rfl, rfl⟩ := y
  obtain ⟨rfl, _⟩ := rng_at e
  rw [Int.mul_one]
  exact ⟨V2, Same.refl _, r2, rwI⟩
theorem gi_rngC (lo c : Int) (n : Nat) : GI K V1 (Itc lo c n) (rng lo c n) none := by
  refine ⟨fun i F V2 os H s2 r2 _ hi => by rw [rng_len] at hi; exact hi, fun i F V2 os H s2 r2 _ hi => by rw [rng_len] at hi; exact hi, fun i F V2 os H x H' w s2 r2 _ y e => ?_⟩
  obtain ⟨rfl, rfl⟩ := y
  obtain ⟨rfl, _⟩ := rng_at e
  exact ⟨V2, Same.refl _, r2, rwI⟩
/-- (i, x), .. -/
def enumW : Int → List D → List D
  | _, [] => []
  | i, d :: ds => .tup [.int i, d] :: enumW (i + 1) ds
theorem enumW_get : ∀ {ds : List D} {lo : Int} {i : Nat} {w : D}, (enumW lo ds)[i]? = some w → ∃ d, ds[i]? = some d ∧ w = .tup [.int (lo + (i : Nat)), d]
  | [], _, _, _, h => by simp [enumW] at h
  | d :: ds, lo, 0, w, h => by
    rw [enumW] at h
    exact ⟨d, rfl, by rw [← Option.some.inj h]; simp⟩
  | d :: ds, lo, i + 1, w, h => by
    rw [enumW, List.getElem?_cons_succ] at h
    obtain ⟨d', h1, h2⟩ := enumW_get h
    refine ⟨d', h1, ?_⟩
    rw [h2]
    have : lo + 1 + (i : Int) = lo + ((i + 1 : Nat) : Int) := by omega
    rw [this]
theorem enumW_len : ∀ (lo : Int) (ds : List D), (enumW lo ds).length = ds.length
  | _, [] => rfl
  | lo, _ :: ds => congrArg (· + 1) (enumW_len (lo + 1) ds)
theorem gi_enum (h : SqL K V1 a xs) (r : RpA K V1 xs ds) : GI K V1 (Ite K a) (enumW 0 ds) none := by
  have hl := r.length
  refine ⟨fun i F V2 os H s2 r2 _ hi => ?_, fun i F V2 os H s2 r2 _ hi => ⟨xs, (s2.trans r2.vi).seq h, by rw [enumW_len] at hi; omega⟩, fun i F V2 os H x H' w s2 r2 _ y e => ?_⟩
  · rw [enumW_len] at hi
    exact ⟨xs, xs[i]'(by omega), (s2.trans r2.vi).seq h, by simp [hl, hi]⟩
  · obtain ⟨T, v, rfl, hT, rfl, y⟩ := y
    have ex := y xs ((s2.trans r2.vi).seq h)
    obtain ⟨d, ed, rd⟩ := r.getV ex
    obtain ⟨d', ed', rfl⟩ := enumW_get e
    rw [ed] at ed'; cases ed'
    obtain ⟨s3, r3, rp⟩ := rel_newT (vs := [.int (i : Nat), v]) (ds := [.int (i : Nat), d]) r2 hT (.cons (.int _) (.cons (Rp.mono s2 rd) .nil))
    rw [Int.zero_add]
    exact ⟨_, s3, r3, rp⟩
def zipW : List D → List D → List D
  | d :: ds, e :: es => .tup [d, e] :: zipW ds es
  | _, _ => []
theorem zipW_get : ∀ {ds es : List D} {i : Nat} {w : D}, (zipW ds es)[i]? = some w → ∃ d e, ds[i]? = some d ∧ es[i]? = some e ∧ w = .tup [d, e]
  | [], _, _, _, h => by simp [zipW] at h
  | _ :: _, [], _, _, h => by simp [zipW] at h
  | d :: ds, e :: es, 0, w, h => ⟨d, e, rfl, rfl, (Option.some.inj h).symm⟩
  | d :: ds, e :: es, i + 1, w, h => by
    rw [zipW, List.getElem?_cons_succ] at h
    have h2 := zipW_get (ds := ds) (es := es) (i := i) h
    exact h2
theorem zipW_len : ∀ ds es : List D, (zipW ds es).length = min ds.length es.length
  | [], _ => by simp [zipW]
  | _ :: _, [] => by simp [zipW]
  | _ :: ds, _ :: es => by rw [zipW, List.length_cons, zipW_len ds es, List.length_cons, List.length_cons]; omega
theorem gi_zip {b : Addr} {ys : List V} {es : List D} (h : SqL K V1 a xs) (r : RpA K V1 xs ds) (h' : SqL K V1 b ys) (r' : RpA K V1 ys es) : GI K V1 (Itz K a b) (zipW ds es) none := by
  have hl := r.length
  have hl' := r'.length
  have hz := zipW_len ds es
  refine ⟨fun i F V2 os H s2 r2 _ hi => ?_, fun i F V2 os H s2 r2 _ hi => ⟨xs, ys, (s2.trans r2.vi).seq h, (s2.trans r2.vi).seq h', by rw [hz] at hi; omega⟩, fun i F V2 os H x H' w s2 r2 _ y e => ?_⟩
  · rw [hz] at hi
    exact ⟨xs, ys, xs[i]'(by omega), ys[i]'(by omega), (s2.trans r2.vi).seq h, (s2.trans r2.vi).seq h', by simp, by simp⟩
  · obtain ⟨T, v, v', rfl, hT, rfl, y, y'⟩ := y
    obtain ⟨d, ed, rd⟩ := r.getV (y xs ((s2.trans r2.vi).seq h))
    obtain ⟨d2, ed2, rd2⟩ := r'.getV (y' ys ((s2.trans r2.vi).seq h'))
    obtain ⟨d', e', f1, f2, rfl⟩ := zipW_get e
    rw [ed] at f1; cases f1
    rw [ed2] at f2; cases f2
    obtain ⟨s3, r3, rp⟩ := rel_newT (vs := [v, v']) (ds := [d, d2]) r2 hT (.cons (Rp.mono s2 rd) (.cons (Rp.mono s2 rd2) .nil))
    exact ⟨_, s3, r3, rp⟩
end
section
variable {X : Cx} {tge e a b c3 : Expr} {p pos : Pos} {te ta tb tc : TrE}
/-- over a list, a tuple, an owned list -/
def iSeq (te : TrE) : TrI := fun kx env os ki => te kx env os fun w os1 => match w with
  | .lst ds => ki ds none os1
  | .tup ds => ki ds none os1
  | .ref p => ∃ (n : Nat) (ws : List D), os1[n]? = some (p, OO.lst ws) ∧ ki ws (some (p, ws)) os1
  | _ => False
theorem it_list {pins : List (Addr × Obj)} {σ : L2.St} {H : Hp} {s : Shared} {u : Addr} {xs : List V} {R : It → Hp → Prop} {E : Value → Shared → Prop} (I : Inv X pins σ H s) (hq : SqL X.K H u xs) (q : R (Itl X.K u) H) : wpAny (model X.prog X.w) X.A (pyIter (.ref u)) (PIE X pins σ tge R) E s := by
  obtain ⟨its, rv, pl, hz⟩ := I.list hq
  have fresh := I.fpOk (b := s.heap.objs.size) (Nat.le_refl _) (I.hok.fresh (Nat.le_refl _))
  refine wpAny_pyIter_list pl.isList ⟨s.heap.objs.size, [s.heap.objs.size], _, _, H, rfl, ?_, turn_list u _, ⟨_, Heap.get?_push_size _ rfl, rfl, rfl⟩, ?_, q⟩
  · exact I.kept (t' := s.toks) fun b o => Heap.get?_push_of_some _
  · intro b hb
    rw [List.mem_singleton] at hb
    exact hb ▸ fresh
theorem it_tup {pins : List (Addr × Obj)} {σ : L2.St} {H : Hp} {s : Shared} {u : Addr} {xs : List V} {R : It → Hp → Prop} {E : Value → Shared → Prop} (I : Inv X pins σ H s) (hq : SqT X.K H u xs) (q : R (Itt X.K u) H) : wpAny (model X.prog X.w) X.A (pyIter (.ref u)) (PIE X pins σ tge R) E s := by
  obtain ⟨its, rv, pl, hz⟩ := I.tuple hq
  have fresh := I.fpOk (b := s.heap.objs.size) (Nat.le_refl _) (I.hok.fresh (Nat.le_refl _))
  refine wpAny_pyIter_tuple (show s.heap.IsTuple u its.toArray from pl) ⟨s.heap.objs.size, [s.heap.objs.size], _, _, H, rfl, ?_, turn_tuple u _, ⟨_, Heap.get?_push_size _ rfl, rfl, rfl⟩, ?_, q⟩
  · exact I.kept (t' := s.toks) fun b o => Heap.get?_push_of_some _
  · intro b hb
    rw [List.mem_singleton] at hb
    exact hb ▸ fresh
theorem ci_seq (h : Cm X e te) : CmI X tge e (iSeq te) := by
  intro kx env os ki q F V0 H σ R W r sr ek c
  have hPI : PI X tge e (fun σ H R => wE X e σ H fun x H1 => ∃ (u : Addr) (xs : List V), x = .ref u ∧ ((SqL X.K H1 u xs ∧ R (Itl X.K u) H1) ∨ (SqT X.K H1 u xs ∧ R (Itt X.K u) H1))) := ⟨fun pins s σ H R I h => by
    refine thn (wE_pe.run pins s σ H _ I h) fun v s1 ⟨x, H1, I1, r1, u, xs, e1, q⟩ => ?_
    subst e1
    obtain rfl : v = Value.ref u := r1
    rcases q with ⟨hq, q⟩ | ⟨hq, q⟩
    · exact it_list I1 hq q
    · exact it_tup I1 hq q⟩
  refine wPI_of hPI ?_
  refine h _ _ _ _ q F V0 H σ _ W r sr ek fun V1 os1 H1 v w s1 r1 rv q => ?_
  split at q
  · obtain ⟨p, xs, rfl, h1, h2⟩ := rp_lst rv
    exact ⟨p, xs, rfl, .inl ⟨r1.vi.seq h1, c V1 os1 H1 _ _ _ s1 r1 (gi_list h1 h2) q⟩⟩
  · obtain ⟨p, xs, rfl, h1, h2⟩ := rp_tup rv
    exact ⟨p, xs, rfl, .inr ⟨same_sqT r1.vi h1, c V1 os1 H1 _ _ _ s1 r1 (gi_tup h1 h2) q⟩⟩
  · obtain ⟨n, ws, ho, q⟩ := q
    obtain rfl := rv.toRef
    obtain ⟨_, _, ho', h3, vs, rfl, h4⟩ := r1.own _ (List.mem_of_getElem? ho)
    exact ⟨_, vs, rfl, .inl ⟨SqL.of h3, c V1 os1 H1 _ _ _ s1 r1 gi_own q⟩⟩
  · exact q.elim
def iR1 (ta : TrE) : TrI := fun kx env os ki => ta kx env os fun w os1 => match w with
  | .int j => -(2 ^ 62) ≤ j ∧ j < 2 ^ 62 ∧ ki (rng 0 1 j.toNat) none os1
  | _ => False
theorem ci_range1 (hg : Gl X "range") (hm : X.mg "range" = none) (h : Cm X a ta) (hs : starEach [a] X.env = [(false, eval a X.env)]) : CmI X tge (.Call (.Name "range" p) [a] [] pos) (iR1 ta) := by
  intro kx env os ki q F V0 H σ R W r sr ek c
  refine wPI_of (pi_range1 hg hm (pa_cons wE_pe pa_nil hs) hs) ?_
  refine h _ _ _ _ q F V0 H σ _ W r sr ek fun V1 os1 H1 v w s1 r1 rv q => ?_
  split at q
  · cases rv
    exact ⟨_, rfl, q.1, q.2.1, c V1 os1 H1 _ _ _ s1 r1 (gi_rng 0 _) q.2.2⟩
  · exact q.elim
def iR2 (ta tb : TrE) : TrI := fun kx env os ki => ta kx env os fun w os1 => tb kx env os1 fun u os2 => match w with
  | .int i => (match u with
    | .int j => (-(2 ^ 62) ≤ i ∧ i < 2 ^ 62 ∧ -(2 ^ 62) ≤ j ∧ j < 2 ^ 62) ∧ ki (rng i 1 (j - i).toNat) none os2
    | _ => False)
  | _ => False
theorem ci_range2 (hg : Gl X "range") (hm : X.mg "range" = none) (h : Cm X a ta) (h2 : Cm X b tb) (hs : starEach [a, b] X.env = [(false, eval a X.env), (false, eval b X.env)]) (hs2 : starEach [b] X.env = [(false, eval b X.env)]) :
    CmI X tge (.Call (.Name "range" p) [a, b] [] pos) (iR2 ta tb) := by
  intro kx env os ki q F V0 H σ R W r sr ek c
  refine wPI_of (pi_range2 hg hm (pa_cons wE_pe (pa_cons wE_pe pa_nil hs2) (by rw [hs, hs2])) hs hs2) ?_
  refine h _ _ _ _ q F V0 H σ _ W r sr ek fun V1 os1 H1 v w s1 r1 rv q => ?_
  refine h2 _ _ _ _ q F V1 H1 σ _ W r1 (sr.mono s1) (ek.mono s1) fun V2 os2 H2 u y s2 r2 ru q => ?_
  split at q
  · split at q
    · cases rv; cases ru
      exact ⟨_, _, rfl, q.1, c V2 os2 H2 _ _ _ (s1.trans s2) r2 (gi_rng _ _) q.2⟩
    · exact q.elim
  · exact q.elim
/-- enumerate(a list) -/
def iEnum (te : TrE) : TrI := fun kx env os ki => te kx env os fun w os1 => match w with
  | .lst ds => ki (enumW 0 ds) none os1
  | _ => False
theorem ci_enum {elts : List Expr} {kk : Nat} {tpos : Pos} (hg : Gl X "enumerate") (hm : X.mg "enumerate" = none) (h : Cm X e te) (hs : starEach [e] X.env = [(false, eval e X.env)]) :
    CmI X (.Tuple elts kk tpos) (.Call (.Name "enumerate" p) [e] [] pos) (iEnum te) := by
  intro kx env os ki q F V0 H σ R W r sr ek c
  refine wPI_of (pi_enum hg hm (pa_cons wE_pe pa_nil hs) hs) ?_
  refine h _ _ _ _ q F V0 H σ _ W r sr ek fun V1 os1 H1 v w s1 r1 rv q => ?_
  split at q
  · obtain ⟨p, xs, rfl, h1, h2⟩ := rp_lst rv
    exact ⟨p, xs, rfl, r1.vi.seq h1, c V1 os1 H1 _ _ _ s1 r1 (gi_enum h1 h2) q⟩
  · exact q.elim
def iZip (ta tb : TrE) : TrI := fun kx env os ki => ta kx env os fun w os1 => tb kx env os1 fun u os2 => match w with
  | .lst ds => (match u with
    | .lst es => ki (zipW ds es) none os2
    | _ => False)
  | _ => False
theorem ci_zip {elts : List Expr} {kk : Nat} {tpos : Pos} (hg : Gl X "zip") (hm : X.mg "zip" = none) (h : Cm X a ta) (h2 : Cm X b tb)
    (hs : starEach [a, b] X.env = (false, eval a X.env) :: starEach [b] X.env) (hs2 : starEach [b] X.env = [(false, eval b X.env)]) (hpl : (backTo pos (starEach [b] X.env)).any (·.1) = false) :
    CmI X (.Tuple elts kk tpos) (.Call (.Name "zip" p) [a, b] [] pos) (iZip ta tb) := by
  intro kx env os ki q F V0 H σ R W r sr ek c
  refine wPI_of (pi_zip hg hm (pa_cons wE_pe (pa_cons wE_pe pa_nil hs2) hs) hs hpl) ?_
  refine h _ _ _ _ q F V0 H σ _ W r sr ek fun V1 os1 H1 v w s1 r1 rv q => ?_
  refine h2 _ _ _ _ q F V1 H1 σ _ W r1 (sr.mono s1) (ek.mono s1) fun V2 os2 H2 u y s2 r2 ru q => ?_
  split at q
  · split at q
    · obtain ⟨p, xs, rfl, h1, h2⟩ := rp_lst rv
      obtain ⟨p', ys, rfl, h3, h4⟩ := rp_lst ru
      exact ⟨p, p', xs, ys, rfl, (s2.trans r2.vi).seq h1, r2.vi.seq h3, c V2 os2 H2 _ _ _ (s1.trans s2) r2 (gi_zip (s2.seq h1) (RpA.mono s2 h2) h3 h4) q⟩
    · exact q.elim
  · exact q.elim
end

/-! ### less is told, in another order -/
def WkO (os os2 : Os) : Prop := ∃ or : Os, os.Perm (os2 ++ or)
theorem WkO.refl (os : Os) : WkO os os := ⟨[], by rw [List.append_nil]⟩
theorem WkO.perm {os os2 : Os} (h : os.Perm os2) : WkO os os2 := ⟨[], by rw [List.append_nil]; exact h⟩
theorem WkO.trans {a b c : Os} (h : WkO a b) (h2 : WkO b c) : WkO a c := by
  obtain ⟨r, h⟩ := h
  obtain ⟨r2, h2⟩ := h2
  exact ⟨r2 ++ r, h.trans (by rw [← List.append_assoc]; exact h2.append_right r)⟩
theorem WkO.drop1 {x : Addr × OO} {os : Os} : WkO (x :: os) os := ⟨[x], List.perm_append_comm (l₁ := [x]) (l₂ := os)⟩
theorem WkO.left {a b : Os} : WkO (a ++ b) a := ⟨b, .refl _⟩
theorem WkO.right {a b : Os} : WkO (a ++ b) b := ⟨a, List.perm_append_comm⟩
theorem WkO.cons {x : Addr × OO} {a b : Os} (h : WkO a b) : WkO (x :: a) (x :: b) := let ⟨r, h⟩ := h; ⟨r, h.cons x⟩
theorem WkO.append {a b c d : Os} (h : WkO a b) (h2 : WkO c d) : WkO (a ++ c) (b ++ d) := by
  obtain ⟨r, h⟩ := h
  obtain ⟨r2, h2⟩ := h2
  refine ⟨r ++ r2, (h.append h2).trans ?_⟩
  rw [List.append_assoc, List.append_assoc]
  refine List.Perm.append_left b ?_
  rw [← List.append_assoc, ← List.append_assoc]
  exact List.perm_append_comm.append_right r2
theorem WkO.sub {a b : Os} (h : b.Sublist a) : WkO a b := by
  induction h with
  | slnil => exact .refl _
  | cons x _ ih => exact WkO.trans .drop1 ih
  | cons_cons x _ ih => exact .cons ih
theorem Rel.wk {K : PySem.W.Frag} {F V0 H : Hp} {os os2 : Os} (r : Rel K F V0 os H) (h : WkO os os2) : Rel K F V0 os2 H := let ⟨_, h⟩ := h; (r.perm h).drop (List.sublist_append_left _ _)
def wkX (os : Os) (k : Os → Prop) : Prop := ∃ os2, WkO os os2 ∧ k os2
theorem wkX_id {os : Os} {k : Os → Prop} (h : k os) : wkX os k := ⟨os, .refl os, h⟩

/-! ### for -/
/-- what a loop's body ends in -/
abbrev KR.loop (R : KR) (again behind : DEnv → Os → Prop) : KR := { rt := R.rt, bk := behind, ct := again, ex := R.ex }
def forW (g : TrG) (body : TrS) (N : DEnv → Os → Prop) (R : KR) (gd : Gd) : List D → DEnv → Os → Prop
  | [], env, os => wkX os fun os => gK gd os (N env os)
  | w :: ws, env, os => wkX os fun os => gK gd os (g w env os fun env1 os1 => body (forW g body N R gd ws) (R.loop (forW g body N R gd ws) N) env1 os1)
/-- the same, not to be unfolded by a walk -/
@[irreducible] def forX (g : TrG) (body : TrS) (N : DEnv → Os → Prop) (R : KR) (gd : Gd) (ws : List D) (env : DEnv) (os : Os) : Prop := forW g body N R gd ws env os
theorem forX_eq {g : TrG} {body : TrS} {N : DEnv → Os → Prop} {R : KR} {gd : Gd} {ws : List D} {env : DEnv} {os : Os} : forX g body N R gd ws env os = forW g body N R gd ws env os := by unfold forX; rfl
def sFor (g : TrG) (ti : TrI) (body : TrS) : TrS := fun N R env os => ti (R.xk env) env os fun ws gd os1 => forX g body N R gd ws env os1
theorem c1_for {X : Cx} {tge iter : Expr} {body : List Stmt} {pos : Pos} {g : TrG} {ti : TrI} {tb : TrS} (hg : CmG X tge g) (h : CmI X tge iter ti) (hb : CmSs X body tb) (hc : X.calm = true) (hp : PassesOwn (model X.prog X.w) X.A X.env X.xe)
    (hs : ∀ x, foldedSetIterable iter X.env x = pure x) : CmS X (.For tge iter body [] pos) (sFor g ti tb) := by
  intro N R env os q F V0 H σ D W r sr ek
  refine wS1_of (ps_for hp hc wPI_pi wG_pg wSs_pss hs) ?_
  refine h _ _ _ _ q F V0 H σ _ W r sr (ek.xk sr) fun V1 os1 H1 J ws gd s1 r1 gi q => ?_
  rw [forX_eq] at q
  refine ⟨fun i m σ2 H2 => m = ws.length - i ∧ i ≤ ws.length ∧ ∃ (V2 : Hp) (os2 : Os) (env2 : DEnv), Same V1 V2 ∧ Rel X.K F V2 os2 H2 ∧ SR X.K V2 σ2 env2 ∧ forW g tb N R gd (ws.drop i) env2 os2,
    ⟨ws.length, rfl, Nat.zero_le _, V1, os1, env, Same.refl _, r1, sr.mono s1, q⟩, ?_⟩
  rintro i m σ2 H2 ⟨rfl, hi, V2, os0, env2, s2, r0, sr2, q2⟩
  by_cases hlt : i < ws.length
  · rw [List.drop_eq_getElem_cons hlt] at q2
    obtain ⟨os2, hwk, q2⟩ := q2
    have r2 := r0.wk hwk
    obtain ⟨hG, q2⟩ := gK_ok q2
    refine .inr ⟨gi.go i F V2 os2 H2 s2 r2 hG hlt, fun σ3 H3 => ∃ (V3 : Hp) (os3 : Os) (env3 : DEnv), Same V1 V3 ∧ Rel X.K F V3 os3 H3 ∧ SR X.K V3 σ3 env3 ∧ forW g tb N R gd (ws.drop (i + 1)) env3 os3,
      fun σ3 H3 q3 => ⟨ws.length - (i + 1), by omega, rfl, hlt, q3⟩, fun x H' y => ?_⟩
    obtain ⟨V3, s3, r3, rw3⟩ := gi.yld i F V2 os2 H2 x H' ws[i] s2 r2 hG y (List.getElem?_eq_getElem hlt)
    refine hg _ _ _ _ q2 F V3 H' σ2 x _ W r3 (sr2.mono s3) rw3 ek.tk fun V4 os4 H4 σ4 env4 s4 r4 sr4 q4 => ?_
    have s14 := (s2.trans s3).trans s4
    refine hb _ _ _ _ q4 F V4 H4 σ4 _ W r4 sr4 ⟨fun V5 os5 H5 σ5 env5 s5 r5 sr5 q5 => ⟨V5, os5, env5, s14.trans s5, r5, sr5, q5⟩, fun V5 os5 H5 v w s5 r5 rv q5 => ?_, fun V5 os5 H5 σ5 env5 s5 r5 sr5 q5 => ?_, fun V5 os5 H5 σ5 env5 s5 r5 sr5 q5 => ⟨V5, os5, env5, s14.trans s5, r5, sr5, q5⟩, ek.tk,
      fun V5 os5 H5 σ5 env5 cls d x s5 r5 sr5 ex q5 => ek.ex V5 os5 H5 σ5 env5 cls d x ((s1.trans s14).trans s5) r5 sr5 ex q5⟩
    · exact ek.rt V5 os5 H5 v w ((s1.trans s14).trans s5) r5 rv q5
    · exact ek.nx V5 os5 H5 σ5 env5 ((s1.trans s14).trans s5) r5 sr5 q5
  · have e : i = ws.length := by omega
    subst e
    rw [List.drop_length] at q2
    obtain ⟨os2, hwk, q2⟩ := q2
    have r2 := r0.wk hwk
    obtain ⟨hG, q2⟩ := gK_ok q2
    exact .inl ⟨gi.stop _ F V2 os2 H2 s2 r2 hG (Nat.le_refl _), ek.nx V2 os2 H2 σ2 env2 (s1.trans s2) r2 sr2 q2⟩
/-- by an invariant over the turn: whatever goes on behind the turn -/
theorem forX_inv {g : TrG} {body : TrS} {N : DEnv → Os → Prop} {R : KR} {gd : Gd} {ws : List D} {env : DEnv} {os : Os} (I : Nat → DEnv → Os → Prop) (h0 : I 0 env os)
    (hs : ∀ (i : Nat) (w : D) (env : DEnv) (os : Os) (M : DEnv → Os → Prop), ws[i]? = some w → I i env os → (∀ e o o2, WkO o o2 → I (i + 1) e o2 → M e o) → g w env os fun env1 os1 => body M (R.loop M N) env1 os1)
    (hd : ∀ env os, I ws.length env os → N env os) (hG : ∀ i env os, I i env os → gOk gd os) : forX g body N R gd ws env os := by
  rw [forX_eq]
  have gen : ∀ (m i : Nat) (env : DEnv) (os os2 : Os), m = ws.length - i → i ≤ ws.length → WkO os os2 → I i env os2 → forW g body N R gd (ws.drop i) env os := by
    intro m
    induction m with
    | zero =>
      intro i env os os2 hm hi hw h
      have e : i = ws.length := by omega
      subst e
      rw [List.drop_length]
      exact ⟨os2, hw, gK_mk (hG _ env os2 h) (hd env os2 h)⟩
    | succ m ih =>
      intro i env os os2 hm hi hw h
      have hlt : i < ws.length := by omega
      rw [List.drop_eq_getElem_cons hlt]
      exact ⟨os2, hw, gK_mk (hG i env os2 h) (hs i ws[i] env os2 _ (List.getElem?_eq_getElem hlt) h fun e o o2 hw2 z => ih (i + 1) e o o2 (by omega) hlt hw2 z)⟩
  exact gen _ 0 env os os rfl (Nat.zero_le _) (.refl _) h0

theorem forX_nil {g : TrG} {body : TrS} {N : DEnv → Os → Prop} {R : KR} {env : DEnv} {os : Os} (h : N env os) : forX g body N R none [] env os := by rw [forX_eq]; exact wkX_id h
theorem forX_cons {g : TrG} {body : TrS} {N : DEnv → Os → Prop} {R : KR} {w : D} {ws : List D} {env : DEnv} {os : Os} (h : g w env os fun env1 os1 => body (forX g body N R none ws) (R.loop (forX g body N R none ws) N) env1 os1) : forX g body N R none (w :: ws) env os := by
  have e : forX g body N R none ws = forW g body N R none ws := by funext a b; exact forX_eq
  rw [forX_eq]
  rw [e] at h
  exact wkX_id h

/-! ### while -/
def whileW (c : TrT) (body : TrS) (N : DEnv → Os → Prop) (R : KR) : Nat → DEnv → Os → Prop
  | 0, _, _ => False
  | n + 1, env, os => wkX os fun os => c (R.xk env) env os fun b os1 => (b = true → body (whileW c body N R n) (R.loop (whileW c body N R n) N) env os1) ∧ (b = false → N env os1)
@[irreducible] def whileX (c : TrT) (body : TrS) (N : DEnv → Os → Prop) (R : KR) (env : DEnv) (os : Os) : Prop := ∃ n, whileW c body N R n env os
def sWhile (c : TrT) (body : TrS) : TrS := fun N R env os => whileX c body N R env os
theorem c1_while {X : Cx} {c : Expr} {body : List Stmt} {pos : Pos} {tc : TrT} {tb : TrS} (hc : CmT X c tc) (hb : CmSs X body tb) (hp : PassesOwn (model X.prog X.w) X.A X.env X.xe) : CmS X (.While c body [] pos) (sWhile tc tb) := by
  intro N R env os q F V0 H σ D W r sr ek
  unfold sWhile whileX at q
  obtain ⟨n0, q⟩ := q
  refine wS1_of (ps_while hp wTt_pt wSs_pss) ?_
  refine ⟨fun m σ1 H1 => ∃ (V1 : Hp) (os1 : Os) (env1 : DEnv), Same V0 V1 ∧ Rel X.K F V1 os1 H1 ∧ SR X.K V1 σ1 env1 ∧ whileW tc tb N R m env1 os1, ⟨n0, V0, os, env, Same.refl _, r, sr, q⟩, ?_⟩
  rintro m σ1 H1 ⟨V1, os0, env1, s1, r0, sr1, q⟩
  cases m with
  | zero => exact q.elim
  | succ m =>
    obtain ⟨os1, hwk, q⟩ := q
    have r1 := r0.wk hwk
    refine hc _ _ _ _ q F V1 H1 σ1 _ W r1 sr1 ((ek.mono s1).xk sr1) fun V2 os2 H2 b s2 r2 q2 => ?_
    cases b with
    | false => exact iteF (ek.nx V2 os2 H2 σ1 env1 (s1.trans s2) r2 (sr1.mono s2) (q2.2 rfl))
    | true =>
      refine iteT ⟨fun σ3 H3 => ∃ m', m' < m + 1 ∧ ∃ (V3 : Hp) (os3 : Os) (env3 : DEnv), Same V0 V3 ∧ Rel X.K F V3 os3 H3 ∧ SR X.K V3 σ3 env3 ∧ whileW tc tb N R m' env3 os3, fun σ3 H3 z => z, ?_⟩
      have s12 := s1.trans s2
      refine hb _ _ _ _ (q2.1 rfl) F V2 H2 σ1 _ W r2 (sr1.mono s2) ⟨fun V3 os3 H3 σ3 env3 s3 r3 sr3 q3 => ⟨m, Nat.lt_succ_self _, V3, os3, env3, s12.trans s3, r3, sr3, q3⟩, fun V3 os3 H3 v w s3 r3 rv q3 => ek.rt V3 os3 H3 v w (s12.trans s3) r3 rv q3,
        fun V3 os3 H3 σ3 env3 s3 r3 sr3 q3 => ek.nx V3 os3 H3 σ3 env3 (s12.trans s3) r3 sr3 q3, fun V3 os3 H3 σ3 env3 s3 r3 sr3 q3 => ⟨m, Nat.lt_succ_self _, V3, os3, env3, s12.trans s3, r3, sr3, q3⟩, ek.tk,
        fun V3 os3 H3 σ3 env3 cls d x s3 r3 sr3 ex q3 => ek.ex V3 os3 H3 σ3 env3 cls d x (s12.trans s3) r3 sr3 ex q3⟩
/-- by an invariant with a measure -/
theorem whileX_inv {c : TrT} {body : TrS} {N : DEnv → Os → Prop} {R : KR} {env : DEnv} {os : Os} (I : Nat → DEnv → Os → Prop) (m : Nat) (h0 : I m env os)
    (hs : ∀ (m : Nat) (env : DEnv) (os : Os) (M : DEnv → Os → Prop), I m env os → (∀ m' e o o2, m' < m → WkO o o2 → I m' e o2 → M e o) →
      c (R.xk env) env os fun b os1 => (b = true → body M (R.loop M N) env os1) ∧ (b = false → N env os1)) : whileX c body N R env os := by
  unfold whileX
  have gen : ∀ (f m : Nat) (env : DEnv) (os os2 : Os), m < f → WkO os os2 → I m env os2 → whileW c body N R f env os := by
    intro f
    induction f with
    | zero => intro m env os os2 h; omega
    | succ f ih => intro m env os os2 h hw hI; exact ⟨os2, hw, hs m env os2 _ hI fun m' e o o2 hm hw2 hI' => ih m' e o o2 (by omega) hw2 hI'⟩
  exact ⟨m + 1, gen _ m env os os (Nat.lt_succ_self _) (.refl _) h0⟩
end EV

set_option Elab.async false
set_option linter.all false
set_option maxRecDepth 100000
/-! E5: name op= e, list comprehensions. -/
namespace EV
open PySem PySem.Spec PyProof.Rows L2
section
variable {X : Cx} {pos : Pos} {e : Expr} {te : TrE}
theorem c1_augAdd {i : Nat} {x : Str} {pos' : Pos} (hN : X.N.Nodup) (hi : X.N[i]? = some x) (hx : Loc X.env.scope x) (h : Cm X e te) (hf : X.fn x = true ∨ X.env.scope.names.lookup x = some .local) : CmS X (.AugAssign (.Name x pos') .Add e pos) (sAug i (oI0 fun i j => i + j) te) := by
  intro N R env os q F V0 H σ D W r sr ek
  refine wS1_of (ps_aug hN hi hx wE_pe ip_add hf) ?_
  unfold sAug at q
  split at q
  · rename_i w he
    obtain ⟨v, e1, r1⟩ := sr.2 i w (getE_eq _ _ _ he)
    refine ⟨v, e1, ?_⟩
    refine h _ _ _ _ q F V0 H σ _ W r sr (ek.xk sr) fun V1 os1 H1 u y s1 r2 ru q => ?_
    unfold oI0 at q
    split at q
    · cases r1; cases ru
      exact ⟨_, _, rfl, rfl, ek.nx V1 os1 H1 _ _ s1 r2 (sr_setE (sr.mono s1) rwI i) q⟩
    · exact q.elim
  · exact q.elim
theorem c1_augSub {i : Nat} {x : Str} {pos' : Pos} (hN : X.N.Nodup) (hi : X.N[i]? = some x) (hx : Loc X.env.scope x) (h : Cm X e te) (hf : X.fn x = true ∨ X.env.scope.names.lookup x = some .local) : CmS X (.AugAssign (.Name x pos') .Sub e pos) (sAug i (oI0 fun i j => i - j) te) := by
  intro N R env os q F V0 H σ D W r sr ek
  refine wS1_of (ps_aug hN hi hx wE_pe ip_sub hf) ?_
  unfold sAug at q
  split at q
  · rename_i w he
    obtain ⟨v, e1, r1⟩ := sr.2 i w (getE_eq _ _ _ he)
    refine ⟨v, e1, ?_⟩
    refine h _ _ _ _ q F V0 H σ _ W r sr (ek.xk sr) fun V1 os1 H1 u y s1 r2 ru q => ?_
    unfold oI0 at q
    split at q
    · cases r1; cases ru
      exact ⟨_, _, rfl, rfl, ek.nx V1 os1 H1 _ _ s1 r2 (sr_setE (sr.mono s1) rwI i) q⟩
    · exact q.elim
  · exact q.elim
end

/-! ### list comprehensions -/
@[irreducible] def wTs (X : Cx) (ifs : List Expr) : TT := fun σ H Q => ∀ (pins : List (Addr × Obj)) (s : Shared), Inv X pins σ H s →
    wpAny (model X.prog X.w) X.A (forIn ifs true fun c r => if r = true then do let ok ← isTrue c X.env (eval c X.env); pure (ForInStep.yield ok) else pure (ForInStep.yield r)) (TP X pins σ Q) X.xe s
def CmTs (X : Cx) (ifs : List Expr) (t : TrT) : Prop := ∀ env os k, t kx0 env os k → ∀ (F V0 H : Hp) (σ : L2.St) (Q : Bool → Hp → Prop), Rel X.K F V0 os H → SR X.K V0 σ env →
    (∀ (V1 : Hp) (os1 : Os) (H1 : Hp) (b : Bool), Same V0 V1 → Rel X.K F V1 os1 H1 → k b os1 → Q b H1) → wTs X ifs σ H Q
/-- no test -/
def tYes : TrT := fun _ _ os k => k true os
theorem wTs_pts {X : Cx} {ifs : List Expr} : PTs X ifs (wTs X ifs) := by unfold wTs; exact ⟨fun pins s _ _ _ I h => h pins s I⟩
theorem wTs_of {X : Cx} {ifs : List Expr} {t : TT} (h : PTs X ifs t) {σ : L2.St} {H : Hp} {Q : Bool → Hp → Prop} (q : t σ H Q) : wTs X ifs σ H Q := by unfold wTs; exact fun pins s I => h.run pins s σ H Q I q
theorem cts_nil {X : Cx} : CmTs X [] tYes := fun env os k q F V0 H σ Q r sr c => wTs_of pts_nil (c V0 os H true (Same.refl _) r q)
theorem cts_one {X : Cx} {e : Expr} {t : TrT} (h : CmT X e t) : CmTs X [e] t := fun env os k q F V0 H σ Q r sr c => wTs_of (pts_one wTt_pt) (h _ _ _ _ q F V0 H σ Q _ r sr XkOk.none c)
def wipeE (env : DEnv) : List Nat → DEnv
  | [] => env
  | v :: vs => setE (wipeE env vs) v none
theorem set_none {K : PySem.W.Frag} {V0 : Hp} {σ : L2.St} {env : DEnv} (h : SR K V0 σ env) (i : Nat) : SR K V0 (σ.set i none) (setE env i none) := by
  rw [setE_eq]
  refine ⟨by rw [List.length_set, List.length_set]; exact h.1, fun j u q => ?_⟩
  by_cases e : i = j
  · subst e
    have hi : i < env.length := by
      have := (List.getElem?_eq_some_iff.mp q).1
      rw [List.length_set] at this; exact this
    rw [List.getElem?_set_self hi] at q
    cases q
  · rw [List.getElem?_set_ne e] at q ⊢
    exact h.2 j u q
theorem sr_wipe {K : PySem.W.Frag} {V0 : Hp} {σ : L2.St} {env : DEnv} (h : SR K V0 σ env) : ∀ vs : List Nat, SR K V0 (L2.wipe σ vs) (wipeE env vs)
  | [] => h
  | v :: vs => set_none (sr_wipe h vs) v
theorem wipe_set {σ : L2.St} {i : Nat} {x : Option V} : ∀ {vs : List Nat}, i ∈ vs → L2.wipe (σ.set i x) vs = L2.wipe σ vs
  | [], h => by cases h
  | v :: vs, h => by
    unfold L2.wipe
    by_cases hv : i ∈ vs
    · rw [wipe_set hv]
    · have e : i = v := by
        rcases List.mem_cons.mp h with e | e
        · exact e
        · exact absurd e hv
      subst e
      have gen : ∀ us : List Nat, i ∉ us → L2.wipe (σ.set i x) us = (L2.wipe σ us).set i x := by
        intro us
        induction us with
        | nil => intro _; rfl
        | cons u us ih =>
          intro hu
          unfold L2.wipe
          rw [ih fun z => hu (List.mem_cons_of_mem _ z), List.set_comm]
          intro e; exact hu (by rw [e]; exact List.mem_cons_self)
      rw [gen vs hv, List.set_set]
theorem wipe_idem {σ : L2.St} {i : Nat} {x : Option V} {vs : List Nat} (h : i ∈ vs) : L2.wipe ((L2.wipe σ vs).set i x) vs = L2.wipe (L2.wipe σ vs) vs := wipe_set h
theorem wipe_wipe {σ : L2.St} (vs : List Nat) : L2.wipe (L2.wipe σ vs) vs = L2.wipe σ vs := by
  refine List.ext_getElem? fun j => ?_
  by_cases hj : j ∈ vs
  · have gen : ∀ (τ : L2.St) (us : List Nat), j ∈ us → (L2.wipe τ us)[j]? = τ[j]?.map fun _ => none := by
      intro τ us
      induction us with
      | nil => intro h; cases h
      | cons u us ih =>
        intro h
        unfold L2.wipe
        by_cases e : u = j
        · subst e
          rw [List.getElem?_set_self', ]
          by_cases hu : u ∈ us
          · rw [ih hu]; cases τ[u]? <;> rfl
          · rw [L2.wipe_out hu]; cases τ[u]? <;> rfl
        · rw [List.getElem?_set_ne e]
          refine ih ?_
          rcases List.mem_cons.mp h with z | z
          · exact absurd z.symm e
          · exact z
    rw [gen _ vs hj, gen _ vs hj]
    cases σ[j]? <;> rfl
  · rw [L2.wipe_out hj, L2.wipe_out hj]


/-- the block's context -/
abbrev Bk (X : Cx) (scope : Scope) (s : Shared) (H : Hp) (C : Addr) (cl : List (Str × Addr)) (fp : List Addr) : Cx := X.blk s H scope (compEnvC scope cl C X.env) fp
/-- how an item is bound -/
abbrev TrB := D → DEnv → (DEnv → Prop) → Prop
def BindOk (K : PySem.W.Frag) (vs : List Nat) (g : TG) (b : TrB) : Prop := ∀ (F V3 H' : Hp) (os : Os) (σ : L2.St) (env : DEnv) (x : V) (w : D) (kk : DEnv → Prop) (Q : L2.St → Hp → Prop),
  Rel K F V3 os H' → Rp K V3 x w → SR K V3 (L2.wipe σ vs) env → b w env kk → (∀ σ2 env2, SR K V3 σ2 env2 → L2.wipe σ2 vs = L2.wipe σ vs → kk env2 → Q σ2 H') → g x (L2.wipe σ vs) H' Q
def b1 (i : Nat) : TrB := fun w env k => k (setE env i (some w))
def b2 (i j : Nat) : TrB := fun w env k => match w with
  | .tup [d1, d2] => k (setE (setE env i (some d1)) j (some d2))
  | _ => False
theorem bind1 {K : PySem.W.Frag} {vs : List Nat} {i : Nat} (hm : i ∈ vs) : BindOk K vs (L2.gName i) (b1 i) :=
  fun F V3 H' os σ env x w kk Q r rx sr q c => c _ _ (sr_setE sr rx i) (by rw [wipe_set hm, wipe_wipe]) q
theorem bind2 {K : PySem.W.Frag} {vs : List Nat} {i j : Nat} (hm : i ∈ vs) (hm2 : j ∈ vs) : BindOk K vs (L2.gTup K 2 (L2.gCons (L2.gName i) (L2.gCons (L2.gName j) L2.gNil))) (b2 i j) := by
  intro F V3 H' os σ env x w kk Q r rx sr q c
  unfold b2 at q
  split at q
  · obtain ⟨p, xs, rfl, h1, h2⟩ := rp_tup rx
    obtain ⟨v1, v2, rfl, w1, w2⟩ := h2.two
    exact ⟨p, [v1, v2], rfl, same_sqT r.vi h1, rfl, v1, [v2], rfl, v2, [], rfl, rfl, c _ _ (sr_setE (sr_setE sr w1 i) w2 j) (by rw [wipe_set hm2, wipe_set hm, wipe_wipe]) q⟩
  · exact q.elim
/-- the turns over ws, acc made so far -/
def lcW (b : TrB) (t : TrT) (te : TrE) (env : DEnv) (k : List D → Os → Prop) (gd : Gd) : List D → List D → Os → Prop
  | [], acc, os => wkX os fun os => gK gd os (k acc os)
  | w :: ws, acc, os => wkX os fun os => gK gd os (b w env fun env1 => t kx0 env1 os fun bo os1 => (bo = true → te kx0 env1 os1 fun y os2 => lcW b t te env k gd ws (acc ++ [y]) os2) ∧ (bo = false → lcW b t te env k gd ws acc os1))
def lcK (own : Bool) (k : D → Os → Prop) : List D → Os → Prop := fun ds os => if own then ∀ p, k (.ref p) ((p, .lst ds) :: os) else k (.lst ds) os
theorem tlc_of {X : Cx} {kx : Kx} {env : DEnv} {os : Os} {k : D → Os → Prop} {own0 : Bool} {elt iter tg : Expr} {ifs : List Expr} {scope : Scope} {vs : List Nat} {g : TG} {bn : TrB} {tt : TrT} {te : TrE} {ti : TrI}
    (hb : BindOk X.K vs g bn) (hi : CmI X tg iter ti) (ht : ∀ s H C cl fp, CmTs (Bk X scope s H C cl fp) ifs tt) (he : ∀ s H C cl fp, Cm (Bk X scope s H C cl fp) elt te)
    (h : ti kx env os fun ws gd os1 => ws.length ≤ sizeLine ∧ lcW bn tt te (wipeE env vs) (lcK own0 k) gd ws [] os1) {F V0 H : Hp} {σ : L2.St} {Q : VK} {W : WX} (r : Rel X.K F V0 os H) (sr : SR X.K V0 σ env) (ek : XkOk X F V0 σ kx W)
    (c : ∀ (V1 : Hp) (os1 : Os) (H1 : Hp) (v : V) (w : D), Same V0 V1 → Rel X.K F V1 os1 H1 → Rp X.K V1 v w → k w os1 → Q v H1) :
    tLc (wPI X tg iter) g (fun σ H Q => ∀ s0 H0 C cl fp, wTs (Bk X scope s0 H0 C cl fp) ifs σ H Q) (fun σ H Q => ∀ s0 H0 C cl fp, wE (Bk X scope s0 H0 C cl fp) elt σ H Q) vs σ H Q := by
  refine hi _ _ _ _ h F V0 H σ _ W r sr ek fun V1 os1 H1 J ws gd s1 r1 gi ⟨hz, q⟩ => ?_
  intro L hL
  have hFL := r1.fr.free hL
  have hVL := r1.vi.free hL
  -- the list in the frame
  have put : ∀ (acc : List V) (V2 : Hp) (os2 : Os) (H2 : Hp), Rel X.K F V2 os2 H2 → H2 L = none → Rel X.K (upd F L (.lst acc)) V2 os2 (upd H2 L (.lst acc)) := by
    intro acc V2 os2 H2 r2 hn
    have f2 := r2.fr.free hn
    have v2 := r2.vi.free hn
    refine ⟨fun a o e => ?_, fun a o e => ?_, fun a o e => ?_, fun p hp => ?_, r2.nd⟩
    · by_cases ha : a = L
      · subst ha; rw [upd_same] at e ⊢; exact e
      · rw [upd_ne ha] at e ⊢; exact r2.fr a o e
    · rw [upd_ne (ne_of_none e v2)]
      exact r2.vi a o e
    · by_cases ha : a = L
      · subst ha; exact v2
      · rw [upd_ne ha] at e; exact r2.fv a o e
    · obtain ⟨h1, h2, ho, h3, h4⟩ := r2.own p hp
      have ne := ne_of_none h3 hn
      exact ⟨by rw [upd_ne ne]; exact h1, h2, ho, by rw [upd_ne ne]; exact h3, h4⟩
  have grow : ∀ (acc acc' : List V) (V2 : Hp) (os2 : Os) (H2 : Hp), Rel X.K (upd F L (.lst acc)) V2 os2 H2 → Rel X.K (upd F L (.lst acc')) V2 os2 (upd H2 L (.lst acc')) := by
    intro acc acc' V2 os2 H2 r2
    have v2 : V2 L = none := r2.fv L _ upd_same
    refine ⟨fun a o e => ?_, fun a o e => ?_, fun a o e => ?_, fun p hp => ?_, r2.nd⟩
    · by_cases ha : a = L
      · subst ha; rw [upd_same] at e ⊢; exact e
      · rw [upd_ne ha] at e ⊢; exact r2.fr a o (by rw [upd_ne ha]; exact e)
    · rw [upd_ne (ne_of_none e v2)]
      exact r2.vi a o e
    · by_cases ha : a = L
      · subst ha; exact v2
      · rw [upd_ne ha] at e; exact r2.fv a o (by rw [upd_ne ha]; exact e)
    · obtain ⟨h1, h2, ho, h3, h4⟩ := r2.own p hp
      have ne : p.1 ≠ L := fun z => by rw [z, upd_same] at h1; cases h1
      exact ⟨by rw [upd_ne ne] at h1 ⊢; exact h1, h2, ho, by rw [upd_ne ne]; exact h3, h4⟩
  have done : ∀ (acc : List V) (V2 : Hp) (os2 : Os) (H2 : Hp), Rel X.K (upd F L (.lst acc)) V2 os2 H2 → Same V2 (upd V2 L (.lst acc)) ∧ Rel X.K F (upd V2 L (.lst acc)) os2 H2 := by
    intro acc V2 os2 H2 r2
    have v2 : V2 L = none := r2.fv L _ upd_same
    have sv := same_upd (o := .lst acc) v2
    refine ⟨sv, ⟨fun a o e => r2.fr a o (by rw [upd_ne (ne_of_none e hFL)]; exact e), fun a o e => ?_, fun a o e => ?_, fun p hp => ?_, r2.nd⟩⟩
    · by_cases ha : a = L
      · subst ha; rw [upd_same] at e; exact r2.fr a o (by rw [upd_same]; exact e)
      · rw [upd_ne ha] at e; exact r2.vi a o e
    · have ne := ne_of_none e hFL
      rw [upd_ne ne]
      exact r2.fv a o (by rw [upd_ne ne]; exact e)
    · obtain ⟨h1, h2, ho, h3, h4⟩ := r2.own p hp
      have ne : p.1 ≠ L := fun z => by rw [z, upd_same] at h1; cases h1
      exact ⟨by rw [upd_ne ne] at h1; exact h1, by rw [upd_ne ne]; exact h2, ho, h3, h4.mono sv⟩
  refine ⟨fun j m H2 => m = ws.length - j ∧ j ≤ ws.length ∧ ∃ (V2 : Hp) (os2 : Os) (av : List V) (ad : List D), Same V1 V2 ∧ Rel X.K (upd F L (.lst av)) V2 os2 H2 ∧ RpA X.K V2 av ad ∧ ad.length ≤ j ∧ lcW bn tt te (wipeE env vs) (lcK own0 k) gd (ws.drop j) ad os2,
    ⟨ws.length, rfl, Nat.zero_le _, V1, os1, [], [], Same.refl _, put [] V1 os1 H1 r1 hL, .nil, Nat.le_refl _, q⟩, ?_⟩
  rintro j m H2 ⟨rfl, hj, V2, os0, av, ad, s2, r0, ra2, hl2, q2⟩
  by_cases hlt : j < ws.length
  · rw [List.drop_eq_getElem_cons hlt] at q2
    obtain ⟨os2, hwk, q2⟩ := q2
    have r2 := r0.wk hwk
    obtain ⟨hG, q2⟩ := gK_ok q2
    refine .inr ⟨gi.go j (upd F L (.lst av)) V2 os2 H2 s2 r2 hG hlt, fun H3 => ∃ (V3 : Hp) (os3 : Os) (av3 : List V) (ad3 : List D), Same V1 V3 ∧ Rel X.K (upd F L (.lst av3)) V3 os3 H3 ∧ RpA X.K V3 av3 ad3 ∧ ad3.length ≤ j + 1 ∧ lcW bn tt te (wipeE env vs) (lcK own0 k) gd (ws.drop (j + 1)) ad3 os3,
      fun H3 q3 => ⟨ws.length - (j + 1), by omega, rfl, hlt, q3⟩, fun x' H' y => ?_⟩
    obtain ⟨V3, s3, r3, rw3⟩ := gi.yld j (upd F L (.lst av)) V2 os2 H2 x' H' ws[j] s2 r2 hG y (List.getElem?_eq_getElem hlt)
    refine hb (upd F L (.lst av)) V3 H' os2 σ _ x' ws[j] _ _ r3 rw3 ((sr_wipe (sr.mono s1) _).mono (s2.trans s3)) q2 fun σ2 env2 sr3 hw q2 => ⟨hw, fun s0 H0 C cl fp => ?_⟩
    refine ht s0 H0 C cl fp _ _ _ q2 (upd F L (.lst av)) V3 H' _ _ r3 sr3 fun V4 os4 H4 b s4 r4 q4 => ?_
    cases b with
    | false => exact iteF ⟨V4, os4, av, ad, (s2.trans s3).trans s4, r4, RpA.mono (s3.trans s4) ra2, Nat.le_succ_of_le hl2, q4.2 rfl⟩
    | true =>
      refine iteT fun s0 H0 C cl fp => ?_
      refine he s0 H0 C cl fp _ _ _ _ (q4.1 rfl) (upd F L (.lst av)) V4 H4 _ _ _ r4 (sr3.mono s4) XkOk.none fun V5 os5 H5 y5 w5 s5 r5 rw5 q5 => ?_
      have s35 := (s3.trans s4).trans s5
      have ra5 : RpA X.K V5 (av ++ [y5]) (ad ++ [w5]) := (RpA.mono s35 ra2).append (.cons rw5 .nil)
      refine ⟨av, r5.fr L _ upd_same, ?_, V5, os5, av ++ [y5], ad ++ [w5], s2.trans s35, grow av _ V5 os5 H5 r5, ra5, by rw [List.length_append, List.length_singleton]; omega, q5⟩
      rw [ra2.length]
      omega
  · have e : j = ws.length := by omega
    subst e
    rw [List.drop_length] at q2
    obtain ⟨os2, hwk, q2⟩ := q2
    have r2 := r0.wk hwk
    obtain ⟨hG, q2⟩ := gK_ok q2
    refine .inl ⟨gi.stop _ (upd F L (.lst av)) V2 os2 H2 s2 r2 hG (Nat.le_refl _), ?_⟩
    have q2 : lcK own0 k ad os2 := q2
    unfold lcK at q2
    split at q2
    · have v2 : V2 L = none := r2.fv L _ upd_same
      refine c V2 ((L, .lst ad) :: os2) H2 (.ref L) (.ref L) (s1.trans s2) ⟨fun a o e => r2.fr a o (by rw [upd_ne (ne_of_none e hFL)]; exact e), r2.vi, fun a o e => ?_, fun p hp => ?_, ?_⟩ (.ref L) (q2 L)
      · exact r2.fv a o (by rw [upd_ne (ne_of_none e hFL)]; exact e)
      · rcases List.mem_cons.mp hp with e | hp
        · subst e
          exact ⟨hFL, v2, _, r2.fr L _ upd_same, av, rfl, ra2⟩
        · obtain ⟨h1, h2, ho, h3, h4⟩ := r2.own p hp
          have ne : p.1 ≠ L := fun z => by rw [z, upd_same] at h1; cases h1
          exact ⟨by rw [upd_ne ne] at h1; exact h1, h2, ho, h3, h4⟩
      · rw [List.map_cons, List.nodup_cons]
        refine ⟨fun hm => ?_, r2.nd⟩
        obtain ⟨q, hq, e⟩ := List.mem_map.mp hm
        obtain ⟨h1, _⟩ := r2.own q hq
        have e' : q.1 = L := e
        rw [e', upd_same] at h1
        cases h1
    · obtain ⟨sv, r3⟩ := done av V2 os2 H2 r2
      exact c _ os2 H2 (.ref L) (.lst ad) ((s1.trans s2).trans sv) r3 (.lst (.inl (.inl upd_same)) (RpA.mono sv ra2)) q2
@[irreducible] def lcX (b : TrB) (t : TrT) (te : TrE) (env : DEnv) (k : List D → Os → Prop) (gd : Gd) (ws : List D) (os : Os) : Prop := lcW b t te env k gd ws [] os
theorem lcX_eq {b : TrB} {t : TrT} {te : TrE} {env : DEnv} {k : List D → Os → Prop} {gd : Gd} {ws : List D} {os : Os} : lcX b t te env k gd ws os = lcW b t te env k gd ws [] os := by unfold lcX; rfl
def eLc (own0 : Bool) (vs : List Nat) (b : TrB) (ti : TrI) (tt : TrT) (te : TrE) : TrE := fun kx env os k => ti kx env os fun ws gd os1 => ws.length ≤ sizeLine ∧ lcX b tt te (wipeE env vs) (lcK own0 k) gd ws os1
section
variable {X : Cx} {own0 : Bool} {elt iter tge : Expr} {ifs : List Expr} {scope : Scope} {own : List (Str × Nat)} {pos : Pos} {g : TG} {bn : TrB} {tt : TrT} {te : TrE} {ti : TrI}
theorem cm_lc (hc : X.calm = true) (hN : X.N.Nodup) (ok : BlkOk X.N X.env.scope scope own) (hb : BindOk X.K (own.map (·.2)) g bn)
    (hg : ∀ s H C cl fp, PG (Bk X scope s H C cl fp) tge g) (hi : CmI X tge iter ti) (ht : ∀ s H C cl fp, CmTs (Bk X scope s H C cl fp) ifs tt) (he : ∀ s H C cl fp, Cm (Bk X scope s H C cl fp) elt te)
    (hs : ∀ x, foldedSetIterable iter X.env x = pure x) : Cm X (.ListComp elt [⟨tge, iter, ifs, 0⟩] scope pos) (eLc own0 (own.map (·.2)) bn ti tt te) := by
  intro kx env os k h F V0 H σ Q W r sr ek c
  refine wE_of (pe_lc (X := X) (own := own) (wi := wPI X tge iter) (g := g) (tt := fun σ H Q => ∀ s0 H0 C cl fp, wTs (Bk X scope s0 H0 C cl fp) ifs σ H Q) (te := fun σ H Q => ∀ s0 H0 C cl fp, wE (Bk X scope s0 H0 C cl fp) elt σ H Q) hc hN wPI_pi ok
    hg (fun s0 H0 C cl fp => ⟨fun pins s σ H Q I q => wTs_pts.run pins s σ H Q I (q s0 H0 C cl fp)⟩) (fun s0 H0 C cl fp => ⟨fun pins s σ H Q I q => wE_pe.run pins s σ H Q I (q s0 H0 C cl fp)⟩) hs) ?_
  unfold eLc at h
  simp only [lcX_eq] at h
  exact tlc_of hb hi ht he h r sr ek c
/-- name = [..] on one line -/
theorem c1_setLc {iy : Nat} {y : Str} {py spos : Pos} (hc : X.calm = true) (hN : X.N.Nodup) (ok : BlkOk X.N X.env.scope scope own) (hb : BindOk X.K (own.map (·.2)) g bn)
    (hg : ∀ s H C cl fp, PG (Bk X scope s H C cl fp) tge g) (hi : CmI X tge iter ti) (ht : ∀ s H C cl fp, CmTs (Bk X scope s H C cl fp) ifs tt) (he : ∀ s H C cl fp, Cm (Bk X scope s H C cl fp) elt te)
    (hy : X.N[iy]? = some y) (hyl : X.env.scope.names.lookup y = some .local) (hsw : swapsWith (.ListComp elt [⟨tge, iter, ifs, 0⟩] scope pos) (some (.Name y py)) spos.line X.env = pure true)
    (hs : ∀ x, foldedSetIterable iter X.env x = pure x) : CmS X (.Assign [.Name y py] (.ListComp elt [⟨tge, iter, ifs, 0⟩] scope pos) spos) (sSet iy (eLc own0 (own.map (·.2)) bn ti tt te)) := by
  intro N R env os h F V0 H σ D W r sr ek
  refine wS1_of (ps_setLc (X := X) (i := iy) (own := own) (wi := wPI X tge iter) (g := g) (tt := fun σ H Q => ∀ s0 H0 C cl fp, wTs (Bk X scope s0 H0 C cl fp) ifs σ H Q) (te := fun σ H Q => ∀ s0 H0 C cl fp, wE (Bk X scope s0 H0 C cl fp) elt σ H Q) hc hN hy hyl hsw wPI_pi ok
    hg (fun s0 H0 C cl fp => ⟨fun pins s σ H Q I q => wTs_pts.run pins s σ H Q I (q s0 H0 C cl fp)⟩) (fun s0 H0 C cl fp => ⟨fun pins s σ H Q I q => wE_pe.run pins s σ H Q I (q s0 H0 C cl fp)⟩) hs) ?_
  unfold sSet eLc at h
  simp only [lcX_eq] at h
  refine tlc_of (k := fun w os1 => N (setE env iy (some w)) os1) hb hi ht he h r sr (ek.xk sr) fun V1 os1 H1 v w s1 r1 rv q => ?_
  exact ek.nx V1 os1 H1 _ _ s1 r1 (sr_setE (sr.mono s1) rv iy) q
end
/-! ### reading -/
/-- an item is bound and made by a plain function, nothing owned changes -/
theorem lcW_map {b : TrB} {te : TrE} {env : DEnv} {k : List D → Os → Prop} {gd : Gd} {os : Os} (f : D → D) (hG : gOk gd os) (hm : ∀ w {p q : DEnv → Prop}, (∀ e, p e → q e) → b w env p → b w env q) : ∀ {ws acc : List D}, (∀ w ∈ ws, ∀ kk : D → Os → Prop, kk (f w) os → b w env fun env1 => te kx0 env1 os kk) → k (acc ++ ws.map f) os →
    lcW b tYes te env k gd ws acc os
  | [], acc, _, h => by rw [List.map_nil, List.append_nil] at h; exact wkX_id (gK_mk hG h)
  | w :: ws, acc, hw, h => by
    have ih := lcW_map (b := b) (te := te) (env := env) (k := k) (gd := gd) (os := os) f hG hm (ws := ws) (acc := acc ++ [f w]) (fun w h => hw w (List.mem_cons_of_mem _ h)) (by rw [List.append_assoc]; exact h)
    exact wkX_id <| gK_mk hG (hm w (fun e z => ⟨fun _ => z, fun z => nomatch z⟩) (hw w List.mem_cons_self (fun y os2 => lcW b tYes te env k gd ws (acc ++ [y]) os2) ih))
/-- tested by a plain function, too -/
theorem lcW_filter {b : TrB} {t : TrT} {te : TrE} {env : DEnv} {k : List D → Os → Prop} {gd : Gd} {os : Os} (p : D → Bool) (f : D → D) (hG : gOk gd os) : ∀ {ws acc : List D},
    (∀ w ∈ ws, ∀ (kt : D → Os → Prop) (kf : Os → Prop), (p w = true → kt (f w) os) → (p w = false → kf os) → b w env fun env1 => t kx0 env1 os fun bo os1 => (bo = true → te kx0 env1 os1 kt) ∧ (bo = false → kf os1)) → k (acc ++ (ws.filter p).map f) os →
    lcW b t te env k gd ws acc os
  | [], acc, _, h => by
    rw [List.filter_nil, List.map_nil, List.append_nil] at h
    exact wkX_id (gK_mk hG h)
  | w :: ws, acc, hw, h => by
    refine wkX_id <| gK_mk hG (hw w List.mem_cons_self (fun y os2 => lcW b t te env k gd ws (acc ++ [y]) os2) (fun os1 => lcW b t te env k gd ws acc os1) (fun hp => ?_) (fun hp => ?_))
    · refine lcW_filter p f hG (fun w h => hw w (List.mem_cons_of_mem _ h)) ?_
      rw [List.filter_cons_of_pos hp] at h
      rw [List.append_assoc]
      exact h
    · refine lcW_filter p f hG (fun w h => hw w (List.mem_cons_of_mem _ h)) ?_
      rw [List.filter_cons_of_neg (by rw [hp]; decide)] at h
      exact h
theorem b1_mono {i : Nat} {env : DEnv} (w : D) {p q : DEnv → Prop} (h : ∀ e, p e → q e) (z : b1 i w env p) : b1 i w env q := h _ z
/-- by an invariant over the turn -/
theorem lcW_inv {b : TrB} {t : TrT} {te : TrE} {env : DEnv} {k : List D → Os → Prop} {gd : Gd} {ws : List D} {os : Os} (I : Nat → List D → Os → Prop) (h0 : I 0 [] os)
    (hs : ∀ (j : Nat) (w : D) (acc : List D) (os : Os) (N : List D → Os → Prop), ws[j]? = some w → I j acc os → (∀ a o o2, WkO o o2 → I (j + 1) a o2 → N a o) →
      b w env fun env1 => t kx0 env1 os fun bo os1 => (bo = true → te kx0 env1 os1 fun y os2 => N (acc ++ [y]) os2) ∧ (bo = false → N acc os1))
    (hd : ∀ acc os, I ws.length acc os → k acc os) (hG : ∀ j acc os, I j acc os → gOk gd os) : lcW b t te env k gd ws [] os := by
  have gen : ∀ (m j : Nat) (acc : List D) (os os2 : Os), m = ws.length - j → j ≤ ws.length → WkO os os2 → I j acc os2 → lcW b t te env k gd (ws.drop j) acc os := by
    intro m
    induction m with
    | zero =>
      intro j acc os os2 hm hj hw h
      have e : j = ws.length := by omega
      subst e
      rw [List.drop_length]
      exact ⟨os2, hw, gK_mk (hG _ acc os2 h) (hd acc os2 h)⟩
    | succ m ih =>
      intro j acc os os2 hm hj hw h
      have hlt : j < ws.length := by omega
      rw [List.drop_eq_getElem_cons hlt]
      exact ⟨os2, hw, gK_mk (hG j acc os2 h) (hs j ws[j] acc os2 (fun a o => lcW b t te env k gd (ws.drop (j + 1)) a o) (List.getElem?_eq_getElem hlt) h fun a o o2 hw2 z => ih (j + 1) a o o2 (by omega) hlt hw2 z)⟩
  exact gen _ 0 [] os os rfl (Nat.zero_le _) (.refl _) h0
theorem lcX_map {b : TrB} {te : TrE} {env : DEnv} {k : List D → Os → Prop} {gd : Gd} {ws : List D} {os : Os} (f : D → D) (hG : gOk gd os) (hm : ∀ w {p q : DEnv → Prop}, (∀ e, p e → q e) → b w env p → b w env q) (hw : ∀ w ∈ ws, ∀ kk : D → Os → Prop, kk (f w) os → b w env fun env1 => te kx0 env1 os kk)
    (h : k (ws.map f) os) : lcX b tYes te env k gd ws os := by rw [lcX_eq]; exact lcW_map f hG hm hw h
theorem lcX_filter {b : TrB} {t : TrT} {te : TrE} {env : DEnv} {k : List D → Os → Prop} {gd : Gd} {ws : List D} {os : Os} (p : D → Bool) (f : D → D) (hG : gOk gd os)
    (hw : ∀ w ∈ ws, ∀ (kt : D → Os → Prop) (kf : Os → Prop), (p w = true → kt (f w) os) → (p w = false → kf os) → b w env fun env1 => t kx0 env1 os fun bo os1 => (bo = true → te kx0 env1 os1 kt) ∧ (bo = false → kf os1))
    (h : k ((ws.filter p).map f) os) : lcX b t te env k gd ws os := by rw [lcX_eq]; exact lcW_filter p f hG hw h
theorem lcX_inv {b : TrB} {t : TrT} {te : TrE} {env : DEnv} {k : List D → Os → Prop} {gd : Gd} {ws : List D} {os : Os} (I : Nat → List D → Os → Prop) (h0 : I 0 [] os)
    (hs : ∀ (j : Nat) (w : D) (acc : List D) (os : Os) (N : List D → Os → Prop), ws[j]? = some w → I j acc os → (∀ a o o2, WkO o o2 → I (j + 1) a o2 → N a o) →
      b w env fun env1 => t kx0 env1 os fun bo os1 => (bo = true → te kx0 env1 os1 fun y os2 => N (acc ++ [y]) os2) ∧ (bo = false → N acc os1))
    (hd : ∀ acc os, I ws.length acc os → k acc os) (hG : ∀ j acc os, I j acc os → gOk gd os) : lcX b t te env k gd ws os := by rw [lcX_eq]; exact lcW_inv I h0 hs hd hG
end EV

set_option Elab.async false
set_option linter.all false
set_option maxRecDepth 100000
/-! E6: promises of defs, calls, instances. -/
namespace EV
open PySem PySem.Spec PyProof.Rows L2

/-! ### what a def does -/
abbrev FT := List D → Os → (D → Os → Prop) → Kx → Prop
def spX (K : PySem.W.Frag) (n : Nat) (T : FT) : Sp := fun vs H Q E => vs.length = n ∧ ∃ (F V0 : Hp) (os : Os) (ws : List D) (k0 : D → Os → Prop) (x0 : Kx), Rel K F V0 os H ∧ RpA K V0 vs ws ∧ T ws os k0 x0 ∧
  (∀ (V1 : Hp) (os1 : Os) (H1 : Hp) (v : V) (w : D), Same V0 V1 → Rel K F V1 os1 H1 → Rp K V1 v w → k0 w os1 → Q v H1) ∧
  (∀ (V1 : Hp) (os1 : Os) (H1 : Hp) (cls : Value) (d : Option Addr) (x : Exn), Same V0 V1 → Rel K F V1 os1 H1 → ExnR K V1 cls d x → x0 x os1 → E cls d H1)
def startE : Nat → List D → DEnv
  | 0, _ => []
  | n + 1, [] => none :: startE n []
  | n + 1, w :: ws => some w :: startE n ws
/-- what is not wanted any more goes -/
@[irreducible] def dropX (w : D) (os : Os) (k : D → Os → Prop) : Prop := ∃ os2 : Os, WkO os os2 ∧ k w os2
@[irreducible] def dropE (x : Exn) (os : Os) (k : Kx) : Prop := ∃ os2 : Os, WkO os os2 ∧ k x os2
theorem dropX_wk {w : D} {os os2 : Os} {k : D → Os → Prop} (s : WkO os os2) (h : k w os2) : dropX w os k := by unfold dropX; exact ⟨os2, s, h⟩
theorem dropX_id {w : D} {os : Os} {k : D → Os → Prop} (h : k w os) : dropX w os k := dropX_wk (.refl _) h
theorem dropE_wk {x : Exn} {os os2 : Os} {k : Kx} (s : WkO os os2) (h : k x os2) : dropE x os k := by unfold dropE; exact ⟨os2, s, h⟩
theorem dropE_id {x : Exn} {os : Os} {k : Kx} (h : k x os) : dropE x os k := dropE_wk (.refl _) h
theorem dropX_of {w : D} {os : Os} {k : D → Os → Prop} (h : dropX w os k) : ∃ os2 : Os, WkO os os2 ∧ k w os2 := by unfold dropX at h; exact h
theorem dropE_of {x : Exn} {os : Os} {k : Kx} (h : dropE x os k) : ∃ os2 : Os, WkO os os2 ∧ k x os2 := by unfold dropE at h; exact h
def fnT (m : Nat) (body : TrS) : FT := fun ws os k kx => body (fun _ os1 => dropX .non os1 k) { rt := fun w os1 => dropX w os1 k, ex := fun x _ os1 => dropE x os1 kx } (startE m ws) os
theorem startE_len : ∀ (m : Nat) (ws : List D), ws.length ≤ m → (startE m ws).length = m
  | 0, _, _ => rfl
  | m + 1, [], _ => congrArg (· + 1) (startE_len m [] (Nat.zero_le _))
  | m + 1, _ :: ws, h => congrArg (· + 1) (startE_len m ws (by simpa using h))
theorem startE_get : ∀ (m : Nat) (ws : List D) (i : Nat) (w : D), (startE m ws)[i]? = some (some w) → ws[i]? = some w
  | 0, _, _, _, h => by simp [startE] at h
  | m + 1, [], 0, w, h => by simp [startE] at h
  | m + 1, [], i + 1, w, h => by
    rw [startE, List.getElem?_cons_succ] at h
    have := startE_get m [] i w h
    simp at this
  | m + 1, u :: ws, 0, w, h => by
    rw [startE, List.getElem?_cons_zero] at h
    rw [List.getElem?_cons_zero]
    exact Option.some.inj h
  | m + 1, u :: ws, i + 1, w, h => by
    rw [startE, List.getElem?_cons_succ] at h
    rw [List.getElem?_cons_succ]
    exact startE_get m ws i w h
theorem sr_startE {K : PySem.W.Frag} {V0 : Hp} {N : List Str} {vs : List V} {ws : List D} (r : RpA K V0 vs ws) (hl : ws.length ≤ N.length) : SR K V0 (L2.start N vs) (startE N.length ws) := by
  have hv := r.length
  refine ⟨by unfold L2.start; rw [startE_len _ _ hl]; simp; omega, fun i w e => ?_⟩
  have e1 := startE_get _ _ _ _ e
  obtain ⟨v, ev, rv⟩ := r.get e1
  refine ⟨v, ?_, rv⟩
  have hi : i < vs.length := (List.getElem?_eq_some_iff.mp ev).1
  unfold L2.start
  rw [List.getElem?_append_left (by simpa using hi), List.getElem?_map, ev]
  rfl
section
variable {P : Program} {w : World} {K : PySem.W.Frag} {mg : Str → Option Value} {base : Heap}
/-- the rule for a def -/
theorem okX {x qual : Str} {st : Stmt} {f : Addr} {fd : FuncData} {N ps : List Str} {k n m : Nat} {tb : TrS} (F : Fun K x qual st f fd) (sc : FnScope N ps (defScope st)) (hn : ps.length = n) (hm : N.length = m) (hnm : n ≤ m)
    (h : ∀ (cdv : Value) (A : Around) (outer : List Env) (s : Shared) (H : Hp) (E : XK), Room k (A.deeper (envOfC qual (defScope st) s.heap.objs.size f cdv)) →
      CmSs (cxOf (L2.CX P w) P w K mg base N qual (defScope st) f cdv A outer s H E) (defBody st) tb) : FnOk P w K mg base (L2.CX P w) (k + 1) f fd ps (spX K n (fnT m tb)) := by
  refine F.okX sc (fun vs H Q E h => h.1.trans hn.symm) fun cdv A outer s H vs Q E hr hsp => ?_
  obtain ⟨hl, F0, V0, os, ws, k0, x0, r, ra, hT, c, cx⟩ := hsp
  refine ⟨wSs _ (defBody st), wSs_pss, ?_⟩
  have hw : ws.length ≤ N.length := by rw [← ra.length]; omega
  subst hm
  refine h cdv A outer s H E hr _ _ _ _ hT F0 V0 H _ _ (fun cls d _ H => E cls d H) r (sr_startE ra hw) ⟨fun V1 os1 H1 σ1 env1 s1 r1 sr1 q => ?_, fun V1 os1 H1 v w s1 r1 rv q => ?_, fun _ _ _ _ _ _ _ _ z => z.elim, fun _ _ _ _ _ _ _ _ z => z.elim,
    takes_of rfl rfl rfl rfl, fun V1 os1 H1 σ1 env1 cls d x s1 r1 sr1 ex q => ?_⟩
  · obtain ⟨os2, hs, q⟩ := dropX_of q
    exact c V1 os2 H1 _ _ s1 (r1.wk hs) rwN q
  · obtain ⟨os2, hs, q⟩ := dropX_of q
    exact c V1 os2 H1 v w s1 (r1.wk hs) rv q
  · obtain ⟨os2, hs, q⟩ := dropE_of q
    exact cx V1 os2 H1 cls d x s1 (r1.wk hs) ex q
end
theorem pass_cx {CX : CXT} {P : Program} {w : World} {K : PySem.W.Frag} {mg : Str → Option Value} {base : Heap} {N : List Str} {qual : Str} {scope : Scope} {f : Addr} {cd : Value} {A : Around} {outer : List Env} {s : Shared} {H : Hp} {E : XK} :
    PassesOwn (model (cxOf CX P w K mg base N qual scope f cd A outer s H E).prog (cxOf CX P w K mg base N qual scope f cd A outer s H E).w) (cxOf CX P w K mg base N qual scope f cd A outer s H E).A (cxOf CX P w K mg base N qual scope f cd A outer s H E).env (cxOf CX P w K mg base N qual scope f cd A outer s H E).xe := PassesOwn.leaving
/-- a def by its name -/
structure CalX (P : Program) (w : World) (K : PySem.W.Frag) (mg : Str → Option Value) (base : Heap) (lvl : Nat) (x : Str) (n : Nat) (T : FT) : Prop where
  ex : ∃ (f : Addr) (fd : FuncData) (ps : List Str), FnOk P w K mg base (L2.CX P w) lvl f fd ps (spX K n T) ∧ mg x = some (.ref f) ∧ PySem.W.keepIn K (.ref f) = true ∧ Binds K fd ps []
/-- a method -/
structure CalM (P : Program) (w : World) (K : PySem.W.Frag) (mg : Str → Option Value) (base : Heap) (lvl : Nat) (C : Addr) (m : Str) (n : Nat) (T : FT) : Prop where
  ex : ∃ (f : Addr) (fd : FuncData) (ps : List Str), FnOk P w K mg base (L2.CX P w) lvl f fd ps (spX K n T) ∧ Meth K C m f ∧ Binds K fd ps []
/-- an __init__ -/
structure CalI (P : Program) (w : World) (K : PySem.W.Frag) (mg : Str → Option Value) (base : Heap) (lvl : Nat) (C : Addr) (x : Str) (n : Nat) (T : FT) : Prop where
  ex : ∃ (f : Addr) (fd : FuncData) (ps : List Str), FnOk P w K mg base (L2.CX P w) lvl f fd ps (spX K n T) ∧ Mk K C f ∧ Binds K fd ps [] ∧ mg x = some (.ref C)

/-! ### a part of the owned things goes in -/
def callK (T : FT) (ws : List D) (os : Os) (k : D → Os → Prop) (kx : Kx) : Prop := ∃ (of or : Os) (back : Os → Os), os.Perm (of ++ or) ∧ (∀ o, (o ++ or).Perm (back o)) ∧ T ws of (fun w o => k w (back o)) (fun x o => kx x (back o))
def makeK (T : FT) (C : Addr) (ws : List D) (os : Os) (k : D → Os → Prop) (kx : Kx) : Prop := ∃ (of or : Os) (back : Os → Os), os.Perm (of ++ or) ∧ (∀ o, (o ++ or).Perm (back o)) ∧
  ∀ p, T (.ref p :: ws) ((p, .ins C []) :: of) (fun w o => match w with
    | .non => k (.ref p) (back o)
    | _ => False) (fun x o => kx x (back o))
theorem callK_all {T : FT} {ws : List D} {os : Os} {k : D → Os → Prop} {kx : Kx} (h : T ws os k kx) : callK T ws os k kx := ⟨os, [], id, by rw [List.append_nil], fun o => by rw [List.append_nil]; exact .refl _, h⟩
theorem callK_none {T : FT} {ws : List D} {os : Os} {k : D → Os → Prop} {kx : Kx} (h : T ws [] (fun w o => k w (o ++ os)) (fun x o => kx x (o ++ os))) : callK T ws os k kx := ⟨[], os, fun o => o ++ os, .refl _, fun _ => .refl _, h⟩
theorem makeK_none {T : FT} {C : Addr} {ws : List D} {os : Os} {k : D → Os → Prop} {kx : Kx} (h : ∀ p, T (.ref p :: ws) [(p, .ins C [])] (fun w o => match w with
    | .non => k (.ref p) (o ++ os)
    | _ => False) (fun x o => kx x (o ++ os))) : makeK T C ws os k kx := ⟨[], os, fun o => o ++ os, .refl _, fun _ => .refl _, h⟩
/-- those at some places, one after the other -/
def outAt : Nat → Os → Option ((Addr × OO) × Os)
  | 0, x :: xs => some (x, xs)
  | n + 1, x :: xs => match outAt n xs with
    | some (y, r) => some (y, x :: r)
    | none => none
  | _, [] => none
def outs : List Nat → Os → Option (Os × Os)
  | [], os => some ([], os)
  | n :: ns, os => match outAt n os with
    | some (x, r) => (match outs ns r with
      | some (of, or) => some (x :: of, or)
      | none => none)
    | none => none
def putAt : Nat → (Addr × OO) → Os → Os
  | 0, x, os => x :: os
  | n + 1, x, y :: os => y :: putAt n x os
  | _ + 1, x, [] => [x]
def puts : List Nat → Os → Os → Os
  | n :: ns, x :: o, or => putAt n x (puts ns o or)
  | _, o, or => o ++ or
/-- the last ones go back to their places -/
def backAt (ns : List Nat) (or o : Os) : Os := o.take (o.length - ns.length) ++ puts ns (o.drop (o.length - ns.length)) or
theorem putAt_perm : ∀ (n : Nat) (x : Addr × OO) (os : Os), (x :: os).Perm (putAt n x os)
  | 0, _, _ => .refl _
  | n + 1, x, y :: os => (List.Perm.swap y x os).trans ((putAt_perm n x os).cons y)
  | _ + 1, _, [] => .refl _
theorem puts_perm : ∀ (ns : List Nat) (o or : Os), (o ++ or).Perm (puts ns o or)
  | n :: ns, x :: o, or => ((puts_perm ns o or).cons x).trans (putAt_perm n x _)
  | [], o, or => by cases o <;> exact .refl _
  | n :: ns, [], or => .refl _
theorem backAt_perm (ns : List Nat) (or o : Os) : (o ++ or).Perm (backAt ns or o) := by
  unfold backAt
  have h := puts_perm ns (o.drop (o.length - ns.length)) or
  have e : o ++ or = o.take (o.length - ns.length) ++ (o.drop (o.length - ns.length) ++ or) := by rw [← List.append_assoc, List.take_append_drop]
  rw [e]
  exact h.append_left _
theorem outAt_perm : ∀ {n : Nat} {os : Os} {x : Addr × OO} {r : Os}, outAt n os = some (x, r) → os.Perm (x :: r)
  | 0, y :: ys, x, r, h => by
    have h : some (y, ys) = some (x, r) := h
    cases h; exact .refl _
  | n + 1, y :: ys, x, r, h => by
    unfold outAt at h
    split at h
    · rename_i z r' e
      cases h
      exact ((outAt_perm e).cons y).trans (.swap _ _ _)
    · cases h
  | 0, [], _, _, h => by cases h
  | _ + 1, [], _, _, h => by cases h
theorem outs_perm : ∀ {ns : List Nat} {os of or : Os}, outs ns os = some (of, or) → os.Perm (of ++ or)
  | [], os, of, or, h => by
    have h : some ([], os) = some (of, or) := h
    cases h; exact .refl _
  | n :: ns, os, of, or, h => by
    unfold outs at h
    split at h
    · rename_i x r e
      split at h
      · rename_i of' or' e2
        cases h
        exact (outAt_perm e).trans ((outs_perm e2).cons x)
      · cases h
    · cases h
theorem wk_at {os of or : Os} (ns : List Nat) (h : outs ns os = some (of, or)) : WkO os of := ⟨or, outs_perm h⟩
theorem callK_at {T : FT} {ws : List D} {os of or : Os} {k : D → Os → Prop} {kx : Kx} (ns : List Nat) (h : outs ns os = some (of, or)) (q : T ws of (fun w o => k w (backAt ns or o)) (fun x o => kx x (backAt ns or o))) : callK T ws os k kx :=
  ⟨of, or, backAt ns or, outs_perm h, backAt_perm ns or, q⟩
theorem makeK_at {T : FT} {C : Addr} {ws : List D} {os of or : Os} {k : D → Os → Prop} {kx : Kx} (ns : List Nat) (h : outs ns os = some (of, or)) (q : ∀ p, T (.ref p :: ws) ((p, .ins C []) :: of) (fun w o => match w with
    | .non => k (.ref p) (backAt ns or o)
    | _ => False) (fun x o => kx x (backAt ns or o))) : makeK T C ws os k kx :=
  ⟨of, or, backAt ns or, outs_perm h, backAt_perm ns or, q⟩

@[irreducible] def callX (T : FT) (ws : List D) (os : Os) (k : D → Os → Prop) (kx : Kx) : Prop := callK T ws os k kx
@[irreducible] def makeX (T : FT) (C : Addr) (ws : List D) (os : Os) (k : D → Os → Prop) (kx : Kx) : Prop := makeK T C ws os k kx
section
variable {T : FT} {C : Addr} {ws : List D} {os of or : Os} {k : D → Os → Prop} {kx : Kx}
theorem callX_eq : callX T ws os k kx = callK T ws os k kx := by unfold callX; rfl
theorem makeX_eq : makeX T C ws os k kx = makeK T C ws os k kx := by unfold makeX; rfl
theorem callX_all (h : T ws os k kx) : callX T ws os k kx := by rw [callX_eq]; exact callK_all h
theorem callX_none (h : T ws [] (fun w o => k w (o ++ os)) (fun x o => kx x (o ++ os))) : callX T ws os k kx := by rw [callX_eq]; exact callK_none h
theorem callX_at (ns : List Nat) (h : outs ns os = some (of, or)) (q : T ws of (fun w o => k w (backAt ns or o)) (fun x o => kx x (backAt ns or o))) : callX T ws os k kx := by rw [callX_eq]; exact callK_at ns h q
theorem makeX_none (h : ∀ p, T (.ref p :: ws) [(p, .ins C [])] (fun w o => match w with
    | .non => k (.ref p) (o ++ os)
    | _ => False) (fun x o => kx x (o ++ os))) : makeX T C ws os k kx := by rw [makeX_eq]; exact makeK_none h
theorem makeX_at (ns : List Nat) (h : outs ns os = some (of, or)) (q : ∀ p, T (.ref p :: ws) ((p, .ins C []) :: of) (fun w o => match w with
    | .non => k (.ref p) (backAt ns or o)
    | _ => False) (fun x o => kx x (backAt ns or o))) : makeX T C ws os k kx := by rw [makeX_eq]; exact makeK_at ns h q
end

section
variable {X : Cx} {env : DEnv} {os : Os} {k : D → Os → Prop} {pos p pos' apos : Pos} {a b c e o value : Expr} {es : List Expr} {x m : Str} {lvl n : Nat} {T : FT} {tl : TrA} {to te : TrE} {C : Addr}
/-- the promise at the caller's things -/
theorem sp_of {F V0 H : Hp} {σ : L2.St} {vs : List V} {ws : List D} {kx : Kx} {W : WX} {Q : VK} (r : Rel X.K F V0 os H) (rs : RpA X.K V0 vs ws) (hl : vs.length = n) (q : callX T ws os k kx) (ek : XkOk X F V0 σ kx W)
    (c : ∀ (V1 : Hp) (os1 : Os) (H1 : Hp) (v : V) (w : D), Same V0 V1 → Rel X.K F V1 os1 H1 → Rp X.K V1 v w → k w os1 → Q v H1) : spX X.K n T vs H Q (WE W σ) := by
  rw [callX_eq] at q
  obtain ⟨of, or, back, hp, hb, hT⟩ := q
  obtain ⟨F2, r2, bk⟩ := Rel.frame (r.perm hp)
  exact ⟨hl, F2, V0, of, ws, _, _, r2, rs, hT, fun V1 os1 H1 v w s1 r1 rv hq => c V1 _ H1 v w s1 ((bk V1 os1 H1 s1 r1).perm (hb os1)) rv hq, fun V1 os1 H1 cls d x s1 r1 ex hq => ek.ex V1 _ H1 cls d x s1 ((bk V1 os1 H1 s1 r1).perm (hb os1)) ex hq⟩
def eCall (T : FT) (tl : TrA) : TrE := fun kx env os k => tl kx env os fun ws os1 => callX T ws os1 k kx
theorem cm_call (CC : CalX X.prog X.w X.K X.mg X.base lvl x n T) (hr : Room lvl X.A) (hg : Gl X x) (ha : CmA X (e :: es) tl n) (hdb : (x == ("__debug__" : Str)) = false)
    (he : starEach (e :: es) X.env = (false, eval e X.env) :: starEach es X.env) (hpl : (backTo pos (starEach es X.env)).any (·.1) = false) : Cm X (.Call (.Name x p) (e :: es) [] pos) (eCall T tl) := by
  obtain ⟨f, fd, ps, G, hm, hk, hb⟩ := CC.ex
  intro kx env os k h F V0 H σ Q W r sr ek c
  refine wE_of (pe_callS (E := WE W) G hr hg hm hk hb (fun σ => passAt ek.tk σ) wA_pa hdb he hpl) ?_
  refine ha.2 _ _ _ _ h F V0 H σ _ W r sr ek fun V1 os1 H1 vs ws s1 r1 rs ⟨hl, q⟩ => ?_
  exact sp_of r1 rs (rs.length.trans hl) q (ek.mono s1) fun V2 os2 H2 v w s2 r2 rv q2 => c V2 os2 H2 v w (s1.trans s2) r2 rv q2
theorem pe_callS0 {CX : CXT} {sp : Sp} {E : L2.St → XK} {f : Addr} {fd : FuncData} {ps : List Str} {lv : Nat} (G : FnOk X.prog X.w X.K X.mg X.base CX lv f fd ps sp) (hr : Room lv X.A) (hg : Gl X x) (hm : X.mg x = some (.ref f)) (hk : PySem.W.keepIn X.K (.ref f) = true) (hb : Binds X.K fd ps [])
    (hx : ∀ σ, PassesAt CX X σ (E σ)) (hdb : (x == ("__debug__" : Str)) = false) : PE X (.Call (.Name x p) [] [] pos) (fun σ H Q => sp [] H Q (E σ)) :=
  ⟨fun pins s σ H Q I h => wpAny_Call_Name_kw (ld_glob I hg hm (PySem.W.callWith_K0 I.kIn hk (run_fnS (us := []) (vs := []) G hr hb (hx σ) I .nil h)) hdb)⟩
theorem cm_call0 (CC : CalX X.prog X.w X.K X.mg X.base lvl x 0 T) (hr : Room lvl X.A) (hg : Gl X x) (hdb : (x == ("__debug__" : Str)) = false) : Cm X (.Call (.Name x p) [] [] pos) (eCall T aN) := by
  obtain ⟨f, fd, ps, G, hm, hk, hb⟩ := CC.ex
  intro kx env os k h F V0 H σ Q W r sr ek c
  refine wE_of (pe_callS0 (E := WE W) G hr hg hm hk hb (fun σ => passAt ek.tk σ) hdb) ?_
  exact sp_of (vs := []) r .nil rfl h ek c

/-! ### instances -/
def lkF : Nat → List (Nat × D) → Option D
  | _, [] => none
  | i, (j, d) :: r => match Nat.beq i j with
    | true => some d
    | false => lkF i r
def putI (f : Nat) (w : D) : List (Nat × D) → List (Nat × D)
  | [] => [(f, w)]
  | (g, x) :: r => match Nat.beq g f with
    | true => (g, w) :: r
    | false => (g, x) :: putI f w r
theorem rf_lookup {K : PySem.W.Frag} {V0 : Hp} {f : Nat} : ∀ {vf : List (Str × V)} {fs : List (Nat × D)}, RF K V0 vf fs → ∀ {w : D}, lkF f fs = some w → ∃ v, vf.lookup (nm f) = some v ∧ Rp K V0 v w
  | _, _, .nil, _, h => by cases h
  | (a, x) :: vf, (b, y) :: fs, .cons hq r, w, h => by
    obtain ⟨e, rw'⟩ := hq
    have e : a = nm b := e
    subst e
    unfold lkF at h
    rw [List.lookup_cons]
    split at h
    · rename_i hb
      have := Nat.eq_of_beq_eq_true hb
      subst this
      cases h
      exact ⟨x, by simp, rw'⟩
    · rename_i hb
      have ne : (nm f == nm b) = false := beq_eq_false_iff_ne.mpr fun e => by
        rw [nm_inj e] at hb
        rw [Nat.beq_refl] at hb
        cases hb
      rw [ne]
      exact rf_lookup r h
theorem rf_none {K : PySem.W.Frag} {V0 : Hp} {f : Nat} : ∀ {vf : List (Str × V)} {fs : List (Nat × D)}, RF K V0 vf fs → lkF f fs = none → vf.lookup (nm f) = none
  | _, _, .nil, h => rfl
  | (a, x) :: vf, (b, y) :: fs, .cons hq r, h => by
    obtain ⟨e, rw'⟩ := hq
    have e : a = nm b := e
    subst e
    unfold lkF at h
    rw [List.lookup_cons]
    split at h
    · cases h
    · rename_i hb
      have ne : (nm f == nm b) = false := beq_eq_false_iff_ne.mpr fun e => by
        rw [nm_inj e] at hb
        rw [Nat.beq_refl] at hb
        cases hb
      rw [ne]
      exact rf_none r h
theorem rf_put {K : PySem.W.Frag} {V0 : Hp} {f : Nat} {v : V} {w : D} (hv : Rp K V0 v w) : ∀ {vf : List (Str × V)} {fs : List (Nat × D)}, RF K V0 vf fs → RF K V0 (putF (nm f) v vf) (putI f w fs)
  | _, _, .nil => .cons ⟨rfl, hv⟩ .nil
  | (a, x) :: vf, (b, y) :: fs, .cons hq r => by
    obtain ⟨e, rw'⟩ := hq
    have e : a = nm b := e
    subst e
    show RF K V0 (if nm b = nm f then _ else _) _
    unfold putI
    by_cases hb : b = f
    · subst hb
      rw [if_pos rfl, Nat.beq_refl]; exact .cons ⟨rfl, hv⟩ r
    · rw [if_neg fun e => hb (nm_inj e), show Nat.beq b f = false from Bool.eq_false_iff.mpr fun e => hb (Nat.eq_of_beq_eq_true e)]
      exact .cons ⟨rfl, rw'⟩ (rf_put hv r)
/-- e.f, of an instance of one of the classes -/
def eFld (Cs : List Addr) (f : Nat) (to : TrE) : TrE := fun kx env os k => to kx env os fun w os1 => match w with
  | .ref a => ∃ (n : Nat) (C : Addr) (fs : List (Nat × D)) (y : D), os1[n]? = some (a, OO.ins C fs) ∧ C ∈ Cs ∧ lkF f fs = some y ∧ k y os1
  | _ => False
theorem cm_fld {Cs : List Addr} {f : Nat} {fx : Str} (hf : fx = nm f) (hc : ∀ C ∈ Cs, Cls X.K C ∧ NoAttr X.K C fx) (h : Cm X e to) (hb : attributeBase e fx X.env (eval e X.env) = eval e X.env) : Cm X (.Attribute e fx pos) (eFld Cs f to) := by
  subst hf
  intro kx env os k q F V0 H σ Q W r sr ek cc
  refine wE_of (pe_fld wE_pe hb) ?_
  refine h _ _ _ _ q F V0 H σ _ W r sr ek fun V1 os1 H1 v w s1 r1 rv q => ?_
  split at q
  · obtain ⟨n, C, fs, y, ho, hC, hl, q⟩ := q
    obtain ⟨c, na⟩ := hc C hC
    obtain rfl := rv.toRef
    obtain ⟨_, _, ho', h3, dx, vf, rfl, h4⟩ := r1.own _ (List.mem_of_getElem? ho)
    obtain ⟨u, e2, ru⟩ := rf_lookup h4 hl
    exact ⟨_, C, dx, vf, u, rfl, h3, c, na, e2, cc V1 os1 H1 u y s1 r1 ru q⟩
  · exact q.elim
/-- o.f = value: the value first -/
def sFld (Cs : List Addr) (f : Nat) (to tv : TrE) : TrS := fun N R env os => tv (R.xk env) env os fun y os1 => to (R.xk env) env os1 fun w os2 => match w with
  | .ref a => ∃ (n : Nat) (C : Addr) (fs : List (Nat × D)), os2[n]? = some (a, OO.ins C fs) ∧ C ∈ Cs ∧ fs.length < 1000 ∧ N env (os2.set n (a, .ins C (putI f y fs)))
  | _ => False
theorem c1_fld {Cs : List Addr} {f : Nat} {fx : Str} (hf : fx = nm f) (hc : ∀ C ∈ Cs, Cls X.K C ∧ NoAttr X.K C fx) (ho : Cm X o to) (hv : Cm X value te)
    (hs : swapsWith value (some (.Attribute o fx pos')) pos.line X.env = pure false) : CmS X (.Assign [.Attribute o fx pos'] value pos) (sFld Cs f to te) := by
  subst hf
  intro N R env os q F V0 H σ D W r sr ek
  refine wS1_of (ps_fld wE_pe wE_pe hs) ?_
  refine hv _ _ _ _ q F V0 H σ _ W r sr (ek.xk sr) fun V1 os1 H1 v y s1 r1 rv q1 => ?_
  refine ho _ _ _ _ q1 F V1 H1 σ _ W r1 (sr.mono s1) ((ek.xk sr).mono s1) fun V2 os2 H2 u w2 s2 r2 ru q => ?_
  split at q
  · obtain ⟨n, C, fs, ho, hC, hl, q⟩ := q
    obtain ⟨c, na⟩ := hc C hC
    obtain rfl := ru.toRef
    obtain ⟨_, _, ho', h3, dx, vf, rfl, h4⟩ := r2.own _ (List.mem_of_getElem? ho)
    refine ⟨_, C, dx, vf, rfl, h3, c, na, by rw [Paired.length h4]; exact hl, ?_⟩
    exact ek.nx V2 _ _ _ _ (s1.trans s2) (r2.mut ho (oo' := .ins C (putI f y fs)) ⟨dx, _, rfl, rf_put (rv.mono s2) h4⟩) ((sr.mono s1).mono s2) q
  · exact q.elim
/-- o.m(..) of the class at C -/
def insK (C : Addr) (m : Nat) (w : D) (os : Os) (k : Prop) : Prop := match w with
  | .ref a => (∃ (n : Nat) (fs : List (Nat × D)), os[n]? = some (a, OO.ins C fs) ∧ lkF m fs = none) ∧ k
  | _ => False
theorem insK_of {m : Nat} {w : D} {kk : Prop} (h : insK C m w os kk) : ∃ (a : Addr) (n : Nat) (fs : List (Nat × D)), w = .ref a ∧ os[n]? = some (a, OO.ins C fs) ∧ lkF m fs = none ∧ kk := by
  unfold insK at h
  split at h
  · obtain ⟨⟨n, fs, h1, h2⟩, q⟩ := h
    exact ⟨_, n, fs, rfl, h1, h2, q⟩
  · exact h.elim
def eMeth (C : Addr) (m : Nat) (T : FT) (to : TrE) (tl : TrA) : TrE := fun kx env os k => to kx env os fun w os1 => insK C m w os1 (tl kx env os1 fun ws os2 => callX T (w :: ws) os2 k kx)
def tMethS (C : Addr) (m : Str) (sp : Sp) (E : L2.St → XK) (ta : TE) (t : TA) : TE := fun σ H Q => ta σ H fun x H1 => ∃ (a dx : Addr) (fs : List (Str × V)), x = .ref a ∧ H1 a = some (.ins C dx fs) ∧ fs.lookup m = none ∧ t σ H1 fun vs H2 => sp (x :: vs) H2 Q (E σ)
theorem pe_methS {CX : CXT} {sp : Sp} {E : L2.St → XK} {f : Addr} {fd : FuncData} {ps : List Str} {ta : TE} {t : TA} {pl : Sem Bool} (he : PE X o ta) (c : Cls X.K C) (hm : Meth X.K C m f) (G : FnOk X.prog X.w X.K X.mg X.base CX lvl f fd ps sp) (hr : Room lvl X.A) (hb : Binds X.K fd ps []) (hx : ∀ σ, PassesAt CX X σ (E σ)) (ha : PA X (e :: es) t)
    (hst : starEach (e :: es) X.env = (false, eval e X.env) :: starEach es X.env) (hpl : (backTo pos (starEach es X.env)).any (·.1) = false)
    (ht : eval (.Call (.Attribute o m apos) (e :: es) [] pos) X.env = (do
      let ov ← eval o X.env
      standAt apos.atName
      let (f, first) ← holding [ov] (getMethod ov m pl)
      callWith pos f first (backTo pos (starEach (e :: es) X.env)) (backToKw pos (keywordEach [] X.env)))) : PE X (.Call (.Attribute o m apos) (e :: es) [] pos) (tMethS C m sp E ta t) := by
  refine ⟨fun pins s σ H Q I h => PySem.W.methodCall_KW (pl := pl) (thn (he.run pins s σ H _ I h) fun u s1 ⟨x, H1, I1, rx, a, dx, fs, ex, ea, l, q⟩ => ?_) ht⟩
  subst ex
  obtain rfl : u = Value.ref a := rx
  refine getmeth_ok I1 ea c hm l (PySem.W.callWith_K (h₀ := X.base) (first := [.ref a]) I1.ok.mod.kin hm.kp (thn (ha.run pos pins _ σ H1 _ (I1.tok _) q) fun us s2 ⟨vs, H2, I2, r2, q2⟩ => ⟨I2.kIn, ?_⟩) hst hpl)
  exact run_fnS (us := .ref a :: us) (vs := .ref a :: vs) G hr hb (hx σ) I2 (.cons rfl r2) q2
theorem pe_methS0 {CX : CXT} {sp : Sp} {E : L2.St → XK} {f : Addr} {fd : FuncData} {ps : List Str} {ta : TE} {pl : Sem Bool} (he : PE X o ta) (c : Cls X.K C) (hm : Meth X.K C m f) (G : FnOk X.prog X.w X.K X.mg X.base CX lvl f fd ps sp) (hr : Room lvl X.A) (hb : Binds X.K fd ps []) (hx : ∀ σ, PassesAt CX X σ (E σ))
    (ht : eval (.Call (.Attribute o m apos) [] [] pos) X.env = (do
      let ov ← eval o X.env
      standAt apos.atName
      let (f, first) ← holding [ov] (getMethod ov m pl)
      callWith pos f first (backTo pos (starEach [] X.env)) (backToKw pos (keywordEach [] X.env)))) : PE X (.Call (.Attribute o m apos) [] [] pos) (tMethS C m sp E ta tNil) := by
  refine ⟨fun pins s σ H Q I h => PySem.W.methodCall_KW (pl := pl) (thn (he.run pins s σ H _ I h) fun u s1 ⟨x, H1, I1, rx, a, dx, fs, ex, ea, l, q⟩ => ?_) ht⟩
  subst ex
  obtain rfl : u = Value.ref a := rx
  exact getmeth_ok I1 ea c hm l (PySem.W.callWith_K0 (first := [.ref a]) I1.kIn hm.kp (run_fnS (us := [.ref a]) (vs := [.ref a]) G hr hb (hx σ) I1 (.cons rfl .nil) q))
theorem cm_meth {mi : Nat} {pl : Sem Bool} (M : CalM X.prog X.w X.K X.mg X.base lvl C m (n + 1) T) (hmi : m = nm mi) (c : Cls X.K C) (hr : Room lvl X.A) (ho : Cm X o to) (ha : CmA X (e :: es) tl n)
    (hst : starEach (e :: es) X.env = (false, eval e X.env) :: starEach es X.env) (hpl : (backTo pos (starEach es X.env)).any (·.1) = false)
    (ht : eval (.Call (.Attribute o m apos) (e :: es) [] pos) X.env = (do
      let ov ← eval o X.env
      standAt apos.atName
      let (f, first) ← holding [ov] (getMethod ov m pl)
      callWith pos f first (backTo pos (starEach (e :: es) X.env)) (backToKw pos (keywordEach [] X.env)))) : Cm X (.Call (.Attribute o m apos) (e :: es) [] pos) (eMeth C mi T to tl) := by
  obtain ⟨f, fd, ps, G, hm, hb⟩ := M.ex
  subst hmi
  intro kx env os k h F V0 H σ Q W r sr ek cc
  refine wE_of (pe_methS (E := WE W) (pl := pl) wE_pe c hm G hr hb (fun σ => passAt ek.tk σ) wA_pa hst hpl ht) ?_
  refine ho _ _ _ _ h F V0 H σ _ W r sr ek fun V1 os1 H1 v w s1 r1 rv q => ?_
  obtain ⟨a, n0, fs, rfl, ho', hl, q⟩ := insK_of q
  obtain rfl := rv.toRef
  obtain ⟨_, _, ho2, h3, dx, vf, rfl, h4⟩ := r1.own _ (List.mem_of_getElem? ho')
  refine ⟨a, dx, vf, rfl, h3, rf_none h4 hl, ?_⟩
  refine ha.2 _ _ _ _ q F V1 H1 σ _ W r1 (sr.mono s1) (ek.mono s1) fun V2 os2 H2 vs ws s2 r2 rs ⟨hl2, q⟩ => ?_
  exact sp_of (vs := .ref a :: vs) r2 (.cons (.ref a) rs) (by rw [List.length_cons, rs.length, hl2]) q (ek.mono (s1.trans s2)) fun V3 os3 H3 v3 w3 s3 r3 rv3 q2 => cc V3 os3 H3 v3 w3 ((s1.trans s2).trans s3) r3 rv3 q2
theorem cm_meth0 {mi : Nat} {pl : Sem Bool} (M : CalM X.prog X.w X.K X.mg X.base lvl C m 1 T) (hmi : m = nm mi) (c : Cls X.K C) (hr : Room lvl X.A) (ho : Cm X o to)
    (ht : eval (.Call (.Attribute o m apos) [] [] pos) X.env = (do
      let ov ← eval o X.env
      standAt apos.atName
      let (f, first) ← holding [ov] (getMethod ov m pl)
      callWith pos f first (backTo pos (starEach [] X.env)) (backToKw pos (keywordEach [] X.env)))) : Cm X (.Call (.Attribute o m apos) [] [] pos) (eMeth C mi T to aN) := by
  obtain ⟨f, fd, ps, G, hm, hb⟩ := M.ex
  subst hmi
  intro kx env os k h F V0 H σ Q W r sr ek cc
  refine wE_of (pe_methS0 (E := WE W) (pl := pl) wE_pe c hm G hr hb (fun σ => passAt ek.tk σ) ht) ?_
  refine ho _ _ _ _ h F V0 H σ _ W r sr ek fun V1 os1 H1 v w s1 r1 rv q => ?_
  obtain ⟨a, n0, fs, rfl, ho', hl, q⟩ := insK_of q
  obtain rfl := rv.toRef
  obtain ⟨_, _, ho2, h3, dx, vf, rfl, h4⟩ := r1.own _ (List.mem_of_getElem? ho')
  refine ⟨a, dx, vf, rfl, h3, rf_none h4 hl, ?_⟩
  exact sp_of (vs := [.ref a]) r1 (.cons (.ref a) .nil) rfl q (ek.mono s1) fun V3 os3 H3 v3 w3 s3 r3 rv3 q2 => cc V3 os3 H3 v3 w3 (s1.trans s3) r3 rv3 q2
/-- C(..) -/
def eMake (C : Addr) (T : FT) (tl : TrA) : TrE := fun kx env os k => tl kx env os fun ws os1 => makeX T C ws os1 k kx
theorem run_makeS {CX : CXT} {sp : Sp} {E : XK} {f : Addr} {fd : FuncData} {ps : List Str} {pins : List (Addr × Obj)} {σ : L2.St} {H : Hp} {s : Shared} {Q : VK} {us : List Value} {vs : List V} (M : Mk X.K C f) (G : FnOk X.prog X.w X.K X.mg X.base CX lvl f fd ps sp) (hr : Room (lvl + 1) X.A) (hb : Binds X.K fd ps [])
    (hx : PassesAt CX X σ E) (I : Inv X pins σ H s) (rv : Vals vs us)
    (h : ∀ x dx, H x = none → H dx = none → dx ≠ x → sp (.ref x :: vs) (upd (upd H dx (.own x)) x (.ins C dx [])) (fun v H2 => v = .non ∧ Q (.ref x) H2) E) :
    wpAny (model X.prog X.w) X.A (call (.ref C) us) (EP X pins σ Q) X.xe s := by
  obtain ⟨z, hz⟩ : ∃ z, z = s.heap.objs.size := ⟨_, rfl⟩
  have hq := h (s.heap.objs.size + 1) s.heap.objs.size (I.hok.fresh (Nat.le_add_right _ 1)) (I.hok.fresh (Nat.le_refl _)) (Nat.ne_of_lt (Nat.lt_add_one _))
  have I2 := Inv.made (C := C) I
  have r2 : Vals (V.ref (s.heap.objs.size + 1) :: vs) (Value.ref (s.heap.objs.size + 1) :: us) := .cons rfl rv
  have hl : (Value.ref (s.heap.objs.size + 1) :: us).length = ps.length := r2.length.symm.trans (G.len _ _ _ _ hq)
  have bd := hb _ (Value.ref (s.heap.objs.size + 1) :: us) I2.kIn (by rw [List.append_nil]; exact hl)
  rw [List.append_nil] at bd
  refine wpAny_call (make_map (f := f) I.kIn M.makes M.init (beq_iff_eq.mp M.fn) (codeAny_mono (G.run _ X.stack _ _ ⟨Value.ref (s.heap.objs.size + 1) :: us, []⟩ (Value.ref (s.heap.objs.size + 1) :: us) _ _ E (hr.make C us []) (I2.env0.make C us []) bd r2 hq) fun r s' hq' => ?_))
  cases r with
  | error e => exact hx pins _ _ e s' I2 hq'
  | ok fl =>
    cases fl with
    | ret u =>
      obtain ⟨v, H', I3, rv, ev, q3⟩ := I2.after hq'
      subst ev
      exact ⟨rv, V.ref (s.heap.objs.size + 1), H', I3, rfl, q3⟩
    | next => exact hq'.elim
    | brk => exact hq'.elim
    | cont => exact hq'.elim
theorem made_of {F V0 H : Hp} {σ : L2.St} {vs : List V} {ws : List D} {kx : Kx} {W : WX} {Q : VK} (r : Rel X.K F V0 os H) (rs : RpA X.K V0 vs ws) (hl : vs.length + 1 = n) (q : makeX T C ws os k kx) (ek : XkOk X F V0 σ kx W)
    (c : ∀ (V1 : Hp) (os1 : Os) (H1 : Hp) (v : V) (w : D), Same V0 V1 → Rel X.K F V1 os1 H1 → Rp X.K V1 v w → k w os1 → Q v H1) (x dx : Addr) (hx : H x = none) (hd : H dx = none) (ne : dx ≠ x) :
    spX X.K n T (.ref x :: vs) (upd (upd H dx (.own x)) x (.ins C dx [])) (fun v H2 => v = .non ∧ Q (.ref x) H2) (WE W σ) := by
  rw [makeX_eq] at q
  obtain ⟨of, or, back, hp, hb, hT⟩ := q
  have sh : Same H (upd H dx (.own x)) := same_upd hd
  have r0 := r.perm hp
  have q1 : Rel X.K F V0 (of ++ or) (upd H dx (.own x)) := ⟨r0.fr.trans sh, r0.vi.trans sh, r0.fv, fun z hz => let ⟨h1, h2, ho, h3, h4⟩ := r0.own z hz; ⟨h1, h2, ho, sh _ _ h3, h4⟩, r0.nd⟩
  have r2 : Rel X.K F V0 (((x, OO.ins C []) :: of) ++ or) (upd (upd H dx (.own x)) x (.ins C dx [])) := q1.addO (by rw [upd_ne (Ne.symm ne)]; exact hx) ⟨dx, [], rfl, .nil⟩
  obtain ⟨F2, r3, bk⟩ := Rel.frame (of := (x, OO.ins C []) :: of) (or := or) r2
  refine ⟨hl, F2, V0, _, .ref x :: ws, _, _, r3, .cons (.ref x) rs, hT x, fun V3 os3 H3 v3 w3 s3 r4 rv3 hq => ?_, fun V1 os1 H1 cls d y s1 r1 ex hq => ek.ex V1 _ H1 cls d y s1 ((bk V1 os1 H1 s1 r1).perm (hb os1)) ex hq⟩
  split at hq
  · cases rv3
    exact ⟨rfl, c V3 _ H3 (.ref x) (.ref x) s3 ((bk V3 os3 H3 s3 r4).perm (hb os3)) (.ref x) hq⟩
  · exact hq.elim
theorem cm_make (M : CalI X.prog X.w X.K X.mg X.base lvl C x (n + 1) T) (hr : Room (lvl + 1) X.A) (hg : Gl X x) (ha : CmA X (e :: es) tl n) (hdb : (x == ("__debug__" : Str)) = false)
    (he : starEach (e :: es) X.env = (false, eval e X.env) :: starEach es X.env) (hpl : (backTo pos (starEach es X.env)).any (·.1) = false) : Cm X (.Call (.Name x p) (e :: es) [] pos) (eMake C T tl) := by
  obtain ⟨f, fd, ps, G, mk, hb, hm⟩ := M.ex
  intro kx env os k h F V0 H σ Q W r sr ek c
  refine wE_mk fun pins s I => ?_
  refine wpAny_Call_Name_kw (ld_glob I hg hm ?_ hdb)
  refine PySem.W.callWith_K (h₀ := X.base) I.ok.mod.kin mk.kp (thn (wA_pa.run pos pins s σ H (fun vs H1 => ∀ x dx, H1 x = none → H1 dx = none → dx ≠ x → spX X.K (n + 1) T (.ref x :: vs) (upd (upd H1 dx (.own x)) x (.ins C dx [])) (fun v H2 => v = .non ∧ Q (.ref x) H2) (WE W σ)) I ?_) fun us s1 ⟨vs, H1, I1, rv, q⟩ => ⟨I1.kIn, run_makeS mk G hr hb (passAt ek.tk σ) I1 rv q⟩) he hpl
  exact ha.2 _ _ _ _ h F V0 H σ _ W r sr ek fun V1 os1 H1 vs ws s1 r1 rs ⟨hl, q⟩ => made_of r1 rs (by rw [rs.length, hl]) q (ek.mono s1) fun V2 os2 H2 v w s2 r2 rv q2 => c V2 os2 H2 v w (s1.trans s2) r2 rv q2
theorem cm_make0 (M : CalI X.prog X.w X.K X.mg X.base lvl C x 1 T) (hr : Room (lvl + 1) X.A) (hg : Gl X x) (hdb : (x == ("__debug__" : Str)) = false) : Cm X (.Call (.Name x p) [] [] pos) (eMake C T aN) := by
  obtain ⟨f, fd, ps, G, mk, hb, hm⟩ := M.ex
  intro kx env os k h F V0 H σ Q W r sr ek c
  refine wE_mk fun pins s I => ?_
  refine wpAny_Call_Name_kw (ld_glob I hg hm ?_ hdb)
  exact PySem.W.callWith_K0 I.kIn mk.kp (run_makeS (us := []) (vs := []) mk G hr hb (passAt ek.tk σ) I .nil (made_of (vs := []) r .nil rfl h ek c))
end

/-! ### the end -/
/-- the law's own promise -/
theorem law_spX (K : PySem.W.Frag) (T : FT) (hT : ∀ ns : List Int, ns.length ≤ 63 → T [.lst (ns.map D.int)] [] (fun w _ => w = .bl true) (fun _ _ => False)) (H : Hp) (a : Addr) (ns : List Int) (h : ns.length ≤ 63) (hs : SqL K H a (ns.map V.int)) :
    spX K 1 T [.ref a] H (fun v _ => v = .bl true) fun _ _ _ => False := by
  refine ⟨rfl, fun _ => none, H, [], [.lst (ns.map D.int)], fun d _ => d = .bl true, fun _ _ => False, ⟨(fun a o e => by cases e), Same.refl _, (fun a o e => by cases e), fun p hp => absurd hp (by simp), by simp⟩, .cons (.lst hs (rpA_ints ns)) .nil, hT ns h,
    fun V1 os1 H1 v d _ _ rv q => ?_, fun _ _ _ _ _ _ _ _ _ z => z.elim⟩
  subst q
  cases rv
  rfl
theorem glb_int {K : PySem.W.Frag} {mg : Str → Option Value} {x : Str} {i : Int} {t : Tok} (h : mg x = some (.int i t)) : Glb K mg x (.int i) := ⟨.int i, _, h, ⟨t, rfl⟩, fun _ => .int i⟩
theorem glb_str {K : PySem.W.Frag} {mg : Str → Option Value} {x : Str} {i : Str} {t : Tok} (h : mg x = some (.str i t)) : Glb K mg x (.str i) := ⟨.str i, _, h, ⟨t, rfl⟩, fun _ => .str i⟩
theorem cx_no {P : Program} {w : World} {H : Hp} {s : Shared} {e : Value} {s' : Shared} (h : L2.CX P w [] H s (fun _ _ _ => False) e s') : False := by
  obtain ⟨_, _, _, _, _, _, _, _, _, _, _, _, z⟩ := h
  exact z
end EV

set_option Elab.async false
set_option linter.all false
set_option maxRecDepth 100000
/-! E7: further rules; what helps to read transformers. -/
namespace EV
open PySem PySem.Spec PyProof.Rows L2
theorem fl1 {A : Addr} {P : Addr → Prop} (h : P A) : ∀ C ∈ [A], P C := fun C hC => by rw [List.mem_singleton] at hC; exact hC ▸ h
theorem fl2 {A B : Addr} {P : Addr → Prop} (h : P A) (h2 : P B) : ∀ C ∈ [A, B], P C := fun C hC => by
  rcases List.mem_cons.mp hC with e | e
  · exact e ▸ h
  · exact fl1 h2 C e
theorem fl3 {A B D : Addr} {P : Addr → Prop} (h : P A) (h2 : P B) (h3 : P D) : ∀ C ∈ [A, B, D], P C := fun C hC => by
  rcases List.mem_cons.mp hC with e | e
  · exact e ▸ h
  · exact fl2 h2 h3 C e
theorem fl4 {A B D E : Addr} {P : Addr → Prop} (h : P A) (h2 : P B) (h3 : P D) (h4 : P E) : ∀ C ∈ [A, B, D, E], P C := fun C hC => by
  rcases List.mem_cons.mp hC with e | e
  · exact e ▸ h
  · exact fl3 h2 h3 h4 C e
section
variable {X : Cx} {tge a b c3 : Expr} {p pos : Pos} {ta tb tc : TrE}
/-- range(i, j, c) -/
def iR3 (ta tb tc : TrE) : TrI := fun kx env os ki => ta kx env os fun w os1 => tb kx env os1 fun u os2 => tc kx env os2 fun v os3 => match w with
  | .int i => (match u with
    | .int j => (match v with
      | .int c => ∃ n, RgC i j c n ∧ ki (rng i c n) none os3
      | _ => False)
    | _ => False)
  | _ => False
theorem ci_range3 (hg : Gl X "range") (hm : X.mg "range" = none) (h : Cm X a ta) (h2 : Cm X b tb) (h3 : Cm X c3 tc)
    (hs : starEach [a, b, c3] X.env = (false, eval a X.env) :: starEach [b, c3] X.env) (hs2 : starEach [b, c3] X.env = (false, eval b X.env) :: starEach [c3] X.env) (hs3 : starEach [c3] X.env = (false, eval c3 X.env) :: starEach [] X.env) (hpl : (backTo pos (starEach [b, c3] X.env)).any (·.1) = false) : CmI X tge (.Call (.Name "range" p) [a, b, c3] [] pos) (iR3 ta tb tc) := by
  intro kx env os ki q F V0 H σ R W r sr ek c
  refine wPI_of (pi_range3 hg hm (pa_cons wE_pe (pa_cons wE_pe (pa_cons wE_pe pa_nil hs3) hs2) hs) hs hpl) ?_
  refine h _ _ _ _ q F V0 H σ _ W r sr ek fun V1 os1 H1 v w s1 r1 rv q => ?_
  refine h2 _ _ _ _ q F V1 H1 σ _ W r1 (sr.mono s1) (ek.mono s1) fun V2 os2 H2 u y s2 r2 ru q => ?_
  refine h3 _ _ _ _ q F V2 H2 σ _ W r2 (sr.mono (s1.trans s2)) (ek.mono (s1.trans s2)) fun V3 os3 H3 u3 y3 s3 r3 ru3 q => ?_
  split at q
  · split at q
    · split at q
      · obtain ⟨n, hr, q⟩ := q
        cases rv; cases ru; cases ru3
        exact ⟨_, _, _, n, rfl, hr, c V3 os3 H3 _ _ _ ((s1.trans s2).trans s3) r3 (gi_rngC _ _ n) q⟩
      · exact q.elim
    · exact q.elim
  · exact q.elim
end
end EV

set_option Elab.async false
set_option linter.all false
set_option maxRecDepth 100000
/-! E9: dicts with keys that are ints or texts. -/
namespace EV
open PySem PySem.Spec PyProof.Rows L2

def valD (kvs : List (Key × D)) (k : Key) : Option D := match kvs with
  | [] => none
  | (j, d) :: r => if j = k then some d else valD r k
def putD (kvs : List (Key × D)) (k : Key) (d : D) : List (Key × D) := if (valD kvs k).isSome = true then kvs.map (fun kv => if kv.1 = k then (kv.1, d) else kv) else kvs ++ [(k, d)]
def delD (kvs : List (Key × D)) (k : Key) : List (Key × D) := kvs.filter fun kv => decide (kv.1 ≠ k)
def dOfK : Key → D
  | .inl i => .int i
  | .inr x => .str x
theorem rp_ofK {K : PySem.W.Frag} {H : Hp} (k : Key) : Rp K H (kV k) (dOfK k) := by
  cases k with
  | inl i => exact .int i
  | inr x => exact .str x
section
variable {K : PySem.W.Frag} {H : Hp}
theorem RpK.length : ∀ {xs : List (Key × V)} {ds : List (Key × D)}, RpK K H xs ds → xs.length = ds.length
  | _, _, .nil => rfl
  | _, _, .cons _ r => congrArg (· + 1) (RpK.length r)
theorem RpK.val : ∀ {xs : List (Key × V)} {ds : List (Key × D)} {k : Key}, RpK K H xs ds → (∀ d, valD ds k = some d → ∃ v, valV xs k = some v ∧ Rp K H v d) ∧ (valD ds k = none → valV xs k = none)
  | _, _, _, .nil => ⟨fun d h => (nomatch h), fun _ => rfl⟩
  | _, _, k, .cons (k := j) (v := v) (vs := vs) (d := d) (ds := ds) h r => by
    have ih := RpK.val (k := k) r
    unfold valD
    by_cases e : j = k
    · rw [if_pos e, valV_pos (p := (j, v)) e]
      exact ⟨fun d h' => ⟨v, rfl, Option.some.inj h' ▸ h⟩, fun z => (nomatch z)⟩
    · rw [if_neg e, valV_neg (p := (j, v)) e]
      exact ih
theorem RpK.isSome {xs : List (Key × V)} {ds : List (Key × D)} (r : RpK K H xs ds) (k : Key) : (valV xs k).isSome = (valD ds k).isSome := by
  obtain ⟨h1, h2⟩ := RpK.val (k := k) r
  cases e : valD ds k with
  | none => rw [h2 e]; rfl
  | some d => obtain ⟨v, e1, _⟩ := h1 d e; rw [e1]; rfl
theorem RpK.app : ∀ {xs ys : List (Key × V)} {ds es : List (Key × D)}, RpK K H xs ds → RpK K H ys es → RpK K H (xs ++ ys) (ds ++ es)
  | _, _, _, _, .nil, s => s
  | _, _, _, _, .cons h r, s => .cons h (RpK.app r s)
theorem RpK.repl {k : Key} {v : V} {w : D} (q : Rp K H v w) : ∀ {xs : List (Key × V)} {ds : List (Key × D)}, RpK K H xs ds →
    RpK K H (xs.map fun kv => if kv.1 = k then (kv.1, v) else kv) (ds.map fun kv => if kv.1 = k then (kv.1, w) else kv)
  | _, _, .nil => .nil
  | _, _, .cons (k := j) h r => by
    have ih := RpK.repl (k := k) q r
    rw [List.map_cons, List.map_cons]
    by_cases e : j = k
    · rw [if_pos e, if_pos e]; exact .cons q ih
    · rw [if_neg e, if_neg e]; exact .cons h ih
theorem RpK.put {xs : List (Key × V)} {ds : List (Key × D)} (r : RpK K H xs ds) (k : Key) {v : V} {w : D} (q : Rp K H v w) : RpK K H (putK xs k v) (putD ds k w) := by
  unfold putK putD
  rw [valV_any, r.isSome k]
  by_cases e : (valD ds k).isSome = true
  · rw [if_pos e, if_pos e]; exact RpK.repl q r
  · rw [if_neg e, if_neg e]; exact r.app (.cons q .nil)
theorem RpK.del (k : Key) : ∀ {xs : List (Key × V)} {ds : List (Key × D)}, RpK K H xs ds → RpK K H (dropK xs k) (delD ds k)
  | _, _, .nil => .nil
  | _, _, .cons (k := j) (v := v) (vs := vs) (d := d) (ds := ds) h r => by
    have ih := RpK.del k r
    unfold dropK delD at ih ⊢
    rw [List.filter_cons, List.filter_cons]
    by_cases e : j ≠ k
    · rw [if_pos (by simpa using e), if_pos (by simpa using e)]; exact .cons h ih
    · rw [if_neg (by simpa using e), if_neg (by simpa using e)]; exact ih
theorem RpK.keys : ∀ {xs : List (Key × V)} {ds : List (Key × D)}, RpK K H xs ds → xs.map (·.1) = ds.map (·.1)
  | _, _, .nil => rfl
  | _, _, .cons _ r => by rw [List.map_cons, List.map_cons, RpK.keys r]
theorem RpK.get : ∀ {xs : List (Key × V)} {ds : List (Key × D)} {i : Nat} {p : Key × D}, RpK K H xs ds → ds[i]? = some p → ∃ v, xs[i]? = some (p.1, v) ∧ Rp K H v p.2
  | _, _, _, _, .nil, e => by simp at e
  | _, _, 0, _, .cons h r, e => by simp at e; subst e; exact ⟨_, rfl, h⟩
  | _, _, i + 1, d, .cons h r, e => by
    obtain ⟨v, e1, r1⟩ := RpK.get (i := i) (p := d) r (by simpa using e)
    exact ⟨v, by simpa using e1, r1⟩
end
theorem putD_len (kvs : List (Key × D)) (k : Key) (d : D) : (putD kvs k d).length ≤ kvs.length + 1 := by
  unfold putD
  split
  · rw [List.length_map]; exact Nat.le_succ _
  · rw [List.length_append]; exact Nat.le_refl _
/-- a dict at hand: data or owned -/
def dctK (w : D) (os : Os) (k : List (Key × D) → Prop) : Prop := match w with
  | .dK kvs => k kvs
  | .ref p => ∃ (n : Nat) (kvs : List (Key × D)), os[n]? = some (p, OO.dK kvs) ∧ k kvs
  | _ => False
def DctOf (os : Os) (w : D) (kvs : List (Key × D)) : Prop := match w with
  | .dK es => kvs = es
  | .ref p => ∃ n : Nat, os[n]? = some (p, OO.dK kvs)
  | _ => False
theorem dctK_of {w : D} {os : Os} {k : List (Key × D) → Prop} (h : dctK w os k) : ∃ kvs, DctOf os w kvs ∧ k kvs := by
  unfold dctK at h
  split at h
  · exact ⟨_, rfl, h⟩
  · obtain ⟨n, kvs, ho, q⟩ := h
    exact ⟨kvs, ⟨n, ho⟩, q⟩
  · exact h.elim
theorem dctOf_of {K : PySem.W.Frag} {F V0 H : Hp} {os : Os} {v : V} {w : D} {kvs : List (Key × D)} (r : Rel K F V0 os H) (rv : Rp K V0 v w) (h : DctOf os w kvs) : ∃ a vs, v = .ref a ∧ Rd H a (.dK vs) ∧ RpK K V0 vs kvs := by
  unfold DctOf at h
  split at h
  · subst h
    cases rv with
    | dK h1 h2 =>
      obtain ⟨o, h1⟩ := h1
      exact ⟨_, _, rfl, .inr ⟨o, r.vi _ _ h1⟩, h2⟩
  · obtain ⟨n, ho⟩ := h
    obtain rfl := rv.toRef
    obtain ⟨_, _, ho', h3, vs, rfl, h4⟩ := r.own _ (List.mem_of_getElem? ho)
    exact ⟨_, vs, rfl, .inl h3, h4⟩
  · exact h.elim
def keyK (y : D) (k : Key → Prop) : Prop := match y with
  | .int i => k (.inl i)
  | .str x => k (.inr x)
  | _ => False
theorem keyK_of {K : PySem.W.Frag} {V0 : Hp} {v : V} {y : D} {k : Key → Prop} (rv : Rp K V0 v y) (h : keyK y k) : ∃ ky, v = kV ky ∧ k ky := by
  unfold keyK at h
  split at h
  · cases rv; exact ⟨.inl _, rfl, h⟩
  · cases rv; exact ⟨.inr _, rfl, h⟩
  · exact h.elim
theorem dget_at {K : PySem.W.Frag} {F V0 H : Hp} {os : Os} {v u : V} {w y : D} {kk : List (Key × D) → Key → Prop} (r : Rel K F V0 os H) (rv : Rp K V0 v w) (ru : Rp K V0 u y) (h : dctK w os fun kvs => keyK y fun ky => kk kvs ky) :
    ∃ a vs kvs ky, v = .ref a ∧ RpK K V0 vs kvs ∧ DGet H a u (valV vs ky) ∧ Rd H a (.dK vs) ∧ u = kV ky ∧ DctOf os w kvs ∧ kk kvs ky := by
  obtain ⟨kvs, hd, h⟩ := dctK_of h
  obtain ⟨ky, rfl, h⟩ := keyK_of ru h
  obtain ⟨a, vs, rfl, h1, h2⟩ := dctOf_of r rv hd
  exact ⟨a, vs, kvs, ky, rfl, h2, .inl ⟨vs, ky, h1, rfl, rfl⟩, h1, rfl, hd, h⟩

section
variable {X : Cx} {kx : Kx} {env : DEnv} {os : Os} {k : D → Os → Prop} {pos pos' apos cpos tpos : Pos} {o e f i value : Expr} {to te tf ti tv : TrE} {lvl : Nat}
/-- d[k] -/
def oDGet (w y : D) (os : Os) (k : D → Os → Prop) : Prop := dctK w os fun kvs => keyK y fun ky => ∃ d, valD kvs ky = some d ∧ k d os
def eDGet (to ti : TrE) : TrE := fun kx env os k => to kx env os fun w os1 => ti kx env os1 fun y os2 => oDGet w y os2 k
theorem cm_dget (hr : Room lvl X.A) (ho : Cm X o to) (hi : Cm X i ti) (hs : NoSl i) : Cm X (.Subscript o i pos) (eDGet to ti) := by
  intro kx env os k q F V0 H σ Q W r sr ek c
  refine wE_of (pe_dget (hu_of hr) wE_pe wE_pe hs) ?_
  refine ho _ _ _ _ q F V0 H σ _ W r sr ek fun V1 os1 H1 v w s1 r1 rv q => ?_
  refine hi _ _ _ _ q F V1 H1 σ _ W r1 (sr.mono s1) (ek.mono s1) fun V2 os2 H2 u y s2 r2 ru q => ?_
  obtain ⟨a, vs, kvs, ky, rfl, rk, g, _, _, _, d, hd, q⟩ := dget_at r2 (rv.mono s2) ru q
  obtain ⟨v', e1, rv'⟩ := (rk.val (k := ky)).1 d hd
  rw [e1] at g
  exact ⟨a, v', rfl, g, c V2 os2 H2 v' d (s1.trans s2) r2 rv' q⟩
/-- k in d, k not in d -/
def oInD : TrO := fun y w os k => dctK w os fun kvs => keyK y fun ky => k (.bl (valD kvs ky).isSome) os
def oNotInD : TrO := fun y w os k => dctK w os fun kvs => keyK y fun ky => k (.bl (!(valD kvs ky).isSome)) os
theorem cmo_inD (hr : Room lvl X.A) : CmO X (compareOp .In) oInD := by
  intro y w os k h F V0 H v u Q r ry rw' c
  refine wO_mk fun pins s σ iv ov I r1 r2 => ?_
  obtain ⟨a, vs, kvs, ky, rfl, rk, g, _, _, _, q⟩ := dget_at r rw' ry h
  obtain rfl : ov = Value.ref a := r2
  refine d_in (hu_of hr) I g r1 fun s' I' => ⟨.bl _, H, I', rfl, ?_⟩
  rw [rk.isSome]
  exact c V0 os H _ _ (Same.refl _) r rwB q
theorem cmo_notInD (hr : Room lvl X.A) : CmO X (compareOp .NotIn) oNotInD := by
  intro y w os k h F V0 H v u Q r ry rw' c
  refine wO_mk fun pins s σ iv ov I r1 r2 => ?_
  obtain ⟨a, vs, kvs, ky, rfl, rk, g, _, _, _, q⟩ := dget_at r rw' ry h
  obtain rfl : ov = Value.ref a := r2
  refine d_notIn (hu_of hr) I g r1 fun s' I' => ⟨.bl _, H, I', rfl, ?_⟩
  rw [rk.isSome]
  exact c V0 os H _ _ (Same.refl _) r rwB q
/-- d.get(k), d.get(k, x) -/
def isDK (w : D) (os : Os) (k : Prop) : Prop := (∃ kvs, DctOf os w kvs) ∧ k
def oDGetO (w y z : D) (os : Os) (k : D → Os → Prop) : Prop := dctK w os fun kvs => keyK y fun ky => k ((valD kvs ky).getD z) os
def dctH (w : D) (os : Os) (k : Prop) : Prop := dctK w os fun _ => k
def eDGet1 (to te : TrE) : TrE := fun kx env os k => to kx env os fun w os1 => dctH w os1 (te kx env os1 fun y os2 => oDGetO w y .non os2 k)
def eDGet2 (to te tf : TrE) : TrE := fun kx env os k => to kx env os fun w os1 => dctH w os1 (te kx env os1 fun y os2 => tf kx env os2 fun z os3 => oDGetO w y z os3 k)
theorem isD_of {F V0 H : Hp} {v : V} {w : D} {q : Prop} (r : Rel X.K F V0 os H) (rv : Rp X.K V0 v w) (h : dctH w os q) : ∃ a, v = .ref a ∧ IsD H a ∧ q := by
  obtain ⟨kvs, hd, q⟩ := dctK_of h
  obtain ⟨a, vs, rfl, h1, h2⟩ := dctOf_of r rv hd
  exact ⟨a, rfl, .inl ⟨vs, h1⟩, q⟩
theorem getD_rp {V0 : Hp} {vs : List (Key × V)} {kvs : List (Key × D)} {ky : Key} {z : D} {zv : V} (rk : RpK X.K V0 vs kvs) (rz : Rp X.K V0 zv z) : Rp X.K V0 ((valV vs ky).getD zv) ((valD kvs ky).getD z) := by
  obtain ⟨h1, h2⟩ := rk.val (k := ky)
  cases e : valD kvs ky with
  | none => rw [h2 e]; exact rz
  | some d => obtain ⟨v, e1, rv⟩ := h1 d e; rw [e1]; exact rv
theorem cm_dget1 (hr : Room lvl X.A) (ho : Cm X o to) (he : Cm X e te) (m : M1 X o "get" apos e cpos) : Cm X (.Call (.Attribute o "get" apos) [e] [] cpos) (eDGet1 to te) := by
  intro kx env os k q F V0 H σ Q W r sr ek c
  refine wE_of (pe_dget1 (hu_of hr) wE_pe wE_pe m) ?_
  refine ho _ _ _ _ q F V0 H σ _ W r sr ek fun V1 os1 H1 v w s1 r1 rv q => ?_
  obtain ⟨a, rfl, hd, q⟩ := isD_of r1 rv q
  refine ⟨a, rfl, hd, ?_⟩
  refine he _ _ _ _ q F V1 H1 σ _ W r1 (sr.mono s1) (ek.mono s1) fun V2 os2 H2 u y s2 r2 ru q => ?_
  obtain ⟨a', vs, kvs, ky, e', rk, g, _, _, _, q⟩ := dget_at r2 (rv.mono s2) ru q
  cases e'
  exact ⟨_, g, c V2 os2 H2 _ _ (s1.trans s2) r2 (getD_rp rk .non) q⟩
theorem cm_dget2 (hr : Room lvl X.A) (ho : Cm X o to) (he : Cm X e te) (hf : Cm X f tf) (m : M2 X o "get" apos e f cpos) : Cm X (.Call (.Attribute o "get" apos) [e, f] [] cpos) (eDGet2 to te tf) := by
  intro kx env os k q F V0 H σ Q W r sr ek c
  refine wE_of (pe_dget2 (hu_of hr) wE_pe wE_pe wE_pe m) ?_
  refine ho _ _ _ _ q F V0 H σ _ W r sr ek fun V1 os1 H1 v w s1 r1 rv q => ?_
  obtain ⟨a, rfl, hd, q⟩ := isD_of r1 rv q
  refine ⟨a, rfl, hd, ?_⟩
  refine he _ _ _ _ q F V1 H1 σ _ W r1 (sr.mono s1) (ek.mono s1) fun V2 os2 H2 u y s2 r2 ru q => ?_
  refine hf _ _ _ _ q F V2 H2 σ _ W r2 ((sr.mono s1).mono s2) ((ek.mono s1).mono s2) fun V3 os3 H3 u3 z s3 r3 rz q => ?_
  obtain ⟨a', vs, kvs, ky, e', rk, g, _, _, _, q⟩ := dget_at r3 (rv.mono (s2.trans s3)) (ru.mono s3) q
  cases e'
  exact ⟨_, g, c V3 os3 H3 _ _ ((s1.trans s2).trans s3) r3 (getD_rp rk rz) q⟩
/-- an owned dict at hand, for a store -/
def dctO (w : D) (os : Os) (k : Nat → Addr → List (Key × D) → Prop) : Prop := match w with
  | .ref p => ∃ (n : Nat) (kvs : List (Key × D)), os[n]? = some (p, OO.dK kvs) ∧ k n p kvs
  | _ => False
theorem dctO_of {F V0 H : Hp} {v : V} {w : D} {kk : Nat → Addr → List (Key × D) → Prop} (r : Rel X.K F V0 os H) (rv : Rp X.K V0 v w) (h : dctO w os kk) : ∃ n p kvs vs, v = .ref p ∧ os[n]? = some (p, OO.dK kvs) ∧ H p = some (.dK vs) ∧ RpK X.K V0 vs kvs ∧ kk n p kvs := by
  unfold dctO at h
  split at h
  · obtain ⟨n, kvs, ho, q⟩ := h
    obtain rfl := rv.toRef
    obtain ⟨_, _, ho', h3, vs, rfl, h4⟩ := r.own _ (List.mem_of_getElem? ho)
    exact ⟨n, _, kvs, vs, rfl, ho, h3, h4, q⟩
  · exact h.elim
/-- d[k] = v -/
def sDPut (to ti tv : TrE) : TrS := fun N R env os => tv (R.xk env) env os fun z os1 => to (R.xk env) env os1 fun w os2 => ti (R.xk env) env os2 fun y os3 => dctO w os3 fun n p kvs => keyK y fun ky => kvs.length < sizeLine ∧ N env (os3.set n (p, .dK (putD kvs ky z)))
theorem c1_dput (hr : Room lvl X.A) (ho : Cm X o to) (hi : Cm X i ti) (hv : Cm X value tv) (hs : swapsWith value (some (.Subscript o i pos')) pos.line X.env = pure false) : CmS X (.Assign [.Subscript o i pos'] value pos) (sDPut to ti tv) := by
  intro N R env os q F V0 H σ D W r sr ek
  refine wS1_of (ps_dput (hu_of hr) wE_pe wE_pe wE_pe hs) ?_
  refine hv _ _ _ _ q F V0 H σ _ W r sr (ek.xk sr) fun V1 os1 H1 v z s1 r1 rz q => ?_
  refine ho _ _ _ _ q F V1 H1 σ _ W r1 (sr.mono s1) ((ek.xk sr).mono s1) fun V2 os2 H2 u w s2 r2 rw' q => ?_
  refine hi _ _ _ _ q F V2 H2 σ _ W r2 ((sr.mono s1).mono s2) (((ek.xk sr).mono s1).mono s2) fun V3 os3 H3 iv y s3 r3 ry q => ?_
  obtain ⟨n, p, kvs, vs, rfl, ho3, h3, rk, q⟩ := dctO_of r3 (rw'.mono s3) q
  obtain ⟨ky, rfl, hl, q⟩ := keyK_of ry q
  refine ⟨p, _, rfl, .inl ⟨vs, ky, h3, rfl, by rw [rk.length]; exact hl, rfl⟩, ?_⟩
  have s := (s1.trans s2).trans s3
  exact ek.nx V3 _ _ _ _ s (r3.mut ho3 (oo' := .dK (putD kvs ky z)) ⟨_, rfl, rk.put ky (rz.mono (s2.trans s3))⟩) (sr.mono s) q
/-- del d[k] -/
def sDDel (to ti : TrE) : TrS := fun N R env os => to (R.xk env) env os fun w os2 => ti (R.xk env) env os2 fun y os3 => dctO w os3 fun n p kvs => keyK y fun ky => (valD kvs ky).isSome = true ∧ N env (os3.set n (p, .dK (delD kvs ky)))
theorem c1_ddel (ho : Cm X o to) (hi : Cm X i ti) : CmS X (.Delete [.Subscript o i tpos] pos) (sDDel to ti) := by
  intro N R env os q F V0 H σ D W r sr ek
  refine wS1_of (ps_ddel wE_pe wE_pe) ?_
  refine ho _ _ _ _ q F V0 H σ _ W r sr (ek.xk sr) fun V2 os2 H2 u w s2 r2 rw' q => ?_
  refine hi _ _ _ _ q F V2 H2 σ _ W r2 (sr.mono s2) ((ek.xk sr).mono s2) fun V3 os3 H3 iv y s3 r3 ry q => ?_
  obtain ⟨n, p, kvs, vs, rfl, ho3, h3, rk, q⟩ := dctO_of r3 (rw'.mono s3) q
  obtain ⟨ky, rfl, hl, q⟩ := keyK_of ry q
  refine ⟨p, vs, ky, rfl, h3, rfl, by rw [rk.isSome]; exact hl, ?_⟩
  have s := s2.trans s3
  exact ek.nx V3 _ _ _ _ s (r3.mut ho3 (oo' := .dK (delD kvs ky)) ⟨_, rfl, rk.del ky⟩) (sr.mono s) q
/-- {} -/
def eDNew : TrE := fun _ _ os k => ∀ p, k (.ref p) ((p, .dK []) :: os)
theorem cm_dnew : Cm X (.Dict [] [] pos) eDNew := by
  intro kx env os k q F V0 H σ Q W r sr ek c
  refine wE_of pe_dnewK fun p hp => ?_
  exact c V0 _ _ (.ref p) _ (Same.refl _) (r.addO hp (oo := .dK []) ⟨[], rfl, .nil⟩) (.ref p) (q p)
/-- an owned dict becomes data: it is locked -/
theorem _root_.EV.Rel.freezeD {K : PySem.W.Frag} {F V0 H : Hp} {os : Os} {n : Nat} {a : Addr} {kvs : List (Key × D)} (r : Rel K F V0 os H) (h : os[n]? = some (a, .dK kvs)) :
    ∃ vs, H a = some (.dK vs) ∧ ∀ od, ∃ V1, Same V0 V1 ∧ Rel K F V1 (os.eraseIdx n) (upd H a (.frz od (.dK vs))) ∧ Rp K V1 (.ref a) (.dK kvs) := by
  obtain ⟨h1, h2, ho, h3, vs, rfl, h4⟩ := r.own _ (List.mem_of_getElem? h)
  refine ⟨vs, h3, fun od => ?_⟩
  have sv : Same V0 (upd V0 a (.frz od (.dK vs))) := same_upd h2
  have mono4 : RpK K (upd V0 a (.frz od (.dK vs))) vs kvs := RpK.mono sv h4
  refine ⟨upd V0 a (.frz od (.dK vs)), sv, ⟨fun b u e => ?_, fun b u e => ?_, fun b u e => ?_, fun q hq => ?_, r.nd.sublist ((List.eraseIdx_sublist _ _).map _)⟩, .dK ⟨od, upd_same⟩ mono4⟩
  · rw [upd_ne (ne_of_none e h1)]; exact r.fr b u e
  · by_cases hb : b = a
    · subst hb; rw [upd_same] at e ⊢; exact e
    · rw [upd_ne hb] at e ⊢; exact r.vi b u e
  · rw [upd_ne (ne_of_none e h1)]; exact r.fv b u e
  · obtain ⟨j, hj⟩ := List.getElem?_of_mem hq
    obtain ⟨k1, k2, ho', k3, k4⟩ := r.own q ((List.eraseIdx_sublist _ _).subset hq)
    have ne : q.1 ≠ a := fun e => by
      have e1 : (os.map (·.1))[n]? = some a := by rw [List.getElem?_map, h]; rfl
      rw [List.getElem?_eraseIdx] at hj
      split at hj
      · have e2 : (os.map (·.1))[j]? = some a := by rw [List.getElem?_map, hj]; exact congrArg some e
        have := nd_ix r.nd e1 e2
        omega
      · have e2 : (os.map (·.1))[j + 1]? = some a := by rw [List.getElem?_map, hj]; exact congrArg some e
        have := nd_ix r.nd e1 e2
        omega
    exact ⟨k1, by rw [upd_ne ne]; exact k2, ho', by rw [upd_ne ne]; exact k3, k4.mono sv⟩
def frzD (w : D) (os : Os) (k : D → Os → Prop) : Prop := match w with
  | .ref a => ∃ (n : Nat) (kvs : List (Key × D)), os[n]? = some (a, OO.dK kvs) ∧ k (.dK kvs) (os.eraseIdx n)
  | w => k w os
def eFrzD (t : TrE) : TrE := fun kx env os k => t kx env os fun w os1 => frzD w os1 k
theorem wE_lock {σ : L2.St} {H : Hp} {Q : VK} (h : wE X e σ H fun v H' => Q v H' ∨ ∃ d u, H' d = some u ∧ Mut (some u) ∧ ∀ od, Q v (upd H' d (.frz od u))) : wE X e σ H Q := wE_mk fun pins s I =>
  wpAny_mono (wE_run h pins s I) (fun u s' hh => by
    obtain ⟨v, H', I', ru, q | ⟨d, u', hd, mu, q⟩⟩ := hh
    · exact ⟨v, H', I', ru, q⟩
    · obtain ⟨od, I2⟩ := I'.lock hd mu
      exact ⟨v, _, I2, ru, q od⟩) fun _ _ z => z
theorem cm_frzD (h : Cm X e te) : Cm X e (eFrzD te) := by
  intro kx env os k q F V0 H σ Q W r sr ek c
  refine wE_lock ?_
  refine h _ _ _ _ q F V0 H σ _ W r sr ek fun V1 os1 H1 v w s1 r1 rv q => ?_
  unfold frzD at q
  split at q
  · obtain ⟨n, kvs, ho, q⟩ := q
    obtain rfl := rv.toRef
    obtain ⟨vs, h3, fz⟩ := r1.freezeD ho
    refine .inr ⟨_, _, h3, True.intro, fun od => ?_⟩
    obtain ⟨V2, s2, r2, rp⟩ := fz od
    exact c V2 _ _ _ _ (s1.trans s2) r2 rp q
  · exact .inl (c V1 os1 H1 v w s1 r1 rv q)
/-- for k in d, d data -/
theorem gi_keys {V1 : Hp} {a : Addr} {od : Obj} {xs : List (Key × V)} {ds : List (Key × D)} (h : V1 a = some (.frz od (.dK xs))) (r : RpK X.K V1 xs ds) : GI X.K V1 (Itk a od xs) (ds.map fun kv => dOfK kv.1) none := by
  have hl := r.length
  refine ⟨fun i F V2 os H s2 r2 _ hi => ⟨(s2.trans r2.vi) _ _ h, by rw [List.length_map] at hi; omega⟩, fun i F V2 os H s2 r2 _ hi => ⟨(s2.trans r2.vi) _ _ h, by rw [List.length_map] at hi; omega⟩, fun i F V2 os H x H' w s2 r2 _ y e => ?_⟩
  obtain ⟨rfl, ky, v, y, rfl⟩ := y
  rw [List.getElem?_map] at e
  obtain ⟨p, e1, rfl⟩ := Option.map_eq_some_iff.mp e
  obtain ⟨v', e2, _⟩ := r.get e1
  rw [y] at e2
  cases e2
  exact ⟨V2, Same.refl _, r2, rp_ofK _⟩
def iDct (te : TrE) : TrI := fun kx env os ki => te kx env os fun w os1 => match w with
  | .dK kvs => ki (kvs.map fun kv => dOfK kv.1) none os1
  | _ => False
theorem ci_dct {tg : Expr} (h : Cm X e te) : CmI X tg e (iDct te) := by
  intro kx env os ki q F V0 H σ R W r sr ek c
  refine wPI_of (pi_keys wE_pe) ?_
  refine h _ _ _ _ q F V0 H σ _ W r sr ek fun V1 os1 H1 v w s1 r1 rv q => ?_
  split at q
  · cases rv with
    | dK h1 h2 =>
      obtain ⟨od, h1⟩ := h1
      exact ⟨_, od, rfl, .inl ⟨_, r1.vi _ _ h1, c V1 os1 H1 _ _ none s1 r1 (gi_keys h1 h2) q⟩⟩
  · exact q.elim
/-- len(d) -/
def cLenD : TrC := fun ws os k => match ws with
  | [w] => dctK w os fun kvs => k (.int kvs.length) os
  | _ => False
theorem cmc_lenD : CmC X (.builtin "len") cLenD := by
  intro ws os k h
  unfold cLenD at h
  split at h
  · intro F V0 H vs Q r rs c pins s σ us I rv
    obtain ⟨v, rfl, rw'⟩ := rs.one
    obtain ⟨kvs, hd, q⟩ := dctK_of h
    obtain ⟨a, xs, rfl, h1, h2⟩ := dctOf_of r rw' hd
    obtain ⟨u, rfl, ru⟩ := rv.one
    obtain rfl : u = Value.ref a := ru
    refine d_len I h1 fun t s' I' => ⟨.int xs.length, H, I', ⟨t, rfl⟩, ?_⟩
    rw [h2.length]
    exact c V0 os H _ _ (Same.refl _) r rwI q
  · exact h.elim
/-- dict(d): an owned copy -/
def cDictO : TrC := fun ws os k => match ws with
  | [w] => dctK w os fun kvs => ∀ p, k (.ref p) ((p, .dK kvs) :: os)
  | _ => False
theorem cmc_dictO : CmC X (.type "dict") cDictO := by
  intro ws os k h
  unfold cDictO at h
  split at h
  · refine JC.mk call_dictD fun F V0 H vs Q r rs c => ?_
    obtain ⟨v, rfl, rw'⟩ := rs.one
    obtain ⟨kvs, hd, q⟩ := dctK_of h
    obtain ⟨a, xs, rfl, h1, h2⟩ := dctOf_of r rw' hd
    exact ⟨a, xs, rfl, h1, fun p hp => c V0 _ _ (.ref p) (.ref p) (Same.refl _) (r.addO hp (oo := .dK kvs) ⟨xs, rfl, h2⟩) (.ref p) (q p)⟩
  · exact h.elim
/-- isinstance(x, T), x a dict -/
def cIsiD : TrC := fun ws os k => match ws with
  | [w, .ty m] => dctK w os fun _ => ∃ b, kitB "dict" m = some b ∧ k (.bl b) os
  | _ => False
theorem cmc_isiD : CmC X (.builtin "isinstance") cIsiD := by
  intro ws os k h
  unfold cIsiD at h
  split at h
  · rename_i w m
    refine JC.mk call_isi fun F V0 H vs Q r rs c => ?_
    obtain ⟨v, v2, rfl, rv, rv2⟩ := rs.two
    cases rv2
    obtain ⟨kvs, hd, b, hb, q⟩ := dctK_of h
    obtain ⟨a, xs, rfl, h1, h2⟩ := dctOf_of r rv hd
    have t : TyX X.K H (.ref a) (.type "dict") := by
      rcases h1 with h1 | ⟨o, h1⟩
      · exact .base (.dK h1)
      · exact .fDict h1
    exact ⟨_, .ty m, _, _, b, rfl, .ty m, t, kit_ty hb, c V0 os H _ _ (Same.refl _) r rwB q⟩
  · exact h.elim
/-- two dicts that hold the same (ints, texts, bools, None) -/
def eqDK (ks ls : List (Key × D)) : Prop := ks.length = ls.length ∧ ∀ p ∈ ks, valD ls p.1 = some p.2 ∧ isScal p.2 = true
theorem hits_D {V0 : Hp} {P : Program} {w : World} {A : Around} {s : Shared} {lv : List (Key × Value)} {xs ys : List (Key × V)} {ks ls : List (Key × D)} (ra : RpK X.K V0 xs ks) (rb : RpK X.K V0 ys ls)
    (h : ∀ p ∈ ks, valD ls p.1 = some p.2 ∧ isScal p.2 = true) : ∀ p ∈ xs, valV ys p.1 = some p.2 ∧ flatB p.2 = true := by
  intro p hp
  obtain ⟨i, hi⟩ := List.getElem?_of_mem hp
  have hl : i < ks.length := by rw [← ra.length]; exact (List.getElem?_eq_some_iff.mp hi).1
  obtain ⟨v, e1, rv⟩ := ra.get (List.getElem?_eq_getElem hl)
  rw [hi] at e1
  cases e1
  obtain ⟨h1, h2⟩ := h _ (List.getElem_mem hl)
  obtain ⟨v', e2, rv'⟩ := (rb.val (k := ks[i].1)).1 _ h1
  have ev := rp_scal h2 rv
  have ev' := rp_scal h2 rv'
  refine ⟨by rw [e2, ev, ev'], ?_⟩
  show flatB v = true
  rw [ev]
  cases hk : ks[i].2 <;> rw [hk] at h2 <;> first | rfl | cases h2
def oEqD : TrO := fun x y os k => dctK x os fun ks => dctK y os fun ls => eqDK ks ls ∧ k (.bl true) os
def oNeD : TrO := fun x y os k => dctK x os fun ks => dctK y os fun ls => eqDK ks ls ∧ k (.bl false) os
theorem cmo_eqD (hr : Room lvl X.A) : CmO X (compareOp .Eq) oEqD := by
  intro x y os k h F V0 H v u Q r rx ry c
  refine wO_mk fun pins s σ iv ov I r1 r2 => ?_
  obtain ⟨ks, hk, h⟩ := dctK_of h
  obtain ⟨ls, hl, ⟨hlen, hp⟩, q⟩ := dctK_of h
  obtain ⟨a, xs, rfl, ea, ra⟩ := dctOf_of r rx hk
  obtain ⟨b, ys, rfl, eb, rb⟩ := dctOf_of r ry hl
  obtain rfl : iv = Value.ref a := r1
  obtain rfl : ov = Value.ref b := r2
  obtain ⟨_, ya, va, ka, da⟩ := dk_rd I.hok ea
  obtain ⟨_, yb, vb, kb, db⟩ := dk_rd I.hok eb
  have hl2 : va.length = vb.length := by rw [← ka.length, ← kb.length, ra.length, rb.length]; exact hlen
  exact PySem.W.keq_eq (knd := mixKind X.prog X.w) (r := true) ya yb da db (Nat.lt_of_succ_lt (hu_of hr)) (fun _ => hits_all kb ka (hits_D (P := X.prog) (w := X.w) (A := X.A) (s := s) (lv := []) ra rb hp)) (fin_bl I (c V0 os H _ _ (Same.refl _) r rwB q) (by simp [hl2]))
theorem cmo_neD (hr : Room lvl X.A) : CmO X (compareOp .NotEq) oNeD := by
  intro x y os k h F V0 H v u Q r rx ry c
  refine wO_mk fun pins s σ iv ov I r1 r2 => ?_
  obtain ⟨ks, hk, h⟩ := dctK_of h
  obtain ⟨ls, hl, ⟨hlen, hp⟩, q⟩ := dctK_of h
  obtain ⟨a, xs, rfl, ea, ra⟩ := dctOf_of r rx hk
  obtain ⟨b, ys, rfl, eb, rb⟩ := dctOf_of r ry hl
  obtain rfl : iv = Value.ref a := r1
  obtain rfl : ov = Value.ref b := r2
  obtain ⟨_, ya, va, ka, da⟩ := dk_rd I.hok ea
  obtain ⟨_, yb, vb, kb, db⟩ := dk_rd I.hok eb
  have hl2 : va.length = vb.length := by rw [← ka.length, ← kb.length, ra.length, rb.length]; exact hlen
  exact PySem.W.keq_ne (knd := mixKind X.prog X.w) (r := true) ya yb da db (Nat.lt_of_succ_lt (hu_of hr)) (fun _ => hits_all kb ka (hits_D (P := X.prog) (w := X.w) (A := X.A) (s := s) (lv := []) ra rb hp)) (fin_bl I (c V0 os H _ _ (Same.refl _) r rwB q) (by simp [hl2]))
end
end EV

set_option Elab.async false
set_option linter.all false
set_option maxRecDepth 100000
/-! E10: dict comprehensions. -/
namespace EV
open PySem PySem.Spec PyProof.Rows L2
/-- the turns over ws, acc made so far -/
def dcW (b : TrB) (t : TrT) (tk tv : TrE) (env : DEnv) (k : List (Key × D) → Os → Prop) (gd : Gd) : List D → List (Key × D) → Os → Prop
  | [], acc, os => wkX os fun os => gK gd os (k acc os)
  | w :: ws, acc, os => wkX os fun os => gK gd os (b w env fun env1 => t kx0 env1 os fun bo os1 => (bo = true → tk kx0 env1 os1 fun y os2 => tv kx0 env1 os2 fun z os3 => keyK y fun ky => dcW b t tk tv env k gd ws (putD acc ky z) os3) ∧ (bo = false → dcW b t tk tv env k gd ws acc os1))
def dcK (k : D → Os → Prop) : List (Key × D) → Os → Prop := fun ds os => ∀ p, k (.ref p) ((p, .dK ds) :: os)
theorem tdc_of {X : Cx} {kx : Kx} {env : DEnv} {os : Os} {k : D → Os → Prop} {kxe vxe iter tg : Expr} {ifs : List Expr} {scope : Scope} {vs : List Nat} {g : TG} {bn : TrB} {tt : TrT} {tek tev : TrE} {ti : TrI}
    (hb : BindOk X.K vs g bn) (hi : CmI X tg iter ti) (ht : ∀ s H C cl fp, CmTs (Bk X scope s H C cl fp) ifs tt) (hek : ∀ s H C cl fp, Cm (Bk X scope s H C cl fp) kxe tek) (he : ∀ s H C cl fp, Cm (Bk X scope s H C cl fp) vxe tev)
    (h : ti kx env os fun ws gd os1 => ws.length ≤ sizeLine ∧ dcW bn tt tek tev (wipeE env vs) (dcK k) gd ws [] os1) {F V0 H : Hp} {σ : L2.St} {Q : VK} {W : WX} (r : Rel X.K F V0 os H) (sr : SR X.K V0 σ env) (ek : XkOk X F V0 σ kx W)
    (c : ∀ (V1 : Hp) (os1 : Os) (H1 : Hp) (v : V) (w : D), Same V0 V1 → Rel X.K F V1 os1 H1 → Rp X.K V1 v w → k w os1 → Q v H1) :
    tDc (wPI X tg iter) g (fun σ H Q => ∀ s0 H0 C cl fp, wTs (Bk X scope s0 H0 C cl fp) ifs σ H Q) (fun σ H Q => ∀ s0 H0 C cl fp, wE (Bk X scope s0 H0 C cl fp) kxe σ H Q) (fun σ H Q => ∀ s0 H0 C cl fp, wE (Bk X scope s0 H0 C cl fp) vxe σ H Q) vs σ H Q := by
  refine hi _ _ _ _ h F V0 H σ _ W r sr ek fun V1 os1 H1 J ws gd s1 r1 gi ⟨hz, q⟩ => ?_
  intro L hL
  have hFL := r1.fr.free hL
  have hVL := r1.vi.free hL
  -- the list in the frame
  have put : ∀ (acc : List (Key × V)) (V2 : Hp) (os2 : Os) (H2 : Hp), Rel X.K F V2 os2 H2 → H2 L = none → Rel X.K (upd F L (.dK acc)) V2 os2 (upd H2 L (.dK acc)) := by
    intro acc V2 os2 H2 r2 hn
    have f2 := r2.fr.free hn
    have v2 := r2.vi.free hn
    refine ⟨fun a o e => ?_, fun a o e => ?_, fun a o e => ?_, fun p hp => ?_, r2.nd⟩
    · by_cases ha : a = L
      · subst ha; rw [upd_same] at e ⊢; exact e
      · rw [upd_ne ha] at e ⊢; exact r2.fr a o e
    · rw [upd_ne (ne_of_none e v2)]
      exact r2.vi a o e
    · by_cases ha : a = L
      · subst ha; exact v2
      · rw [upd_ne ha] at e; exact r2.fv a o e
    · obtain ⟨h1, h2, ho, h3, h4⟩ := r2.own p hp
      have ne := ne_of_none h3 hn
      exact ⟨by rw [upd_ne ne]; exact h1, h2, ho, by rw [upd_ne ne]; exact h3, h4⟩
  have grow : ∀ (acc acc' : List (Key × V)) (V2 : Hp) (os2 : Os) (H2 : Hp), Rel X.K (upd F L (.dK acc)) V2 os2 H2 → Rel X.K (upd F L (.dK acc')) V2 os2 (upd H2 L (.dK acc')) := by
    intro acc acc' V2 os2 H2 r2
    have v2 : V2 L = none := r2.fv L _ upd_same
    refine ⟨fun a o e => ?_, fun a o e => ?_, fun a o e => ?_, fun p hp => ?_, r2.nd⟩
    · by_cases ha : a = L
      · subst ha; rw [upd_same] at e ⊢; exact e
      · rw [upd_ne ha] at e ⊢; exact r2.fr a o (by rw [upd_ne ha]; exact e)
    · rw [upd_ne (ne_of_none e v2)]
      exact r2.vi a o e
    · by_cases ha : a = L
      · subst ha; exact v2
      · rw [upd_ne ha] at e; exact r2.fv a o (by rw [upd_ne ha]; exact e)
    · obtain ⟨h1, h2, ho, h3, h4⟩ := r2.own p hp
      have ne : p.1 ≠ L := fun z => by rw [z, upd_same] at h1; cases h1
      exact ⟨by rw [upd_ne ne] at h1 ⊢; exact h1, h2, ho, by rw [upd_ne ne]; exact h3, h4⟩
  refine ⟨fun j m H2 => m = ws.length - j ∧ j ≤ ws.length ∧ ∃ (V2 : Hp) (os2 : Os) (av : List (Key × V)) (ad : List (Key × D)), Same V1 V2 ∧ Rel X.K (upd F L (.dK av)) V2 os2 H2 ∧ RpK X.K V2 av ad ∧ ad.length ≤ j ∧ dcW bn tt tek tev (wipeE env vs) (dcK k) gd (ws.drop j) ad os2,
    ⟨ws.length, rfl, Nat.zero_le _, V1, os1, [], [], Same.refl _, put [] V1 os1 H1 r1 hL, .nil, Nat.le_refl _, q⟩, ?_⟩
  rintro j m H2 ⟨rfl, hj, V2, os0, av, ad, s2, r0, ra2, hl2, q2⟩
  by_cases hlt : j < ws.length
  · rw [List.drop_eq_getElem_cons hlt] at q2
    obtain ⟨os2, hwk, q2⟩ := q2
    have r2 := r0.wk hwk
    obtain ⟨hG, q2⟩ := gK_ok q2
    refine .inr ⟨gi.go j (upd F L (.dK av)) V2 os2 H2 s2 r2 hG hlt, fun H3 => ∃ (V3 : Hp) (os3 : Os) (av3 : List (Key × V)) (ad3 : List (Key × D)), Same V1 V3 ∧ Rel X.K (upd F L (.dK av3)) V3 os3 H3 ∧ RpK X.K V3 av3 ad3 ∧ ad3.length ≤ j + 1 ∧ dcW bn tt tek tev (wipeE env vs) (dcK k) gd (ws.drop (j + 1)) ad3 os3,
      fun H3 q3 => ⟨ws.length - (j + 1), by omega, rfl, hlt, q3⟩, fun x' H' y => ?_⟩
    obtain ⟨V3, s3, r3, rw3⟩ := gi.yld j (upd F L (.dK av)) V2 os2 H2 x' H' ws[j] s2 r2 hG y (List.getElem?_eq_getElem hlt)
    refine hb (upd F L (.dK av)) V3 H' os2 σ _ x' ws[j] _ _ r3 rw3 ((sr_wipe (sr.mono s1) _).mono (s2.trans s3)) q2 fun σ2 env2 sr3 hw q2 => ⟨hw, fun s0 H0 C cl fp => ?_⟩
    refine ht s0 H0 C cl fp _ _ _ q2 (upd F L (.dK av)) V3 H' _ _ r3 sr3 fun V4 os4 H4 b s4 r4 q4 => ?_
    cases b with
    | false => exact iteF ⟨V4, os4, av, ad, (s2.trans s3).trans s4, r4, RpK.mono (s3.trans s4) ra2, Nat.le_succ_of_le hl2, q4.2 rfl⟩
    | true =>
      refine iteT fun s0 H0 C cl fp => ?_
      refine hek s0 H0 C cl fp _ _ _ _ (q4.1 rfl) (upd F L (.dK av)) V4 H4 _ _ _ r4 (sr3.mono s4) XkOk.none fun V5 os5 H5 y5 w5 s5 r5 rw5 q5 => ?_
      intro s0 H0 C cl fp
      refine he s0 H0 C cl fp _ _ _ _ q5 (upd F L (.dK av)) V5 H5 _ _ _ r5 ((sr3.mono s4).mono s5) XkOk.none fun V6 os6 H6 y6 w6 s6 r6 rw6 q6 => ?_
      obtain ⟨ky, rfl, q6⟩ := keyK_of rw5 q6
      have s36 := ((s3.trans s4).trans s5).trans s6
      have ra6 : RpK X.K V6 (putK av ky y6) (putD ad ky w6) := (RpK.mono s36 ra2).put ky rw6
      refine ⟨av, ky, rfl, r6.fr L _ upd_same, ?_, V6, os6, putK av ky y6, putD ad ky w6, s2.trans s36, grow av _ V6 os6 H6 r6, ra6, by have := putD_len ad ky w6; omega, q6⟩
      rw [ra2.length]
      omega
  · have e : j = ws.length := by omega
    subst e
    rw [List.drop_length] at q2
    obtain ⟨os2, hwk, q2⟩ := q2
    have r2 := r0.wk hwk
    obtain ⟨hG, q2⟩ := gK_ok q2
    refine .inl ⟨gi.stop _ (upd F L (.dK av)) V2 os2 H2 s2 r2 hG (Nat.le_refl _), ?_⟩
    have q2 : dcK k ad os2 := q2
    have v2 : V2 L = none := r2.fv L _ upd_same
    refine c V2 ((L, .dK ad) :: os2) H2 (.ref L) (.ref L) (s1.trans s2) ⟨fun a o e => r2.fr a o (by rw [upd_ne (ne_of_none e hFL)]; exact e), r2.vi, fun a o e => ?_, fun p hp => ?_, ?_⟩ (.ref L) (q2 L)
    · exact r2.fv a o (by rw [upd_ne (ne_of_none e hFL)]; exact e)
    · rcases List.mem_cons.mp hp with e | hp
      · subst e
        exact ⟨hFL, v2, _, r2.fr L _ upd_same, av, rfl, ra2⟩
      · obtain ⟨h1, h2, ho, h3, h4⟩ := r2.own p hp
        have ne : p.1 ≠ L := fun z => by rw [z, upd_same] at h1; cases h1
        exact ⟨by rw [upd_ne ne] at h1; exact h1, h2, ho, h3, h4⟩
    · rw [List.map_cons, List.nodup_cons]
      refine ⟨fun hm => ?_, r2.nd⟩
      obtain ⟨q, hq, e⟩ := List.mem_map.mp hm
      obtain ⟨h1, _⟩ := r2.own q hq
      have e' : q.1 = L := e
      rw [e', upd_same] at h1
      cases h1
@[irreducible] def dcX (b : TrB) (t : TrT) (tk tv : TrE) (env : DEnv) (k : List (Key × D) → Os → Prop) (gd : Gd) (ws : List D) (os : Os) : Prop := dcW b t tk tv env k gd ws [] os
theorem dcX_eq {b : TrB} {t : TrT} {tk tv : TrE} {env : DEnv} {k : List (Key × D) → Os → Prop} {gd : Gd} {ws : List D} {os : Os} : dcX b t tk tv env k gd ws os = dcW b t tk tv env k gd ws [] os := by unfold dcX; rfl
def eDc (vs : List Nat) (b : TrB) (ti : TrI) (tt : TrT) (tk tv : TrE) : TrE := fun kx env os k => ti kx env os fun ws gd os1 => ws.length ≤ sizeLine ∧ dcX b tt tk tv (wipeE env vs) (dcK k) gd ws os1
section
variable {X : Cx} {kxe vxe iter tge : Expr} {ifs : List Expr} {scope : Scope} {own : List (Str × Nat)} {pos : Pos} {g : TG} {bn : TrB} {tt : TrT} {tek tev : TrE} {ti : TrI}
theorem cm_dc (hc : X.calm = true) (hN : X.N.Nodup) (ok : BlkOk X.N X.env.scope scope own) (hb : BindOk X.K (own.map (·.2)) g bn)
    (hg : ∀ s H C cl fp, PG (Bk X scope s H C cl fp) tge g) (hi : CmI X tge iter ti) (ht : ∀ s H C cl fp, CmTs (Bk X scope s H C cl fp) ifs tt) (hek : ∀ s H C cl fp, Cm (Bk X scope s H C cl fp) kxe tek) (he : ∀ s H C cl fp, Cm (Bk X scope s H C cl fp) vxe tev)
    (hs : ∀ x, foldedSetIterable iter X.env x = pure x) : Cm X (.DictComp kxe vxe [⟨tge, iter, ifs, 0⟩] scope pos) (eDc (own.map (·.2)) bn ti tt tek tev) := by
  intro kx env os k h F V0 H σ Q W r sr ek c
  refine wE_of (pe_dc (X := X) (own := own) (wi := wPI X tge iter) (g := g) (tt := fun σ H Q => ∀ s0 H0 C cl fp, wTs (Bk X scope s0 H0 C cl fp) ifs σ H Q) (tk := fun σ H Q => ∀ s0 H0 C cl fp, wE (Bk X scope s0 H0 C cl fp) kxe σ H Q) (tv := fun σ H Q => ∀ s0 H0 C cl fp, wE (Bk X scope s0 H0 C cl fp) vxe σ H Q) hc hN wPI_pi ok
    hg (fun s0 H0 C cl fp => ⟨fun pins s σ H Q I q => wTs_pts.run pins s σ H Q I (q s0 H0 C cl fp)⟩) (fun s0 H0 C cl fp => ⟨fun pins s σ H Q I q => wE_pe.run pins s σ H Q I (q s0 H0 C cl fp)⟩) (fun s0 H0 C cl fp => ⟨fun pins s σ H Q I q => wE_pe.run pins s σ H Q I (q s0 H0 C cl fp)⟩) hs) ?_
  unfold eDc at h
  simp only [dcX_eq] at h
  exact tdc_of hb hi ht hek he h r sr ek c
end
theorem dcX_inv {b : TrB} {t : TrT} {tk tv : TrE} {env : DEnv} {k : List (Key × D) → Os → Prop} {gd : Gd} {ws : List D} {os : Os} (I : Nat → List (Key × D) → Os → Prop) (h0 : I 0 [] os)
    (hs : ∀ (j : Nat) (w : D) (acc : List (Key × D)) (os : Os) (N : List (Key × D) → Os → Prop), ws[j]? = some w → I j acc os → (∀ a o o2, WkO o o2 → I (j + 1) a o2 → N a o) →
      b w env fun env1 => t kx0 env1 os fun bo os1 => (bo = true → tk kx0 env1 os1 fun y os2 => tv kx0 env1 os2 fun z os3 => keyK y fun ky => N (putD acc ky z) os3) ∧ (bo = false → N acc os1))
    (hd : ∀ acc os, I ws.length acc os → k acc os) (hG : ∀ j acc os, I j acc os → gOk gd os) : dcX b t tk tv env k gd ws os := by
  rw [dcX_eq]
  have gen : ∀ (m j : Nat) (acc : List (Key × D)) (os os2 : Os), m = ws.length - j → j ≤ ws.length → WkO os os2 → I j acc os2 → dcW b t tk tv env k gd (ws.drop j) acc os := by
    intro m
    induction m with
    | zero =>
      intro j acc os os2 hm hj hw h
      have e : j = ws.length := by omega
      subst e
      rw [List.drop_length]
      exact ⟨os2, hw, gK_mk (hG _ acc os2 h) (hd acc os2 h)⟩
    | succ m ih =>
      intro j acc os os2 hm hj hw h
      have hlt : j < ws.length := by omega
      rw [List.drop_eq_getElem_cons hlt]
      exact ⟨os2, hw, gK_mk (hG j acc os2 h) (hs j ws[j] acc os2 (fun a o => dcW b t tk tv env k gd (ws.drop (j + 1)) a o) (List.getElem?_eq_getElem hlt) h fun a o o2 hw2 z => ih (j + 1) a o o2 (by omega) hlt hw2 z)⟩
  exact gen _ 0 [] os os rfl (Nat.zero_le _) (.refl _) h0
end EV

set_option Elab.async false
set_option linter.all false
set_option maxRecDepth 100000
/-! E11: more methods of lists. -/
namespace EV
open PySem PySem.Spec PyProof.Rows L2
theorem idx_ne : ∀ (ns : List Int) (i : Int) (m : Nat), m < ns.idxOf i → ns[m]? ≠ some i
  | [], i, m, h => by simp at h
  | a :: r, i, 0, h => by
    rw [List.idxOf_cons] at h
    intro e
    have e : a = i := by simpa using e
    rw [e] at h
    simp at h
  | a :: r, i, m + 1, h => by
    rw [List.idxOf_cons] at h
    rw [List.getElem?_cons_succ]
    by_cases e : a = i
    · rw [e] at h; simp at h
    · rw [show (a == i) = false from beq_eq_false_iff_ne.mpr e] at h
      exact idx_ne r i m (by simpa using h)
section
variable {X : Cx} {kx : Kx} {env : DEnv} {os : Os} {k : D → Os → Prop} {pos pos' apos cpos tpos : Pos} {o e f i value : Expr} {to te tf ti tv : TrE} {lvl : Nat}
/-- a list at hand, data or owned -/
def lstK (w : D) (os : Os) (k : List D → Prop) : Prop := match w with
  | .lst ds => k ds
  | .ref p => ∃ (n : Nat) (ws : List D), os[n]? = some (p, OO.lst ws) ∧ k ws
  | _ => False
theorem lstK_of {w : D} {os : Os} {kk : List D → Prop} (h : lstK w os kk) : ∃ ds, LstOf os w ds ∧ kk ds := by
  unfold lstK at h
  split at h
  · exact ⟨_, rfl, h⟩
  · obtain ⟨n, ws, ho, q⟩ := h
    exact ⟨ws, ⟨n, ho⟩, q⟩
  · exact h.elim
/-- its ints -/
def lstI (w : D) (os : Os) (k : List Int → Prop) : Prop := ∃ ns : List Int, LstOf os w (ns.map D.int) ∧ k ns
/-- xs.count(e): ints -/
def eLCnt (to te : TrE) : TrE := fun kx env os k => to kx env os fun w os1 => lstH w os1 (te kx env os1 fun y os2 => match y with
  | .int i => ∃ ns : List Int, LstOf os2 w (ns.map D.int) ∧ k (.int (ns.count i : Nat)) os2
  | _ => False)
where lstH (w : D) (os : Os) (k : Prop) : Prop := lstK w os fun _ => k
theorem tyL_of {F V0 H : Hp} {v : V} {w : D} {q : Prop} (r : Rel X.K F V0 os H) (rv : Rp X.K V0 v w) (h : lstK w os fun _ => q) : ∃ a, v = .ref a ∧ tyV X.K "list" (.ref a) H ∧ q := by
  obtain ⟨ds, hd, q⟩ := lstK_of h
  obtain ⟨a, vs, rfl, h1, h2⟩ := lstOf_of r rv hd
  exact ⟨a, rfl, .inl ⟨rfl, vs, h1⟩, q⟩
theorem cm_lcnt (h : Cm X o to) (h2 : Cm X e te) (hbase : attributeBase o "count" X.env (eval o X.env) = eval o X.env)
    (hfew : ((backTo cpos (starEach [e] X.env)).all (fun x => !x.1) && (backToKw cpos (keywordEach [] X.env)).all (fun x => x.1.isSome)
      && decide ([e].length + ([] : List Keyword).length + (if ([] : List Keyword).isEmpty then 0 else 1) < 30)) = true)
    (hline : (apos.endLine == cpos.line) = true) (hs : starEach [e] X.env = (false, eval e X.env) :: starEach [] X.env) :
    Cm X (.Call (.Attribute o "count" apos) [e] [] cpos) (eLCnt to te) := by
  intro kx env os k q F V0 H σ Q W r sr ek c
  refine wE_of (pe_bm PySem.F.plainAttrs_list PySem.F.slot_list_count PySem.F.type_list_count mt_lcount wE_pe (pa_cons wE_pe pa_nil hs) hbase hfew hline hs) ?_
  refine h _ _ _ _ q F V0 H σ _ W r sr ek fun V1 os1 H1 v w s1 r1 rv q => ?_
  obtain ⟨a, rfl, ty, q⟩ := tyL_of r1 rv q
  refine ⟨ty, ?_⟩
  refine h2 _ _ _ _ q F V1 H1 σ _ W r1 (sr.mono s1) (ek.mono s1) fun V2 os2 H2 u y s2 r2 ru q => ?_
  split at q
  · obtain ⟨ns, hl, q⟩ := q
    obtain ⟨a', vs, e', h3, h4⟩ := lstOf_of r2 (rv.mono s2) hl
    cases e'
    have e3 := rpA_int h4
    subst e3
    cases ru
    exact ⟨a, ns, _, rfl, rfl, h3, c V2 os2 H2 _ _ (s1.trans s2) r2 rwI q⟩
  · exact q.elim
/-- xs.index(e): ints -/
def eLIdx (to te : TrE) : TrE := fun kx env os k => to kx env os fun w os1 => eLCnt.lstH w os1 (te kx env os1 fun y os2 => match y with
  | .int i => ∃ ns : List Int, LstOf os2 w (ns.map D.int) ∧ i ∈ ns ∧ k (.int (ns.idxOf i : Nat)) os2
  | _ => False)
theorem cm_lidx (h : Cm X o to) (h2 : Cm X e te) (hbase : attributeBase o "index" X.env (eval o X.env) = eval o X.env)
    (hfew : ((backTo cpos (starEach [e] X.env)).all (fun x => !x.1) && (backToKw cpos (keywordEach [] X.env)).all (fun x => x.1.isSome)
      && decide ([e].length + ([] : List Keyword).length + (if ([] : List Keyword).isEmpty then 0 else 1) < 30)) = true)
    (hline : (apos.endLine == cpos.line) = true) (hs : starEach [e] X.env = (false, eval e X.env) :: starEach [] X.env) :
    Cm X (.Call (.Attribute o "index" apos) [e] [] cpos) (eLIdx to te) := by
  intro kx env os k q F V0 H σ Q W r sr ek c
  refine wE_of (pe_bm PySem.F.plainAttrs_list PySem.F.slot_list_index PySem.F.type_list_index mt_index wE_pe (pa_cons wE_pe pa_nil hs) hbase hfew hline hs) ?_
  refine h _ _ _ _ q F V0 H σ _ W r sr ek fun V1 os1 H1 v w s1 r1 rv q => ?_
  obtain ⟨a, rfl, ty, q⟩ := tyL_of r1 rv q
  refine ⟨ty, ?_⟩
  refine h2 _ _ _ _ q F V1 H1 σ _ W r1 (sr.mono s1) (ek.mono s1) fun V2 os2 H2 u y s2 r2 ru q => ?_
  split at q
  · rename_i i
    obtain ⟨ns, hl, hi, q⟩ := q
    obtain ⟨a', vs, e', h3, h4⟩ := lstOf_of r2 (rv.mono s2) hl
    cases e'
    have e3 := rpA_int h4
    subst e3
    cases ru
    have hj := List.idxOf_lt_length_iff.mpr hi
    refine ⟨a, _, .int i, ns.idxOf i, .int i, rfl, rfl, h3, rfl, List.all_eq_true.mpr fun x hx => ?_, ?_, ?_, fun m z' hm hz => ?_, c V2 os2 H2 _ _ (s1.trans s2) r2 rwI q⟩
    · obtain ⟨n, _, rfl⟩ := List.mem_map.mp hx; rfl
    · rw [List.getElem?_map, List.getElem?_eq_getElem hj, List.getElem_idxOf hj]; rfl
    · simp [eqV]
    · rw [List.getElem?_map] at hz
      obtain ⟨n, hn, rfl⟩ := Option.map_eq_some_iff.mp hz
      have ne : n ≠ i := fun e => idx_ne ns i m hm (by rw [hn, e])
      simpa [eqV] using ne
  · exact q.elim
/-- a, b = x, y: plain local names, stored from the right -/
def sPar (i j : Nat) (tl : TrA) : TrS := fun N R env os => tl (R.xk env) env os fun ws os1 => match ws with
  | [v, w] => N (setE (setE env i (some v)) j (some w)) os1
  | _ => False
theorem c1_par {i j : Nat} {x y : Str} {a b : Expr} {tl : TrA} {px py pt : Pos} {kt k2 pt2} (hc : X.calm = true) (hN : X.N.Nodup) (hi : X.N[i]? = some x) (hj : X.N[j]? = some y) (hij : i ≠ j)
    (hx : X.env.scope.names.lookup x = some .local) (hy : X.env.scope.names.lookup y = some .local) (ha : CmA X [a, b] tl 2)
    (hw : swappedStores [.Tuple [.Name x px, .Name y py] kt pt] (.Tuple [a, b] k2 pt2) X.env = pure (some [x, y]))
    (hs : swapsWithSole [.Tuple [.Name x px, .Name y py] kt pt] (.Tuple [a, b] k2 pt2) pos.line X.env = pure false) : CmS X (.Assign [.Tuple [.Name x px, .Name y py] kt pt] (.Tuple [a, b] k2 pt2) pos) (sPar i j tl) := by
  intro N R env os q F V0 H σ D W r sr ek
  refine wS1_of (ps_par hc hN hi hj hij hx hy wA_pa hw hs) ?_
  refine ha.2 _ _ _ _ q F V0 H σ _ W r sr (ek.xk sr) fun V1 os1 H1 vs ws s1 r1 rs ⟨_, q⟩ => ?_
  split at q
  · obtain ⟨v, w, rfl, rv, rw'⟩ := rs.two
    exact ⟨v, w, rfl, ek.nx V1 os1 H1 _ _ s1 r1 (sr_setE (sr_setE (sr.mono s1) rv i) rw' j) q⟩
  · exact q.elim
/-- xs.extend(ys) -/
def eExt (to te : TrE) : TrE := fun kx env os k => to kx env os fun w os1 => onL w os1 fun p => te kx env os1 fun y os2 => ∃ (m : Nat) (us ds : List D), os2[m]? = some (p, .lst us) ∧ LstOf os2 y ds ∧ us.length + ds.length ≤ sizeLine ∧ k .non (os2.set m (p, .lst (us ++ ds)))
end
end EV

set_option Elab.async false
set_option linter.all false
set_option maxRecDepth 100000
/-! E12: exceptions of own classes: made, raised, caught. -/
namespace EV
open PySem PySem.Spec PyProof.Rows L2
/-- an own class that has ValueError's __init__ -/
structure InhC (K : PySem.W.Frag) (C : Addr) : Prop where
  rd : PySem.W.readsIn K C (.type "type") = true
  tyC : PySem.W.typeIn K (.ref C) = some (.type "type")
  ga : PySem.W.specialIn K (.ref C) "__getattribute__" = some (some (.builtin "type.__getattribute__"))
  at_ : PySem.W.findCls K (.ref C) (.type "type") "__init__" = some (.val (.builtin "ValueError.__init__"))
section
variable {X : Cx} {o e : Expr} {es : List Expr} {to te : TE} {ta : TA} {f : Str} {p p' p1 p2 pos : Pos}
theorem pe_clsinit {pl : Sem Bool} {x : Str} {D : Addr} (hg : Gl X x) (hm : X.mg x = some (.ref D)) (hdb : (x == ("__debug__" : Str)) = false) (T : InhC X.K D) (ha : PA X (e :: es) ta)
    (hc : eval (.Call (.Attribute (.Name x p1) "__init__" p2) (e :: es) [] pos) X.env = (do
      let ov ← eval (.Name x p1) X.env
      standAt p2.atName
      let (f, first) ← holding [ov] (getMethod ov "__init__" pl)
      callWith pos f first (backTo pos (starEach (e :: es) X.env)) (backToKw pos (keywordEach [] X.env))) := by rfl)
    (he : starEach (e :: es) X.env = (false, eval e X.env) :: starEach es X.env := by rfl) (hpl : (backTo pos (starEach es X.env)).any (·.1) = false := by rfl) :
    PE X (.Call (.Attribute (.Name x p1) "__init__" p2) (e :: es) [] pos) (tVeI X.K ta) := by
  refine ⟨fun pins s σ H Q I h => ?_⟩
  obtain ⟨m, fr⟩ := I.fr
  refine PySem.W.methodCall_KW (ld_glob I hg hm (PySem.W.method_of_cls fr I.ok.mod.kin T.ga (PySem.W.cls_val fr I.ok.mod.kin T.tyC T.rd T.at_ (by decide +kernel) ?_)) hdb) hc
  show wpAny _ _ (callWith pos (.builtin "ValueError.__init__") [] (backTo pos (starEach (e :: es) X.env)) []) _ X.xe _
  refine PyProof.Rows.callWith_method1 (thn (ha.run pos pins _ σ H _ (I.tok _) h) fun us s1 hh => ?_) he hpl
  obtain ⟨vs, H1, I1, r1, a, C, ws, ev, hl, O, ea, q⟩ := hh
  subst ev
  cases r1 with
  | @cons _ u0 _ ur ra rr => cases (show u0 = Value.ref a from ra); exact oinit_ok O I1 ea (by have := Paired.length rr; have := sizeLine_eq; omega) fun s' J => ⟨.non, H1, J, rfl, q⟩
end
/-- what an own exception's __init__(self, x) does: D.__init__(self, ..); self.f = x -/
def spInit (K : PySem.W.Frag) (C : Addr) (fx : Str) : Sp := fun vs H Q _ => ∃ a v, vs = [.ref a, v] ∧ OexC K C ∧ PySem.W.findIn K (.ref C) fx = some none ∧ H a = some (exo a C none) ∧ ∀ d, H d = none → d ≠ a → Q .non (upd (upd H d (exd d [(fx, v)])) a (exo a C (some d)))
section
variable {P : Program} {w : World} {K : PySem.W.Frag} {mg : Str → Option Value} {base : Heap}
theorem okInit {x qual pn fx dn ms : Str} {st : Stmt} {f D C : Addr} {fd : FuncData} {p1 p2 p3 p4 p5 p6 q1 q2 q3 q4 : Pos} {j} (F : Fun K x qual st f fd) (sc : FnScope ["self", pn] ["self", pn] (defScope st))
    (hb : defBody st = [.Expr (.Call (.Attribute (.Name dn p1) "__init__" p2) [.Name "self" p3, .Constant (.str ms) j p4] [] p5) p6, .Assign [.Attribute (.Name "self" q1) fx q2] (.Name pn q3) q4])
    (gd : (defScope st).names.lookup dn = some .globalImplicit) (hm : mg dn = some (.ref D)) (hdb : (dn == ("__debug__" : Str)) = false) (T : InhC K D)
    (hcl : ∀ env : Env, ∃ pl : Sem Bool, eval (.Call (.Attribute (.Name dn p1) "__init__" p2) [.Name "self" p3, .Constant (.str ms) j p4] [] p5) env = (do
      let ov ← eval (.Name dn p1) env
      standAt p2.atName
      let (f, first) ← holding [ov] (getMethod ov "__init__" pl)
      callWith p5 f first (backTo p5 (starEach [.Name "self" p3, .Constant (.str ms) j p4] env)) (backToKw p5 (keywordEach [] env))))
    (v1 : Vis (defScope st) "self") (v2 : Vis (defScope st) pn) (nd2 : (pn == ("__debug__" : Str)) = false) (nc2 : (pn == ("__classdict__" : Str)) = false) :
    FnOk P w K mg base (L2.CX P w) 1 f fd ["self", pn] (spInit K C fx) := by
  refine F.okX sc (fun vs H Q E h => by obtain ⟨a, v, rfl, _⟩ := h; rfl) fun cdv A outer s H vs Q E hr hsp => ?_
  obtain ⟨a, v, rfl, O, hno, ha, q⟩ := hsp
  rw [hb]
  obtain ⟨pl, hcl⟩ := hcl (cxOf (L2.CX P w) P w K mg base ["self", pn] qual (defScope st) f cdv A outer s H E).env
  refine ⟨_, pss_cons (ps_expr (pe_clsinit gd hm hdb T (pa_cons (pe_var (i := 0) rfl v1 (by decide +kernel) (by decide +kernel)) (pa_cons pe_str pa_nil rfl) rfl) hcl rfl rfl) rfl) (pss_one (ps_ost (pe_var (i := 0) rfl v1 (by decide +kernel) (by decide +kernel)) (pe_var (i := 1) rfl v2 nd2 nc2) rfl)), ?_⟩
  refine ⟨.ref a, rfl, ?_⟩
  refine ⟨a, C, [.str ms], rfl, (by show 1 ≤ 1000; decide), O, ha, ?_⟩
  refine ⟨v, rfl, .ref a, rfl, a, C, rfl, O, hno, .inl ⟨ha, fun d hd hda => ?_⟩⟩
  exact q d hd hda
/-- an own exception's class, by its name -/
structure CalE (P : Program) (w : World) (K : PySem.W.Frag) (mg : Str → Option Value) (base : Heap) (x : Str) (C : Addr) (fn : Nat) : Prop where
  ex : ∃ (fI : Addr) (fd : FuncData) (ps : List Str), FnOk P w K mg base (L2.CX P w) 1 fI fd ps (spInit K C (nm fn)) ∧ Binds K fd ps [] ∧ PySem.W.findIn K (.ref C) "__init__" = some (some (.ref fI)) ∧ PySem.W.typeIn K (.ref fI) = some (.type "function") ∧ mg x = some (.ref C)
  ox : OexC K C
  no : PySem.W.findIn K (.ref C) (nm fn) = some none
end
/-- raise C(e) -/
def sRz (C : Addr) (fn : Nat) (te : TrE) : TrS := fun N R env os => te (R.xk env) env os fun w os1 => R.ex ⟨C, [(fn, w)]⟩ env os1
theorem c1_rz {X : Cx} {C : Addr} {fn : Nat} {x : Str} {e : Expr} {te : TrE} {p pos pos2 : Pos} (hc : X.calm = true) (CE : CalE X.prog X.w X.K X.mg X.base x C fn) (hr : Room 2 X.A) (hg : Gl X x) (h : Cm X e te) (hdb : (x == ("__debug__" : Str)) = false)
    (he : starEach [e] X.env = (false, eval e X.env) :: starEach [] X.env) (hpl : (backTo pos (starEach [] X.env)).any (·.1) = false) : CmS X (.Raise (some (.Call (.Name x p) [e] [] pos)) none pos2) (sRz C fn te) := by
  obtain ⟨⟨fI, fd, ps, G, hb, hi, ht, hm⟩, O, hno⟩ := CE
  intro N R env os q F V0 H σ D W r sr ek
  refine wS1_of (ps_raise hc ek.tk (pmk_oex O hi ht G hr hb .nil passL hg hm (pa_cons wE_pe pa_nil he) hdb he hpl)) ?_
  refine h _ _ _ _ q F V0 H σ _ W r sr (ek.xk sr) fun V1 os1 H1 v w' s1 r1 rv q => ?_
  refine ⟨(by show 1 ≤ 1000; decide), fun a ha => ?_⟩
  refine ⟨a, v, rfl, O, hno, upd_same, fun d hd hda => ?_⟩
  have hd1 : H1 d = none := by rw [upd_ne hda] at hd; exact hd
  refine ⟨rfl, d, [(nm fn, v)], upd_same, by rw [upd_ne hda, upd_same], hd1, ?_⟩
  have eH : upd (del (upd (upd (upd H1 a (exo a C none)) d (exd d [(nm fn, v)])) a (exo a C (some d))) a) d (.xd [(nm fn, v)]) = upd H1 d (.xd [(nm fn, v)]) := by
    funext b
    by_cases hbd : b = d
    · subst hbd; rw [upd_same, upd_same]
    · rw [upd_ne hbd, upd_ne hbd]
      by_cases hba : b = a
      · subst hba; rw [del_same, ha]
      · rw [del_ne hba, upd_ne hba, upd_ne hbd, upd_ne hba]
  rw [eH]
  have sv : Same V1 (upd V1 d (.xd [(nm fn, v)])) := same_upd (r1.vi.free hd1)
  refine ek.ex (upd V1 d (.xd [(nm fn, v)])) os1 _ σ env (.ref C) (some d) ⟨C, [(fn, w')]⟩ (s1.trans sv) (r1.addV hd1 _) ((sr.mono s1).mono sv) ⟨rfl, d, _, rfl, upd_same, .cons ⟨rfl, rv.mono sv⟩ .nil⟩ q

/-! ### try, except C as n -/
def sTry (i : Nat) (C : Addr) (fn : Nat) (tb : TrS) (ts : Addr → Addr → TrS) : TrS := fun N R env os =>
  tb N { R with ex := fun x env1 os1 => match x.fs with
    | [(f, w)] => x.C = C ∧ f = fn ∧ ∀ a dx, ts a dx (fun e o => N (setE e i none) o) { rt := R.rt, bk := fun e o => R.bk (setE e i none) o, ct := fun e o => R.ct (setE e i none) o } (setE env1 i (some (.exn a dx C fn w))) os1
    | _ => False } env os
theorem c1_try {X : Cx} {i fn : Nat} {C : Addr} {x n : Str} {body suite : List Stmt} {b₀ : Stmt} {np pos pos' : Pos} {tb : TrS} {ts : Addr → Addr → TrS} (hs : X.stack = X.env :: X.outer) (hf : X.env.frame = some X.env.locals) (hN : X.N.Nodup) (hi : X.N[i]? = some n) (hln : X.env.kindOf n = some .local)
    (hg : Gl X x) (hdb : (x == ("__debug__" : Str)) = false) (hm : X.mg x = some (.ref C)) (hx : PySem.W.exmOne X.K (.ref C) (.ref C) = some true)
    (hb : ∀ (pn : List (Addr × Obj)) (xe : Value → Shared → Prop), PassesOwn (model X.prog X.w) X.A X.env xe → CmSs (X.tr pn xe) body tb)
    (hsu : ∀ (a : Addr) (oe : Obj) (dx : Addr) (pn : List (Addr × Obj)), Zc (.ref C) (some dx) oe → (∃ vs, oe.data = .fields vs) → CmSs (X.suite a ((a, oe) :: pn)) (b₀ :: suite) (ts a dx)) :
    CmS X (.Try body [.ExceptHandler (some (.Name x np)) (some n) (b₀ :: suite) pos'] [] [] pos) (sTry i C fn tb ts) := by
  intro N R env os q F V0 H σ D W r sr ek
  refine wS1_of (ps_try_as (i := i) (tb := fun W D σ H => ∀ (pn : List (Addr × Obj)) (xe : Value → Shared → Prop), Takes (X.tr pn xe) W → PassesOwn (model X.prog X.w) X.A X.env xe → wSs (X.tr pn xe) body D σ H)
    (ts := fun a cls d D σ H => ∀ (oe : Obj) (pn : List (Addr × Obj)), Zc cls d oe → (∃ vs, oe.data = .fields vs) → wSs (X.suite a ((a, oe) :: pn)) (b₀ :: suite) D σ H)
    hs hf hN hi hln ⟨hg, hdb, .inl hm⟩ ek.tk (fun W pn xe tk po => ⟨fun pins s σ H D I q => wSs_pss.run pins s σ H D I (q pn xe tk po)⟩) (fun a oe cls d pn hz hf => ⟨fun pins s σ H D I q => wSs_pss.run pins s σ H D I (q oe pn hz hf)⟩)) ?_
  intro pn xe tk po
  refine hb pn xe po _ _ _ _ q F V0 H σ D _ r sr ⟨ek.nx, ek.rt, ek.bk, ek.ct, tk, fun V1 os1 H1 σ1 env1 cls d x s1 r1 sr1 exr qx => ?_⟩
  obtain ⟨ec, dx, vf, ed, ev, rf⟩ := exr
  have qx : (match x.fs with
    | [(f, w)] => x.C = C ∧ f = fn ∧ ∀ a dx, ts a dx (fun e o => N (setE e i none) o) { rt := R.rt, bk := fun e o => R.bk (setE e i none) o, ct := fun e o => R.ct (setE e i none) o } (setE env1 i (some (.exn a dx C fn w))) os1
    | _ => False) := qx
  split at qx
  · rename_i f w' hfs
    obtain ⟨eC, rfl, qx⟩ := qx
    rw [hfs] at rf
    cases rf with
    | @cons p _ ps _ hp rt =>
      cases rt
      obtain ⟨pn1, pv⟩ := p
      obtain ⟨e1, rv⟩ := hp
      have e1 : pn1 = nm f := e1
      subst e1
      rw [ec, ed, eC]
      refine ⟨true, hx, fun _ a ha oe pn2 hz hfl => ?_, fun z => nomatch z⟩
      refine hsu a oe dx pn2 hz hfl _ _ _ _ (qx a dx) F V1 H1 _ _ (fun _ _ _ _ => False) r1 (sr_setE sr1 (.exn ev rv) i) ⟨fun V2 o2 H2 σ2 e2 s2 r2 sr2 q2 => ?_, fun V2 o2 H2 v w s2 r2 rv2 q2 => ?_, fun V2 o2 H2 σ2 e2 s2 r2 sr2 q2 => ?_, fun V2 o2 H2 σ2 e2 s2 r2 sr2 q2 => ?_, takes0, fun _ _ _ _ _ _ _ _ _ _ _ _ z => z⟩
      · exact ek.nx V2 o2 H2 _ _ (s1.trans s2) r2 (set_none sr2 i) q2
      · exact ek.rt V2 o2 H2 v w (s1.trans s2) r2 rv2 q2
      · exact ek.bk V2 o2 H2 _ _ (s1.trans s2) r2 (set_none sr2 i) q2
      · exact ek.ct V2 o2 H2 _ _ (s1.trans s2) r2 (set_none sr2 i) q2
  · exact qx.elim
/-- n.f, in the suite -/
def eXf (a dx C : Addr) (fn i : Nat) : TrE := fun _ env os k => match getE env i with
  | some (.exn a' dx' C' f' w) => a' = a ∧ dx' = dx ∧ C' = C ∧ f' = fn ∧ k w os
  | _ => False
theorem cm_xf {X : Cx} {a dx C : Addr} {fn i : Nat} {oe : Obj} {pn : List (Addr × Obj)} {x : Str} {fx : Str} {p pos : Pos} (hfx : fx = nm fn) (T : XfC X.K C) (hno : PySem.W.findIn X.K (.ref C) fx = some none) (hz : Zc (.ref C) (some dx) oe) (hf : ∃ vs, oe.data = .fields vs)
    (hN : X.N[i]? = some x) (hv : Vis X.env.scope x) (hd : (x == ("__debug__" : Str)) = false) (hcd : (x == ("__classdict__" : Str)) = false) (hb : ∀ env, attributeBase (.Name x p) fx env (eval (.Name x p) env) = eval (.Name x p) env) :
    Cm (X.suite a ((a, oe) :: pn)) (.Attribute (.Name x p) fx pos) (eXf a dx C fn i) := by
  subst hfx
  intro kx env os k h F V0 H σ Q W r sr ek c
  unfold eXf at h
  split at h
  · rename_i a' dx' C' f' w he
    obtain ⟨rfl, rfl, rfl, rfl, q⟩ := h
    obtain ⟨v, e1, r1⟩ := sr.2 i _ (getE_eq _ _ _ he)
    cases r1 with
    | exn h1 h2 =>
      rename_i u
      refine wE_of (pe_xf T hno hz hf (pe_var (X := X.suite a' ((a', oe) :: pn)) hN hv hd hcd) (hb _)) ?_
      exact ⟨_, e1, rfl, rfl, _, _, u, rfl, r.vi _ _ h1, by simp [List.lookup], c V0 os H u w (Same.refl _) r h2 q⟩
  · exact h.elim
/-- isinstance(n, T), in the suite -/
def cIsE (a dx C : Addr) (fn : Nat) (dT : D) (b : Bool) : TrC := fun ws os k => match ws with
  | [.exn a' dx' C' f' _, t] => a' = a ∧ dx' = dx ∧ C' = C ∧ f' = fn ∧ t = dT ∧ k (.bl b) os
  | _ => False
theorem cmc_isE {X : Cx} {a dx C : Addr} {fn : Nat} {oe : Obj} {pn : List (Addr × Obj)} {dT : D} {cv : Value} {b : Bool} (T : ExcC X.K C) (hz : Zc (.ref C) (some dx) oe) (hf : ∃ vs, oe.data = .fields vs)
    (hT : (∃ t, dT = .ref t ∧ cv = .ref t) ∨ ∃ m, dT = .ty m ∧ cv = .type m) (hk : PySem.W.kitOne X.K (.ref C) cv = some b) : CmC (X.suite a ((a, oe) :: pn)) (.builtin "isinstance") (cIsE a dx C fn dT b) := by
  intro ws os k h
  unfold cIsE at h
  split at h
  · rename_i a' dx' C' f' w' t
    obtain ⟨rfl, rfl, rfl, rfl, rfl, q⟩ := h
    intro F V0 H vs Q r rs c pins s σ us I rv
    obtain ⟨v, v2, rfl, rx, rt⟩ := rs.two
    cases rx with
    | exn h1 h2 =>
      cases rv with
      | cons ru rv =>
        cases rv with
        | @cons _ u2 _ _ ru2 rv2 =>
        cases rv2
        cases ru
        have ec : u2 = cv := by
          rcases hT with ⟨t, rfl, rfl⟩ | ⟨m, rfl, rfl⟩
          · obtain rfl := rt.toRef; exact ru2
          · cases rt; exact ru2
        subst ec
        obtain ⟨hget, _⟩ := I.pin (a', oe) (List.mem_append.mpr (.inl List.mem_cons_self))
        obtain ⟨vs, hv⟩ := hf
        have hx : ObjOk X.prog X.w H s.heap dx' (.xd [(nm f', _)]) := I.hok dx' _ (r.vi _ _ h1)
        obtain ⟨mA, hns, _⟩ := hx
        obtain ⟨od, ho, _⟩ := lookIn_ns hns
        have J : PySem.W.InstAt s.heap a' oe C' (some od) := ⟨hget, hz.1, by unfold PySem.W.notCls; rw [hv] <;> rfl, by rw [hz.2]; exact ho⟩
        exact PySem.W.kia_one (PySem.W.kitx_exc (by obtain ⟨cd, hc, _⟩ := PySem.W.any_some T.hd; rw [hc]; rfl) T.hg T.hk T.hs T.ha T.hn T.ht T.hm) I.kIn J hk (fun z => nomatch z) fun tk => ⟨.bl b, H, I.kept (t' := tk) fun _ _ z => z, rfl, c V0 os H _ _ (Same.refl _) r rwB q⟩
  · exact h.elim
end EV

set_option Elab.async false
set_option linter.all false
set_option maxRecDepth 100000
/-! E13: enumerate over owned lists. -/
namespace EV
open PySem PySem.Spec PyProof.Rows L2
theorem gi_enum_own {K : PySem.W.Frag} {V1 : Hp} {p : Addr} {ds : List D} : GI K V1 (Ite K p) (enumW 0 ds) (some (p, ds)) := by
  have key : ∀ (F V2 : Hp) (os : Os) (H : Hp), Rel K F V2 os H → gOk (some (p, ds)) os → ∃ vs, SqL K H p vs ∧ RpA K V2 vs ds := fun F V2 os H r2 ⟨n, ho⟩ => by
    obtain ⟨_, _, ho', h3, vs, rfl, h4⟩ := r2.own _ (List.mem_of_getElem? ho)
    exact ⟨vs, SqL.of h3, h4⟩
  refine ⟨fun i F V2 os H s2 r2 g hi => ?_, fun i F V2 os H s2 r2 g hi => ?_, fun i F V2 os H x H' w s2 r2 g y e => ?_⟩
  · obtain ⟨vs, h, ra⟩ := key F V2 os H r2 g
    have hl := ra.length
    rw [enumW_len] at hi
    exact ⟨vs, vs[i]'(by omega), h, by simp [hl, hi]⟩
  · obtain ⟨vs, h, ra⟩ := key F V2 os H r2 g
    have hl := ra.length
    rw [enumW_len] at hi
    exact ⟨vs, h, by omega⟩
  · obtain ⟨vs, h, ra⟩ := key F V2 os H r2 g
    obtain ⟨T, v, rfl, hT, rfl, y⟩ := y
    have ex := y vs h
    obtain ⟨d, ed, rd⟩ := ra.getV ex
    obtain ⟨d', ed', rfl⟩ := enumW_get e
    rw [ed] at ed'; cases ed'
    obtain ⟨s3, r3, rp⟩ := rel_newT (vs := [.int (i : Nat), v]) (ds := [.int (i : Nat), d]) r2 hT (.cons (.int _) (.cons rd .nil))
    rw [Int.zero_add]
    exact ⟨_, s3, r3, rp⟩
/-- enumerate(a list), the list owned or data -/
def iEnO (te : TrE) : TrI := fun kx env os ki => te kx env os fun w os1 => match w with
  | .lst ds => ki (enumW 0 ds) none os1
  | .ref p => ∃ (n : Nat) (ws : List D), os1[n]? = some (p, OO.lst ws) ∧ ki (enumW 0 ws) (some (p, ws)) os1
  | _ => False
theorem ci_enO {X : Cx} {e : Expr} {te : TrE} {p pos : Pos} {elts : List Expr} {kk : Nat} {tpos : Pos} (hg : Gl X "enumerate") (hm : X.mg "enumerate" = none) (h : Cm X e te) (hs : starEach [e] X.env = [(false, eval e X.env)]) :
    CmI X (.Tuple elts kk tpos) (.Call (.Name "enumerate" p) [e] [] pos) (iEnO te) := by
  intro kx env os ki q F V0 H σ R W r sr ek c
  refine wPI_of (pi_enum hg hm (pa_cons wE_pe pa_nil hs) hs) ?_
  refine h _ _ _ _ q F V0 H σ _ W r sr ek fun V1 os1 H1 v w s1 r1 rv q => ?_
  split at q
  · obtain ⟨p, xs, rfl, h1, h2⟩ := rp_lst rv
    exact ⟨p, xs, rfl, r1.vi.seq h1, c V1 os1 H1 _ _ _ s1 r1 (gi_enum h1 h2) q⟩
  · obtain ⟨n, ws, ho, q⟩ := q
    obtain rfl := rv.toRef
    obtain ⟨_, _, ho', h3, vs, rfl, h4⟩ := r1.own _ (List.mem_of_getElem? ho)
    exact ⟨_, vs, rfl, SqL.of h3, c V1 os1 H1 _ _ _ s1 r1 gi_enum_own q⟩
  · exact q.elim
/-! ### tuples that are constants of the module -/
theorem rp_fix {K : PySem.W.Frag} {a : Addr} {xs : List V} {ds : List D} {od : Option Addr} {its : Array Value} {n : Nat} {sl : Array (Option Value)} (hl : K.lookup a = some ⟨.type "tuple", od, .seq its n, sl⟩) (hz : its.size ≤ sizeLine) (hv : Vals xs its.toList) (hr : ∀ V0 : Hp, RpA K V0 xs ds) :
    ∀ V0 : Hp, Rp K V0 (.ref a) (.tup ds) := fun V0 => .tup (.inr ⟨_, its, n, hl, rfl, rfl, hz, hv⟩) (hr V0)
theorem glb_tup {K : PySem.W.Frag} {mg : Str → Option Value} {x : Str} {a : Addr} {d : D} (h : mg x = some (.ref a)) (hr : ∀ V0 : Hp, Rp K V0 (.ref a) d) : Glb K mg x d := ⟨.ref a, _, h, rfl, hr⟩
end EV

set_option Elab.async false
set_option linter.all false
set_option maxRecDepth 100000
/-! E14: an instance == a number (its class has no __eq__ of its own). -/
namespace EV
open PySem PySem.Spec PyProof.Rows L2
section
variable {M : Model} {P : Program} {w : World} {A : Around} {E : Value → Shared → Prop} {s : Shared} {K : PySem.W.Frag} {o C dx : Addr} {oo : Obj} {od : Option Obj} {i : Int} {t : Tok}
theorem oi_same {R : Bool → Shared → Prop} (h : R false s) : wpAny M A (isSame (.ref o) (.int i t)) R E s :=
  wpAny_of_eq (rfl : isSame (.ref o) (.int i t) = pure false) h
theorem oi_entry {R : Fin → Shared → Prop} (h : R (.done (.ret .notImplemented)) s) : wpAny M A (Builtin.«object.__eq__» ⟨[.ref o, .int i t], []⟩) R E s := by
  unfold Builtin.«object.__eq__»
  repeat (first | with_reducible refine oi_same ?_ | wp_step)
  exact h
theorem oi_call {R : Value → Shared → Prop} (X : K.In s.heap) (I : PySem.W.InstAt s.heap o oo C od) (hm : PySem.W.mroIn K C (.type "object") = some true) (h : R .notImplemented s) :
    wpAny (model P w) A (call (.builtin "object.__eq__") [.ref o, .int i t]) R E s := by
  refine wpAny_call (codeAny_call_builtin F.cmp_object.eq.plain F.cmpEntry_eq ?_)
  exact PySem.W.check_slot F.cmpKind_eq F.cmpSplit_eq (I.type.andThen (PySem.W.looks_mroIn X hm)) (F.cmpArgs_eq _ _) (oi_entry h)
theorem oi_int (n : Int) (u : Tok) (a B d : Addr) :
    Meets (Builtin.«int.__eq__» ⟨[.int n u, .ref a], []⟩) (fun _ R z => z.heap.get? a = some (PySem.W.instObj B d) ∧ R (.ok (.ret .notImplemented)) z) :=
  .of_wp fun pr wd Ar R z h => by
    obtain ⟨hp, g, dr, tk, os⟩ := z
    obtain ⟨hl, h⟩ := h
    unfold PySem.W.instObj at hl
    wp_walk using wpAny_loadPart' hl, wpAny_load hl
    exact ⟨_, rfl, h⟩
theorem oi_sub : PySem.W.subIn K (.type "int") (.ref C) = some false := by
  have e : fastBuiltinMro "int" = some [.type "int", .type "object"] := by decide +kernel
  show (fastBuiltinMro "int").map (fun l => l.contains (.ref C)) = some false
  rw [e]
  first
    | rfl
    | simp
theorem oi_rc (hu : A.units < cLine) (X : K.In s.heap) (I : PySem.W.InstAt s.heap o (PySem.W.instObj C dx) C od) (hm : PySem.W.mroIn K C (.type "object") = some true)
    (hs : PySem.W.findIn K (.ref C) "__eq__" = some (some (.builtin "object.__eq__"))) {R : Value → Shared → Prop} (h : R (.bool false) s) : wpAny (model P w) A (richCompare .Eq (.ref o) (.int i t)) R E s := by
  have m1 : wpAny (model P w) A (tryCompare (.ref o) "__eq__" (.int i t)) (fun r z => r = none ∧ z = s) E s := by
    unfold tryCompare
    refine wpAny_bind (HN.ifBound_objEq X I hs (oi_call X I hm ?_))
    exact wpAny_pure ⟨rfl, rfl⟩
  have m2 : wpAny (model P w) A (tryCompare (.int i t) "__eq__" (.ref o)) (fun r z => r = none ∧ z = s) E s :=
    wpAny_tryCompare_declines (typeIs_int s i t) F.slot_int_eq_refl (call_meets F.slot_int_eq_refl (typeIs_int s i t) F.entry_int_eq (F.args_int_eq_2 _ _) (oi_int i t o C dx) ⟨I.at_, ⟨rfl, rfl, rfl⟩⟩)
  simp only [richCompare, cmpInfo_Eq, oneThing_ref]
  refine wpAny_holding (wpAny_bind (wpAny_cRoomFor hu ?_))
  refine wpAny_bind (I.type.here (wpAny_bind (wpAny_typeOf (typeIs_int s i t) ?_)))
  split
  · refine wpAny_bind ((PySem.W.looks_subIn X oi_sub).here ?_)
    simp only [Bool.false_eq_true, if_false, Bool.not_false, if_true]
    refine wpAny_bind (m := tryCompare (.ref o) _ (.int i t)) (wpAny_mono m1 (fun r s1 z => ?_) fun _ _ e => e)
    obtain ⟨rfl, rfl⟩ := z
    refine wpAny_bind (m := tryCompare (.int i t) _ (.ref o)) (wpAny_mono m2 (fun r s2 z => ?_) fun _ _ e => e)
    obtain ⟨rfl, rfl⟩ := z
    exact wpAny_bind (wpAny_rule (wpAny_bind (oi_same (wpAny_pure h))))
  · rename_i z
    exact absurd (by simp) z
end
/-! the answers of except and isinstance for own classes -/
theorem exm_self {K : PySem.W.Frag} {C : Addr} (be : PySem.W.subIn K (.ref C) (.type "BaseException") = some true) (iC : PySem.W.isClsIn K C = true) (tC : PySem.W.typeIn K (.ref C) = some (.type "type")) (sC : PySem.W.subIn K (.ref C) (.ref C) = some true) :
    PySem.W.exmOne K (.ref C) (.ref C) = some true := by
  unfold PySem.W.isClsIn at iC
  unfold PySem.W.exmOne PySem.W.kitCls
  simp only [be, iC, tC, sC]
  rfl
theorem kit_ref {K : PySem.W.Frag} {C D : Addr} (iD : PySem.W.isClsIn K D = true) (tD : PySem.W.typeIn K (.ref D) = some (.type "type")) (s : PySem.W.subIn K (.ref C) (.ref D) = some true) : PySem.W.kitOne K (.ref C) (.ref D) = some true := by
  unfold PySem.W.isClsIn at iD
  unfold PySem.W.kitOne PySem.W.kitCls
  simp only [iD, tD, s]
  split <;> rfl
theorem kit_typ {K : PySem.W.Frag} {C : Addr} {T : String} {b : Bool} (m : PySem.W.kitMeta T = true) (s : PySem.W.subIn K (.ref C) (.type T) = some b) : PySem.W.kitOne K (.ref C) (.type T) = some b := by
  unfold PySem.W.kitOne PySem.W.kitCls
  simp only [m, s]
  rfl
/-- a class without an __eq__ of its own -/
structure EqC (K : PySem.W.Frag) (C : Addr) : Prop where
  mo : PySem.W.mroIn K C (.type "object") = some true
  eq : PySem.W.findIn K (.ref C) "__eq__" = some (some (.builtin "object.__eq__"))
def rEqI (K : PySem.W.Frag) : R2 := fun x y H Q => ∃ a C dx fs i, x = .ref a ∧ y = .int i ∧ H a = some (.ins C dx fs) ∧ EqC K C ∧ Q (.bl false) H
theorem op_eqI {X : Cx} (hu : X.A.units < cLine) : OpR X (compareOp .Eq) (rEqI X.K) := by
  intro pins s σ H x y v u Q I rx ry h
  obtain ⟨a, C, dx, fs, i, rfl, rfl, ha, hE, q⟩ := h
  cases rx
  obtain ⟨t, rfl⟩ := ry
  obtain ⟨mA, O, _⟩ := ins_get I.hok ha
  obtain ⟨od, J, _⟩ := O.look
  exact oi_rc hu I.kIn J hE.mo hE.eq ⟨.bl false, H, I, rfl, q⟩
/-- x == i, where x may be an instance of the classes Cs -/
def oEqI (C : Addr) : TrO := fun x y os k => match x, y with
  | .ref a, .int _ => ∃ (n : Nat) (fs : List (Nat × D)), os[n]? = some (a, OO.ins C fs) ∧ k (.bl false) os
  | x, y => oEq x y os k
theorem cmo_eqI {lvl : Nat} {X : Cx} {C : Addr} (hr : Room lvl X.A) (hC : EqC X.K C) : CmO X (compareOp .Eq) (oEqI C) := by
  intro x y os k h
  unfold oEqI at h
  split at h
  · rename_i a i
    obtain ⟨n, fs, ho, q⟩ := h
    refine JO.mk (op_eqI (by have := hr.units; omega)) fun F V0 H v u Q r rx ry c => ?_
    obtain rfl := rx.toRef
    cases ry
    obtain ⟨_, _, ho', h3, dx, vf, rfl, _⟩ := r.own _ (List.mem_of_getElem? ho)
    exact ⟨a, C, dx, vf, i, rfl, rfl, h3, hC, c V0 os H _ _ (Same.refl _) r rwB q⟩
  · exact cmo_eq hr x y os k h
end EV

set_option Elab.async false
set_option linter.all false
set_option maxRecDepth 100000
/-! E15: calls with keywords. -/
namespace EV
open PySem PySem.Spec PyProof.Rows L2
/-- the weakest judgement of keywords -/
@[irreducible] def wK (X : Cx) (kws : List Keyword) : TA := fun σ H Q => ∀ (pos : Pos) (pins : List (Addr × Obj)) (s : Shared), Inv X pins σ H s → wpAny (model X.prog X.w) X.A (evalAll ((backToKw pos (keywordEach kws X.env)).map (·.2))) (AP X pins σ Q) X.xe s
theorem wK_pk {X : Cx} {kws : List Keyword} : PK X kws (wK X kws) := by unfold wK; exact ⟨fun pos pins s _ _ _ I h => h pos pins s I⟩
theorem wK_of {X : Cx} {kws : List Keyword} {t : TA} (h : PK X kws t) {σ : L2.St} {H : Hp} {Q : List V → Hp → Prop} (q : t σ H Q) : wK X kws σ H Q := by unfold wK; exact fun pos pins s I => h.run pos pins s σ H Q I q
def JK (X : Cx) (kx : Kx) (kws : List Keyword) (env : DEnv) (os : Os) (k : List D → Os → Prop) : Prop :=
  ∀ (F V0 H : Hp) (σ : L2.St) (Q : List V → Hp → Prop) (W : WX), Rel X.K F V0 os H → SR X.K V0 σ env → XkOk X F V0 σ kx W →
    (∀ (V1 : Hp) (os1 : Os) (H1 : Hp) (vs : List V) (ws : List D), Same V0 V1 → Rel X.K F V1 os1 H1 → RpA X.K V1 vs ws → k ws os1 → Q vs H1) → wK X kws σ H Q
def CmK (X : Cx) (kws : List Keyword) (t : TrA) (n : Nat) : Prop := ∀ kx env os k, t kx env os k → JK X kx kws env os fun ws os1 => ws.length = n ∧ k ws os1
section
variable {X : Cx} {e : Expr} {es : List Expr} {kws : List Keyword} {te : TrE} {tl tk : TrA} {n m : Nat} {nn : Option Str} {kpos p pos : Pos} {x : Str} {lvl : Nat} {T : FT} {C : Addr}
theorem ck_nil : CmK X [] aN 0 := fun kx env os kl q F V0 H σ Q W r sr ek c => wK_of pk_nil (c V0 os H [] [] (Same.refl _) r .nil ⟨rfl, q⟩)
theorem ck_cons (h : Cm X e te) (h2 : CmK X kws tk n) : CmK X (⟨nn, e, kpos⟩ :: kws) (aC te tk) (n + 1) := by
  intro kx env os kl q F V0 H σ Q W r sr ek c
  refine wK_of (pk_cons wE_pe wK_pk) ?_
  refine h _ _ _ _ q F V0 H σ _ W r sr ek fun V1 os1 H1 v w s1 r1 rv q => ?_
  exact h2 _ _ _ _ q F V1 H1 σ _ W r1 (sr.mono s1) (ek.mono s1) fun V2 os2 H2 vs ws s2 r2 rs ⟨hl, q2⟩ => c V2 os2 H2 (v :: vs) (w :: ws) (s1.trans s2) r2 (.cons (rv.mono s2) rs) ⟨congrArg (· + 1) hl, q2⟩
/-- a class by its name, made with keywords alone -/
structure CalKI (P : Program) (w : World) (K : PySem.W.Frag) (mg : Str → Option Value) (base : Heap) (lvl : Nat) (C : Addr) (x : Str) (n : Nat) (T : FT) (ks : List Str) (gD : List D → List D) : Prop where
  ex : ∃ (f : Addr) (fd : FuncData) (ps : List Str) (g : List Value → List Value → List Value) (gV : List V → List V → List V) (gT : List V → List V),
    FnOk P w K mg base (L2.CX P w) lvl f fd ps (spX K n T) ∧ Mk K C f ∧ KBn K fd ps 1 ks g gV ∧ mg x = some (.ref C) ∧ (∀ o zs, gV [o] zs = o :: gT zs) ∧
      (∀ (V0 : Hp) (zs : List V) (ws : List D), RpA K V0 zs ws → RpA K V0 (gT zs) (gD ws)) ∧ ∀ zs : List V, zs.length = ks.length → (gT zs).length + 1 = n
theorem run_makeKS {CX : CXT} {sp : Sp} {E : XK} {f : Addr} {fd : FuncData} {ps ks : List Str} {pins : List (Addr × Obj)} {σ : L2.St} {H : Hp} {s : Shared} {Q : VK} {g : List Value → List Value → List Value} {gV : List V → List V → List V} {ws : List Value} {zs : List V}
    (M : Mk X.K C f) (G : FnOk X.prog X.w X.K X.mg X.base CX lvl f fd ps sp) (hr : Room (lvl + 1) X.A) (hb : KBn X.K fd ps 1 ks g gV) (hx : PassesAt CX X σ E) (I : Inv X pins σ H s) (rz : Vals zs ws) (l2 : zs.length = ks.length)
    (h : ∀ x dx, H x = none → H dx = none → dx ≠ x → sp (gV [.ref x] zs) (upd (upd H dx (.own x)) x (.ins C dx [])) (fun v H2 => v = .non ∧ Q (.ref x) H2) E) :
    wpAny (model X.prog X.w) X.A (call (.ref C) [] (ks.zip ws)) (EP X pins σ Q) X.xe s := by
  have hq := h (s.heap.objs.size + 1) s.heap.objs.size (I.hok.fresh (Nat.le_add_right _ 1)) (I.hok.fresh (Nat.le_refl _)) (Nat.ne_of_lt (Nat.lt_add_one _))
  have I2 := Inv.made (C := C) I
  have r2 := hb.rel (vs := [V.ref (s.heap.objs.size + 1)]) (us := [Value.ref (s.heap.objs.size + 1)]) (.cons rfl .nil) rz
  have bd := hb.to _ [Value.ref (s.heap.objs.size + 1)] ws I2.kIn rfl (rz.length.symm.trans l2)
  refine wpAny_call (make_map (f := f) I.kIn M.makes M.init (beq_iff_eq.mp M.fn) (codeAny_mono (G.run _ X.stack _ _ ⟨[Value.ref (s.heap.objs.size + 1)], ks.zip ws⟩ _ _ _ E (hr.make C [] (ks.zip ws)) (I2.env0.make C [] (ks.zip ws)) bd r2 hq) fun r s' hq' => ?_))
  cases r with
  | error e => exact hx pins _ _ e s' I2 hq'
  | ok fl =>
    cases fl with
    | ret u =>
      obtain ⟨v, H', I3, rv, ev, q3⟩ := I2.after hq'
      subst ev
      exact ⟨rv, V.ref (s.heap.objs.size + 1), H', I3, rfl, q3⟩
    | next => exact hq'.elim
    | brk => exact hq'.elim
    | cont => exact hq'.elim
def eMakeK (C : Addr) (T : FT) (gD : List D → List D) (tk : TrA) : TrE := fun kx env os k => tk kx env os fun ws os1 => makeX T C (gD ws) os1 k kx
theorem cm_makeK {ks : List Str} {gD : List D → List D} (M : CalKI X.prog X.w X.K X.mg X.base lvl C x n T ks gD) (hr : Room (lvl + 1) X.A) (hg : Gl X x) (hk : CmK X kws tk ks.length) (hdb : (x == ("__debug__" : Str)) = false)
    (hall : (backToKw pos (keywordEach kws X.env)).all (·.1.isSome) = true) (hks : (backToKw pos (keywordEach kws X.env)).filterMap (·.1) = ks) (hpl : ((backTo pos (starEach [] X.env)).any (·.1) || (backToKw pos (keywordEach kws X.env)).any (·.1.isNone)) = false) :
    Cm X (.Call (.Name x p) [] kws pos) (eMakeK C T gD tk) := by
  obtain ⟨f, fd, ps, g, gV, gT, G, mk, hb, hm, h1, h2, h3⟩ := M.ex
  intro kx env os k h F V0 H σ Q W r sr ek c
  refine wE_mk fun pins s I => ?_
  refine wpAny_Call_Name_kw (ld_glob I hg hm ?_ hdb)
  refine PySem.W.callWith_KW0 (h₀ := X.base) I.ok.mod.kin mk.kp hall ?_ hpl
  refine thn (wK_pk.run pos pins s σ H (fun zs H1 => zs.length = ks.length ∧ ∀ x dx, H1 x = none → H1 dx = none → dx ≠ x → spX X.K n T (.ref x :: gT zs) (upd (upd H1 dx (.own x)) x (.ins C dx [])) (fun v H2 => v = .non ∧ Q (.ref x) H2) (WE W σ)) I ?_) fun ws s2 ⟨zs, H2, I2, rz, l2, q2⟩ => ⟨I2.kIn, ?_⟩
  · exact hk _ _ _ _ h F V0 H σ _ W r sr ek fun V1 os1 H1 vs ws s1 r1 rs ⟨hl, q⟩ => ⟨rs.length.trans hl, made_of r1 (h2 _ _ _ rs) (h3 _ (rs.length.trans hl)) q (ek.mono s1) fun V2 os2 H2 v w s2 r2 rv q2 => c V2 os2 H2 v w (s1.trans s2) r2 rv q2⟩
  · rw [hks]
    exact run_makeKS mk G hr hb (passAt ek.tk σ) I2 rz l2 fun x dx a b d => by rw [h1]; exact q2 x dx a b d
/-- a def by its name, called with n0 values and keywords -/
structure CalKX (P : Program) (w : World) (K : PySem.W.Frag) (mg : Str → Option Value) (base : Heap) (lvl : Nat) (x : Str) (n n0 : Nat) (T : FT) (ks : List Str) (gD : List D → List D → List D) : Prop where
  ex : ∃ (f : Addr) (fd : FuncData) (ps : List Str) (g : List Value → List Value → List Value) (gV : List V → List V → List V),
    FnOk P w K mg base (L2.CX P w) lvl f fd ps (spX K n T) ∧ mg x = some (.ref f) ∧ PySem.W.keepIn K (.ref f) = true ∧ KBn K fd ps n0 ks g gV ∧
      (∀ (V0 : Hp) (vs zs : List V) (us ws : List D), RpA K V0 vs us → RpA K V0 zs ws → RpA K V0 (gV vs zs) (gD us ws)) ∧ ∀ vs zs : List V, vs.length = n0 → zs.length = ks.length → (gV vs zs).length = n
theorem run_fnKS {CX : CXT} {sp : Sp} {E : XK} {f : Addr} {fd : FuncData} {ps ks : List Str} {pins : List (Addr × Obj)} {σ : L2.St} {H : Hp} {s : Shared} {Q : VK} {g : List Value → List Value → List Value} {gV : List V → List V → List V} {us ws : List Value} {vs zs : List V}
    (G : FnOk X.prog X.w X.K X.mg X.base CX lvl f fd ps sp) (hr : Room lvl X.A) (hb : KBn X.K fd ps n ks g gV) (hx : PassesAt CX X σ E) (I : Inv X pins σ H s) (rv : Vals vs us) (rz : Vals zs ws) (l1 : vs.length = n) (l2 : zs.length = ks.length) (h : sp (gV vs zs) H Q E) :
    wpAny (model X.prog X.w) X.A (call (.ref f) us (ks.zip ws)) (EP X pins σ Q) X.xe s := by
  have r2 := hb.rel rv rz
  have bd := hb.to s us ws I.kIn (rv.length.symm.trans l1) (rz.length.symm.trans l2)
  refine wpAny_call (codeAny_mono (G.run X.A X.stack s H ⟨us, ks.zip ws⟩ _ _ Q E hr I.env0 bd r2 h) fun r s' hq => ?_)
  cases r with
  | error e => exact hx pins H s e s' I hq
  | ok fl =>
    cases fl with
    | ret u => exact I.after hq
    | next => exact hq.elim
    | brk => exact hq.elim
    | cont => exact hq.elim
def eCallK (T : FT) (gD : List D → List D → List D) (tl tk : TrA) : TrE := fun kx env os k => tl kx env os fun us os1 => tk kx env os1 fun ws os2 => callX T (gD us ws) os2 k kx
theorem cm_callK {ks : List Str} {gD : List D → List D → List D} (CC : CalKX X.prog X.w X.K X.mg X.base lvl x n m T ks gD) (hr : Room lvl X.A) (hg : Gl X x) (ha : CmA X (e :: es) tl m) (hk : CmK X kws tk ks.length) (hdb : (x == ("__debug__" : Str)) = false)
    (hall : (backToKw pos (keywordEach kws X.env)).all (·.1.isSome) = true) (hks : (backToKw pos (keywordEach kws X.env)).filterMap (·.1) = ks) (he : starEach (e :: es) X.env = (false, eval e X.env) :: starEach es X.env)
    (hpl : ((backTo pos (starEach (e :: es) X.env)).any (·.1) || (backToKw pos (keywordEach kws X.env)).any (·.1.isNone)) = false) :
    Cm X (.Call (.Name x p) (e :: es) kws pos) (eCallK T gD tl tk) := by
  obtain ⟨f, fd, ps, g, gV, G, hm, hkp, hb, h2, h3⟩ := CC.ex
  intro kx env os k h F V0 H σ Q W r sr ek c
  refine wE_mk fun pins s I => ?_
  refine wpAny_Call_Name_kw (ld_glob I hg hm ?_ hdb)
  refine PySem.W.callWith_KW (h₀ := X.base) I.ok.mod.kin hkp hall (thn (wA_pa.run pos pins s σ H (fun vs H1 => wK X kws σ H1 fun zs H2 => vs.length = m ∧ zs.length = ks.length ∧ spX X.K n T (gV vs zs) H2 Q (WE W σ)) I ?_) fun us s1 ⟨vs, H1, I1, r1, q⟩ => ?_) hpl he
  · refine ha.2 _ _ _ _ h F V0 H σ _ W r sr ek fun V1 os1 H1 vs us s1 r1 rs ⟨hl, q⟩ => ?_
    refine hk _ _ _ _ q F V1 H1 σ _ W r1 (sr.mono s1) (ek.mono s1) fun V2 os2 H2 zs ws s2 r2 rz ⟨hl2, q⟩ => ?_
    have l1 := rs.length.trans hl
    have l2 := rz.length.trans hl2
    exact ⟨l1, l2, sp_of r2 (h2 _ _ _ _ _ (rs.mono s2) rz) (h3 _ _ l1 l2) q (ek.mono (s1.trans s2)) fun V3 os3 H3 v w s3 r3 rv q2 => c V3 os3 H3 v w ((s1.trans s2).trans s3) r3 rv q2⟩
  · refine thn (wK_pk.run pos pins s1 σ H1 _ I1 q) fun ws s2 ⟨zs, H2, I2, rz, l1, l2, q2⟩ => ⟨I2.kIn, ?_⟩
    rw [hks]
    exact run_fnKS G hr hb (passAt ek.tk σ) I2 r1 rz l1 l2 q2
end
/-! the parameters in their order: from the keywords' values (true), or a default (false) -/
def pick {α : Type} : List (Bool × Nat) → List α → List α → List α
  | [], _, _ => []
  | (true, i) :: r, ms, zs => zs[i]?.toList ++ pick r ms zs
  | (false, i) :: r, ms, zs => ms[i]?.toList ++ pick r ms zs
theorem paired_at {α β : Type} {R : α → β → Prop} : ∀ {xs : List α} {ys : List β} (i : Nat), Paired R xs ys → Paired R xs[i]?.toList ys[i]?.toList
  | _, _, _, .nil => by simp; exact .nil
  | _, _, 0, .cons h _ => .cons h .nil
  | _, _, i + 1, .cons _ r => by simp only [List.getElem?_cons_succ]; exact paired_at i r
theorem paired_app {α β : Type} {R : α → β → Prop} : ∀ {xs xs2 : List α} {ys ys2 : List β}, Paired R xs ys → Paired R xs2 ys2 → Paired R (xs ++ xs2) (ys ++ ys2)
  | _, _, _, _, .nil, h => h
  | _, _, _, _, .cons a r, h => .cons a (paired_app r h)
theorem paired_pick {α β : Type} {R : α → β → Prop} {ms zs : List α} {ns ws : List β} (h1 : Paired R ms ns) (h2 : Paired R zs ws) : ∀ idx : List (Bool × Nat), Paired R (pick idx ms zs) (pick idx ns ws)
  | [] => .nil
  | (true, i) :: r => paired_app (paired_at i h2) (paired_pick h1 h2 r)
  | (false, i) :: r => paired_app (paired_at i h1) (paired_pick h1 h2 r)
theorem rpA_at {K : PySem.W.Frag} {V0 : Hp} : ∀ {xs : List V} {ys : List D} (i : Nat), RpA K V0 xs ys → RpA K V0 xs[i]?.toList ys[i]?.toList
  | _, _, _, .nil => by simp; exact .nil
  | _, _, 0, .cons h _ => .cons h .nil
  | _, _, i + 1, .cons _ r => by simp only [List.getElem?_cons_succ]; exact rpA_at i r
theorem rpA_pick {K : PySem.W.Frag} {V0 : Hp} {ms zs : List V} {ns ws : List D} (h1 : RpA K V0 ms ns) (h2 : RpA K V0 zs ws) : ∀ idx : List (Bool × Nat), RpA K V0 (pick idx ms zs) (pick idx ns ws)
  | [] => .nil
  | (true, i) :: r => (rpA_at i h2).append (rpA_pick h1 h2 r)
  | (false, i) :: r => (rpA_at i h1).append (rpA_pick h1 h2 r)
def pickOk (a b : Nat) : List (Bool × Nat) → Bool
  | [] => true
  | (true, i) :: r => decide (i < a) && pickOk a b r
  | (false, i) :: r => decide (i < b) && pickOk a b r
theorem pick_len {α : Type} {ms zs : List α} : ∀ {idx : List (Bool × Nat)}, pickOk zs.length ms.length idx = true → (pick idx ms zs).length = idx.length
  | [], _ => rfl
  | (true, i) :: r, h => by
    rw [pickOk, Bool.and_eq_true, decide_eq_true_eq] at h
    rw [pick, List.getElem?_eq_getElem h.1, List.length_append, pick_len h.2]
    simp; omega
  | (false, i) :: r, h => by
    rw [pickOk, Bool.and_eq_true, decide_eq_true_eq] at h
    rw [pick, List.getElem?_eq_getElem h.1, List.length_append, pick_len h.2]
    simp; omega
theorem len_cons {α : Type} {l : List α} {n : Nat} (h : l.length = n + 1) : ∃ a r, l = a :: r ∧ r.length = n := by
  cases l with
  | nil => exact absurd h (by simp)
  | cons a r => exact ⟨a, r, rfl, by simpa using h⟩
section
variable {P : Program} {w : World} {K : PySem.W.Frag} {mg : Str → Option Value} {base : Heap} {lvl n n0 : Nat} {C f : Addr} {x : Str} {T : FT} {fd : FuncData} {ps ks : List Str} {idx : List (Bool × Nat)} {mV : List V} {mD : List D}
theorem calKI_of (G : FnOk P w K mg base (L2.CX P w) lvl f fd ps (spX K n T)) (M : Mk K C f) (hb : ∃ mv : List Value, KBn K fd ps 1 ks (fun us ws => us ++ pick idx mv ws) (fun vs zs => vs ++ pick idx mV zs)) (hm : mg x = some (.ref C))
    (hr : ∀ V0 : Hp, RpA K V0 mV mD) (hi : pickOk ks.length mV.length idx = true) (hn : idx.length + 1 = n) : CalKI P w K mg base lvl C x n T ks (fun ws => pick idx mD ws) := by
  obtain ⟨mv, hb⟩ := hb
  refine ⟨f, fd, ps, _, _, fun zs => pick idx mV zs, G, M, hb, hm, fun _ _ => rfl, fun V0 zs ws h => rpA_pick (hr V0) h idx, fun zs hz => ?_⟩
  rw [pick_len (by rw [hz]; exact hi), hn]
theorem calKX_of (G : FnOk P w K mg base (L2.CX P w) lvl f fd ps (spX K n T)) (hk : PySem.W.keepIn K (.ref f) = true) (hb : ∃ mv : List Value, KBn K fd ps n0 ks (fun us ws => us ++ pick idx mv ws) (fun vs zs => vs ++ pick idx mV zs)) (hm : mg x = some (.ref f))
    (hr : ∀ V0 : Hp, RpA K V0 mV mD) (hi : pickOk ks.length mV.length idx = true) (hn : n0 + idx.length = n) : CalKX P w K mg base lvl x n n0 T ks (fun us ws => us ++ pick idx mD ws) := by
  obtain ⟨mv, hb⟩ := hb
  refine ⟨f, fd, ps, _, _, G, hm, hk, hb, fun V0 vs zs us ws h1 h2 => h1.append (rpA_pick (hr V0) h2 idx), fun vs zs hv hz => ?_⟩
  rw [List.length_append, pick_len (by rw [hz]; exact hi), hv, hn]
end
end EV

set_option Elab.async false
set_option linter.all false
set_option maxRecDepth 100000
namespace EV
open PySem PySem.Spec PyProof.Rows L2
/-! keywords at any number: the binder's loops -/
theorem forIn_steps {α σ : Type} {f : α → σ → Sem (ForInStep σ)} (g : σ → α → σ) (P : List α → σ → Prop) (hs : ∀ a r s, P (a :: r) s → f a s = pure (.yield (g s a)) ∧ P r (g s a)) : ∀ (l : List α) (s : σ), P l s → forIn l s f = pure (l.foldl g s)
  | [], s, _ => rfl
  | a :: l, s, h => by
    obtain ⟨e, h2⟩ := hs a l s h
    rw [List.forIn_cons, e, pure_bind]
    exact forIn_steps g P hs l _ h2
theorem lk_none {k : Str} : ∀ {l : List (Str × Value)}, k ∉ l.map (·.1) → l.lookup k = none
  | [], _ => rfl
  | (a, b) :: l, h => by
    rw [List.map_cons, List.mem_cons, not_or] at h
    rw [List.lookup_cons, show (k == a) = false from by simpa using h.1]
    exact lk_none h.2
theorem lk_some {k : Str} : ∀ {l : List (Str × Value)}, k ∈ l.map (·.1) → (l.lookup k).isSome = true
  | [], h => by simp at h
  | (a, b) :: l, h => by
    rw [List.lookup_cons]
    by_cases e : k = a
    · rw [show (k == a) = true from by simpa using e]; rfl
    · rw [show (k == a) = false from by simpa using e]
      rw [List.map_cons, List.mem_cons] at h
      exact lk_some (h.resolve_left e)
theorem foldl_snoc {β : Type} : ∀ (l : List (Str × Value)) (s : List (Str × Value)) (e : β), l.foldl (fun (z : List (Str × Value) × β) x => (z.1 ++ [(x.1, x.2)], z.2)) (s, e) = (s ++ l, e)
  | [], s, e => by simp
  | x :: l, s, e => by
    rw [List.foldl_cons, foldl_snoc l]
    simp
def fillUp : List Str → List (Str × Value) → List (Str × Value) → List (Str × Value) → Prop
  | [], sl, [], sl2 => sl2 = sl
  | n :: r, sl, q, sl2 => if (sl.lookup n).isSome = true then fillUp r sl q sl2 else match q with
    | [] => False
    | (m, v) :: q => m = n ∧ fillUp r (sl ++ [(n, v)]) q sl2
  | [], _, _ :: _, _ => False
theorem chain_loop {α β : Type} {D : Addr} {R : α} {f : Str → List (Str × Value) × β → Sem (ForInStep (List (Str × Value) × β))} {k1 : Str → List (Str × Value) × β → Option Value → Sem (ForInStep (List (Str × Value) × β))} {cont : List (Str × Value) × β → Sem α} {sl2 : List (Str × Value)} {e : β}
    (hf : ∀ n s, f n s = if (s.1.lookup n).isNone = true then nsGet D n >>= k1 n s else pure (.yield s)) (hk : ∀ n s v, k1 n s (some v) = pure (.yield (s.1 ++ [(n, v)], s.2))) (hc : cont (sl2, e) = pure R) :
    ∀ (ko : List Str) (sl : List (Str × Value)) (q : List (Str × Value)), fillUp ko sl q sl2 → KwChain D q (forIn ko (sl, e) f >>= cont) R
  | [], sl, [], h => by
    have h : sl2 = sl := h
    subst h
    show (pure (sl2, e) >>= cont) = pure R
    rw [pure_bind]; exact hc
  | [], _, _ :: _, h => False.elim h
  | n :: r, sl, q, h => by
    rw [List.forIn_cons, hf]
    unfold fillUp at h
    cases hl : (sl.lookup n).isSome with
    | true =>
      rw [hl, if_pos rfl] at h
      rw [if_neg (by rw [Option.isNone_iff_eq_none]; intro z; rw [z] at hl; cases hl), pure_bind]
      exact chain_loop hf hk hc r sl q h
    | false =>
      rw [hl, if_neg Bool.false_ne_true] at h
      rw [if_pos (by rw [Option.isNone_iff_eq_none]; cases z : sl.lookup n with
        | none => rfl
        | some _ => rw [z] at hl; cases hl)]
      cases q with
      | nil => exact False.elim h
      | cons a q =>
        obtain ⟨m, v⟩ := a
        obtain ⟨rfl, h⟩ := h
        exact ⟨_, _, _, _, _, _, rfl, hk _ _ v, chain_loop hf hk hc r _ q h⟩
theorem bind_kw {fd : FuncData} {D : Addr} {ns ko : List Str} {kw q sl2 R : List (Str × Value)} {us : List Value} (h1 : fd.params.posonlyargs = []) (h2 : fd.params.args.map (·.arg) = ns) (h3 : fd.params.kwonlyargs.map (·.arg) = ko) (h4 : fd.params.vararg = none) (h5 : fd.params.kwarg = none) (h6 : fd.defaults = .none) (h7 : fd.kwdefaults = .ref D)
    (hu : us.length = ns.length) (hn : (ns ++ kw.map (·.1)).Nodup) (hm : ∀ p ∈ kw, ko.contains p.1 = true) (hq : fillUp ko (ns.zip us ++ kw) q sl2) (hR : (ns ++ ko).filterMap (fun n => (sl2.lookup n).map (n, ·)) = R) : KwChain D q (bindArgs fd ⟨us, kw⟩) R := by
  unfold bindArgs
  simp only [h1, h2, h3, h4, h5, h6, h7, List.map_nil, List.nil_append]
  rw [forIn_steps (fun z x => (z.1 ++ [(x.1, x.2)], z.2)) (fun l s => (∀ p ∈ l, ko.contains p.1 = true) ∧ (l.map (·.1)).Nodup ∧ ∀ p ∈ l, p.1 ∉ s.1.map (·.1))]
  · rw [foldl_snoc, pure_bind]
    show KwChain D q (do
      let z ← (pure none : Sem (Option (Array Value)))
      _) R
    rw [pure_bind]
    have e0 : ((none : Option (Array Value)).getD #[]).toList = [] := rfl
    simp only [e0, List.drop_nil, List.length_nil, Nat.sub_zero, List.take_length, List.drop_length, List.zip_nil_right, List.forIn_nil, pure_bind]
    rw [if_neg (by rw [hu]; simp)]
    have e1 : ns.filter (fun n => (List.lookup n (ns.zip us ++ kw)).isNone) = [] := by
      rw [List.filter_eq_nil_iff]
      intro n hn' z
      have hz : n ∈ (ns.zip us ++ kw).map (·.1) := by
        rw [List.map_append, List.map_fst_zip (by omega)]
        exact List.mem_append_left _ hn'
      have := lk_some hz
      rw [Option.isNone_iff_eq_none] at z
      rw [z] at this
      cases this
    rw [e1, if_neg (by simp)]
    refine chain_loop (sl2 := sl2) (e := []) (k1 := fun n s d => match d with
      | some v => pure (.yield (s.1 ++ [(n, v)], s.2))
      | none => pure (.yield (s.1, s.2 ++ [n]))) (fun n s => ?_) (fun n s v => rfl) ?_ ko _ q hq
    · rfl
    · dsimp only
      rw [if_neg (by simp), hR]
  · intro a r s ⟨c1, c2, c3⟩
    dsimp only
    rw [if_pos (by rw [c1 a (List.mem_cons_self ..)]; simp), if_neg (by rw [lk_none (c3 a (List.mem_cons_self ..))]; exact Bool.false_ne_true)]
    refine ⟨rfl, fun p hp => c1 p (List.mem_cons_of_mem _ hp), (List.nodup_cons.mp c2).2, fun p hp => ?_⟩
    rw [List.map_append, List.mem_append, not_or]
    refine ⟨c3 p (List.mem_cons_of_mem _ hp), ?_⟩
    intro z
    rw [List.map_cons, List.map_nil, List.mem_singleton] at z
    have z : p.1 = a.1 := z
    exact (List.nodup_cons.mp c2).1 (List.mem_map.mpr ⟨p, hp, z⟩)
  · obtain ⟨_, n2, n3⟩ := List.nodup_append.mp hn
    refine ⟨hm, n2, fun p hp z => ?_⟩
    rw [List.map_fst_zip (by omega)] at z
    exact n3 _ z _ (List.mem_map_of_mem hp) rfl
theorem fillUp_lack : ∀ (ko : List Str) (sl : List (Str × Value)) (mv : List Value), ko.Nodup → mv.length = (ko.filter fun n => !(sl.map (·.1)).contains n).length →
    fillUp ko sl ((ko.filter fun n => !(sl.map (·.1)).contains n).zip mv) (sl ++ (ko.filter fun n => !(sl.map (·.1)).contains n).zip mv)
  | [], sl, mv, _, _ => by simp [fillUp]
  | n :: r, sl, mv, hn, hm => by
    rw [List.nodup_cons] at hn
    unfold fillUp
    by_cases e : n ∈ sl.map (·.1)
    · rw [List.filter_cons_of_neg (by simpa using e)] at hm ⊢
      rw [if_pos (lk_some e)]
      exact fillUp_lack r sl mv hn.2 hm
    · rw [List.filter_cons_of_pos (by simpa using e)] at hm ⊢
      rw [lk_none e, if_neg (by exact Bool.false_ne_true)]
      cases mv with
      | nil => cases hm
      | cons v mv =>
        rw [List.zip_cons_cons]
        refine ⟨rfl, ?_⟩
        have ef : (r.filter fun n => !(sl.map (·.1)).contains n) = r.filter fun m => !((sl ++ [(n, v)]).map (·.1)).contains m := by
          refine List.filter_congr fun m hm' => ?_
          have hne : m ≠ n := fun z => hn.1 (z ▸ hm')
          simp [hne]
        have ih := fillUp_lack r (sl ++ [(n, v)]) mv hn.2 (by rw [← ef]; simpa using hm)
        rw [← ef, List.append_assoc, List.singleton_append] at ih
        exact ih
/-- the chain of a call with keywords, by closed facts about the names -/
theorem kw_chain {fd : FuncData} {D : Addr} {us ws mv : List Value} {R : List (Str × Value)} (ns ko ks lack : List Str) (h1 : fd.params.posonlyargs = []) (h2 : fd.params.args.map (·.arg) = ns) (h3 : fd.params.kwonlyargs.map (·.arg) = ko) (h4 : fd.params.vararg = none) (h5 : fd.params.kwarg = none) (h6 : fd.defaults = .none) (h7 : fd.kwdefaults = .ref D)
    (hu : us.length = ns.length) (hw : ws.length = ks.length) (hm : mv.length = lack.length) (hnd : (ns ++ ks).Nodup) (hc : ks.all ko.contains = true) (hl : (ko.filter fun n => !(ns ++ ks).contains n) = lack) (hko : ko.Nodup)
    (hR : (ns ++ ko).filterMap (fun n => (((ns.zip us ++ ks.zip ws) ++ lack.zip mv).lookup n).map (n, ·)) = R) : KwChain D (lack.zip mv) (bindArgs fd ⟨us, ks.zip ws⟩) R := by
  have ek : (ks.zip ws).map (·.1) = ks := List.map_fst_zip (by omega)
  have es : (ns.zip us ++ ks.zip ws).map (·.1) = ns ++ ks := by rw [List.map_append, ek, List.map_fst_zip (by omega)]
  refine bind_kw h1 h2 h3 h4 h5 h6 h7 hu (by rw [ek]; exact hnd) (fun p hp => ?_) ?_ hR
  · exact List.all_eq_true.mp hc p.1 (by rw [← ek]; exact List.mem_map_of_mem hp)
  · have h := fillUp_lack ko (ns.zip us ++ ks.zip ws) mv hko (by rw [es, hl]; exact hm)
    rw [es, hl] at h
    exact h
end EV

set_option Elab.async false
set_option linter.all false
set_option maxRecDepth 100000
/-! E17: enumerate over a tuple and a text, zip over tuples, for over a text, tuple(xs), index of texts. -/
namespace EV
open PySem PySem.Spec PyProof.Rows L2
/-! ### enumerate over anything that draws -/
/-- items told by yv, n of them, while C stands; each in a new pair -/
def Jen (n : Nat) (yv : Nat → V → Prop) (C : Hp → Prop) : It :=
  ⟨fun i H => i < n ∧ C H, fun i H v H' => ∃ T x, v = .ref T ∧ H T = none ∧ H' = upd H T (.tup [.int (i : Nat), x]) ∧ yv i x, fun i H => n ≤ i ∧ C H⟩
theorem turn_enumD {P : Program} {w : World} {K : PySem.W.Frag} {elts : List Expr} {kk : Nat} {tpos : Pos} {e it : Addr} {ty : String} {n : Nat} {yv : Nat → V → Prop} {C : Hp → Prop} {In : Nat → Heap → Prop} (hne : e ≠ it)
    (hobj : ∀ i h, In i h → ∃ o vs, h.get? it = some o ∧ o.cls = .type ty ∧ o.data = .fields vs)
    (hkp : ∀ i h h', In i h → (∀ o, h.get? it = some o → h'.get? it = some o) → In i h')
    (hd : ∀ (X : Cx), X.prog = P → X.w = w → X.K = K → X.calm = true → ∀ (pins : List (Addr × Obj)) (s : Shared) (σ : L2.St) (H : Hp) (i : Nat) (old : Value) (c : Int), Inv X pins σ H s → In i s.heap → IsEnum s.heap e it c old → C H →
      ∃ (fp : List Addr) (Pv : Nat → Value → Prop) (St : Nat → Heap → Prop), Draws P w X.A.in1 it fp n Pv St ∧ e ∉ fp ∧ St i s.heap ∧ (∀ j h, St j h → In j h) ∧ (i ≤ n) ∧ ∀ v, Pv i v → ∃ x, RelV x v ∧ yv i x) :
    Turn P w K (.Tuple elts kk tpos) (Jen n yv C) [e, it] e (fun i h => (∃ old, IsEnum h e it ((i : Nat) : Int) old) ∧ In i h) where
  mem := by simp
  obj := fun i h st b hb => by
    obtain ⟨⟨old, he⟩, hI⟩ := st
    obtain ⟨o, vs, ho, hc, hdd⟩ := hobj i h hI
    have e' : b = e ∨ b = it := by simpa using hb
    rcases e' with z | z
    · rw [z]; exact ⟨_, he, fun v q => nomatch q⟩
    · rw [z]; exact ⟨o, ho, fun v q => by rw [hdd] at q; cases q⟩
  keep := fun i h h' st k => let ⟨⟨old, he⟩, hi⟩ := st; ⟨⟨old, k e (by simp) _ he⟩, hkp i h h' hi fun o q => k it (by simp) o q⟩
  item := by
    intro X hP hw hK hc i pins s σ H E I hf st hg
    obtain ⟨hlt, hC⟩ := hg
    obtain ⟨⟨old, he⟩, hit⟩ := st
    obtain ⟨fp, Pv, St, D, hef, hst, hin, _, hyv⟩ := hd X hP hw hK hc pins s σ H i old _ I hit he hC
    subst hP hw hK
    obtain ⟨oi, vi, hoi, _, _⟩ := hobj i _ hit
    have hel : e < s.heap.objs.size := Heap.lt_size he
    have hil : it < s.heap.objs.size := Heap.lt_size hoi
    refine wpAny_pyNext_enum_itemD D he hst hlt hne hef fun x' h' tk hpx ho hst' hT hsz hk => ?_
    obtain ⟨x, rx, hy⟩ := hyv x' hpx
    refine ⟨_, rfl, wpAny_letOwnedTupleGo_enum (s := { s with heap := h', toks := tk + 1 }) ho fun h'' he' sb => ?_⟩
    have hT2 : h''.get? s.heap.objs.size = some { cls := .type "tuple", data := .seq #[.int i tk, x'] } := (sb.2 _ (Nat.ne_of_gt hel)).trans hT
    have nw : ObjOk X.prog X.w (upd H s.heap.objs.size (.tup [.int (i : Nat), x])) h'' s.heap.objs.size (.tup [.int (i : Nat), x]) :=
      ⟨by show 2 ≤ sizeLine; decide, [.int i tk, x'], .cons ⟨_, rfl⟩ (.cons rx .nil), ⟨_, hT2, rfl, _, rfl⟩⟩
    have I1 : Inv X pins σ (upd H s.heap.objs.size (.tup [.int (i : Nat), x])) { s with heap := h'', toks := tk + 1 } :=
      I.turnedNew (ch := [e, it]) (fun b ob hb q => (sb.2 b (fun z => hb (by simp [z]))).trans (hk b ob (fun z => hb (by simp [z])) (fun z => hb (by simp [z])) q)) hf (Nat.le_refl _) nw
    refine ⟨.ref s.heap.objs.size, _, I1, rfl, ⟨_, x, rfl, I.hok.fresh (Nat.le_refl _), rfl, hy⟩, ⟨⟨x', ?_⟩, hkp _ _ _ (hin _ _ hst') fun o q => (sb.2 it (Ne.symm hne)).trans q⟩, fun b hb => ?_⟩
    · have e1 : ((i + 1 : Nat) : Int) = (i : Int) + 1 := by omega
      rw [e1]; exact he'
    · have hb' : b < s.heap.objs.size := by
        have e' : b = e ∨ b = it := by simpa using hb
        rcases e' with z | z
        · rw [z]; exact hel
        · rw [z]; exact hil
      rw [upd_ne (Nat.ne_of_lt hb')]
      exact (hf b hb).1
  done := by
    intro X hP hw hK hc i pins s σ H E I hf st hg
    obtain ⟨hle, hC⟩ := hg
    obtain ⟨⟨old, he⟩, hit⟩ := st
    obtain ⟨fp, Pv, St, D, hef, hst, hin, hle2, hyv⟩ := hd X hP hw hK hc pins s σ H i old _ I hit he hC
    subst hP hw hK
    obtain ⟨f0, f1, f2, f3, f4, f5⟩ := hf it (by simp)
    have ei : i = n := Nat.le_antisymm hle2 hle
    rw [ei] at hst
    exact wpAny_pyNext_enum_endD D he hst fun h' eb => ⟨rfl, I.turned (t' := s.toks) (fun b o hb q => eb b o hb q) f0 f1 f3 f4 f5⟩
  self := fun A i s Q E st h => let ⟨⟨_, he⟩, _⟩ := st; wpAny_pyIter_enum he h
/-- the characters of a text -/
def chs (x : Str) : List D := x.cps.toList.map fun c => D.str ⟨#[c]⟩
set_option maxHeartbeats 1000000 in
theorem new_enumB {v : Value} {ob : Obj} {HB : Heap → Prop} (B : Begins v ob HB) :
    Meets (Builtin.«enumerate.__new__» ⟨[.type "enumerate", v], []⟩) (fun _ R sh => HB sh.heap ∧
      R (.ok (.ret (.ref (sh.heap.push ob).objs.size))) { sh with heap := (sh.heap.push ob).push { cls := .type "enumerate", data := .fields #[.none, .bool false, .ref sh.heap.objs.size, rawInt 0, .none, .none] } }) :=
  .of_wp fun prog w A R sh hh => by
    obtain ⟨hp, g, dr, tk, os⟩ := sh
    obtain ⟨hB, hR⟩ := hh
    have hsub := sub_enumerate
    have it1 : ∀ {A' : Around} {E' : Value → Shared → Prop} {Q' : Value → Shared → Prop}, Q' (.ref hp.objs.size) ⟨hp.push ob, g, dr, tk, os⟩ → wpAny (model prog w) A' (pyIter v) Q' E' ⟨hp, g, dr, tk, os⟩ :=
      fun q => B.iter prog w _ _ ⟨hp, g, dr, tk, os⟩ _ hB q
    wp_walk using it1
    refine wpAny_stack_any fun st => wpAny_pure ?_
    split
    · rename_i c _ _ _ _ _
      cases (c == Value.type "enumerate")
      all_goals (wp_walk using it1; exact ⟨_, rfl, hR⟩)
    · wp_walk using it1
      exact ⟨_, rfl, hR⟩
theorem call_enumB {prog : Program} {w : World} {A : Around} {E : Value → Shared → Prop} {sh : Shared} {v : Value} {ob : Obj} {HB : Heap → Prop} {Q : Value → Shared → Prop} (B : Begins v ob HB) (hB : HB sh.heap)
    (hq : ∀ h', IsEnum h' (sh.heap.objs.size + 1) sh.heap.objs.size 0 .none → h'.get? sh.heap.objs.size = some ob → h'.objs.size = sh.heap.objs.size + 2 →
      (∀ b o, sh.heap.get? b = some o → h'.get? b = some o) → Q (.ref (sh.heap.objs.size + 1)) { sh with heap := h' }) :
    wpAny (model prog w) A (call (.type "enumerate") [v]) Q E sh := by
  refine callType_new F.called_enumerate (by decide) (F.typeCall_enumerate_1 _) (F.newCall_enumerate_1 _) (fun obj => F.args_object_init_2 obj _) F.entry_enumerate_new (new_enumB B) ⟨hB, ?_⟩
  have hz : (sh.heap.push ob).objs.size = sh.heap.objs.size + 1 := Heap.size_push ..
  show _ ∧ _
  rw [hz]
  have he := Heap.get?_push_size (sh.heap.push ob) (o := { cls := .type "enumerate", data := .fields #[.none, .bool false, .ref sh.heap.objs.size, rawInt 0, .none, .none] }) rfl
  rw [hz] at he
  exact ⟨⟨_, he, rfl⟩, hq _ he (Heap.get?_push_of_some _ (Heap.get?_push_size _ B.free)) (by rw [Heap.size_push, hz]) fun b o y => Heap.get?_push_of_some _ (Heap.get?_push_of_some _ y)⟩
def JenT (K : PySem.W.Frag) (a : Addr) (xs : List V) : It := Jen xs.length (fun i v => xs[i]? = some v) (fun H => SqT K H a xs)
def JenS (x : Str) : It := Jen x.cps.size (fun i v => ∃ c, x.cps[i]? = some c ∧ v = .str ⟨#[c]⟩) (fun _ => True)
theorem turn_enumT {P : Program} {w : World} {K : PySem.W.Frag} {elts : List Expr} {kk : Nat} {tpos : Pos} {a : Addr} {xs : List V} (e it : Addr) (hne : e ≠ it) :
    Turn P w K (.Tuple elts kk tpos) (JenT K a xs) [e, it] e (fun i h => (∃ old, IsEnum h e it ((i : Nat) : Int) old) ∧ h.IsTupleIter it a i ∧ i ≤ xs.length) := by
  refine turn_enumD (ty := "tuple_iterator") hne (fun i h hi => ?_) (fun i h h' hi hk => ⟨hi.1.at fun o q => hk o q, hi.2⟩) fun X hP hw hK hc pins s σ H i old c I hi he hC => ?_
  · obtain ⟨⟨o, ho, hc, hd⟩, _⟩ := hi
    exact ⟨o, _, ho, hc, hd⟩
  · subst hP hw hK
    obtain ⟨its, rv, p, hz⟩ := I.tuple hC
    have hl := rv.length
    have hh : X.A.in1.handled = none := I.ok.hd hc
    have ht : a ≠ it := fun z => by
      obtain ⟨⟨o1, h1, c1, _⟩, _⟩ := hi
      obtain ⟨o2, h2, c2, _⟩ := p
      rw [z, h1] at h2; cases h2
      rw [c1] at c2; exact absurd c2 (by decide)
    have hte : e ≠ a := fun z => by
      obtain ⟨o2, h2, c2, _⟩ := p
      rw [← z] at h2
      rw [show s.heap.get? e = _ from he] at h2; cases h2
      exact absurd (show Value.type "enumerate" = Value.type "tuple" from c2) (by decide)
    have D := Draws.tuple (prog := X.prog) (w := X.w) hh it a ht its.toArray
    rw [show its.toArray.size = xs.length by simp only [List.size_toArray]; omega] at D
    refine ⟨_, _, fun j h => (h.IsTupleIter it a j ∧ h.IsTuple a its.toArray) ∧ j ≤ xs.length, ⟨fun j h st => D.live j h st.1, fun j h h' st q => ⟨D.frame j h h' st.1 q, st.2⟩, fun j s Q E hj st hQ => D.item j s Q E hj st.1 fun x h' tk p1 p2 p3 => hQ x h' tk p1 ⟨p2, hj⟩ p3, fun s Q E st hE => D.done s Q E st.1 hE⟩, by simp [hne, hte], ⟨⟨hi.1, p⟩, hi.2⟩, fun j h st => ⟨st.1.1, st.2⟩, hi.2, fun v hv => ?_⟩
    have hv : its[i]? = some v := by simpa using hv
    have hlt : i < xs.length := by have := (List.getElem?_eq_some_iff.mp hv).1; omega
    obtain ⟨u, hu, ru⟩ := rv.get (List.getElem?_eq_getElem hlt)
    rw [hv] at hu; cases hu
    exact ⟨_, ru, List.getElem?_eq_getElem hlt⟩
theorem turn_enumS {P : Program} {w : World} {K : PySem.W.Frag} {elts : List Expr} {kk : Nat} {tpos : Pos} {x : Str} {t : Tok} (e it : Addr) (hne : e ≠ it) :
    Turn P w K (.Tuple elts kk tpos) (JenS x) [e, it] e (fun i h => (∃ old, IsEnum h e it ((i : Nat) : Int) old) ∧ h.IsStrIter it (strIterType x) x t i ∧ i ≤ x.cps.size) := by
  refine turn_enumD (ty := strIterType x) hne (fun i h hi => ?_) (fun i h h' hi hk => ⟨let ⟨o, ho, r⟩ := hi.1; ⟨o, hk o ho, r⟩, hi.2⟩) fun X hP hw hK hc pins s σ H i old c I hi he hC => ?_
  · obtain ⟨⟨o, ho, hc, hd⟩, _⟩ := hi
    exact ⟨o, _, ho, hc, hd⟩
  · subst hP hw hK
    have hh : X.A.in1.handled = none := I.ok.hd hc
    have D := Draws.text (prog := X.prog) (w := X.w) hh it x t
    refine ⟨_, _, fun j h => h.IsStrIter it (strIterType x) x t j ∧ j ≤ x.cps.size, ⟨fun j h st => D.live j h st.1, fun j h h' st q => ⟨D.frame j h h' st.1 q, st.2⟩, fun j s Q E hj st hQ => D.item j s Q E hj st.1 fun v h' tk p1 p2 p3 => hQ v h' tk p1 ⟨p2, hj⟩ p3, fun s Q E st hE => D.done s Q E st.1 hE⟩, by simp [hne], hi, fun j h st => st, hi.2, fun v hv => ?_⟩
    obtain ⟨c, u, hcx, rfl⟩ := hv
    exact ⟨.str ⟨#[c]⟩, ⟨u, rfl⟩, c, hcx, rfl⟩
def iEnAny (K : PySem.W.Frag) (ta : TA) : TI := fun σ H R => ta σ H fun vs H1 => ∃ v, vs = [v] ∧ ((∃ a xs, v = .ref a ∧ SqL K H1 a xs ∧ R (Ite K a) H1) ∨ (∃ a xs, v = .ref a ∧ SqT K H1 a xs ∧ R (JenT K a xs) H1) ∨ ∃ x, v = .str x ∧ R (JenS x) H1)
theorem pi_enumAny {X : Cx} {e : Expr} {ta : TA} {p pos tpos : Pos} {elts : List Expr} {kk : Nat} (hg : Gl X "enumerate") (hm : X.mg "enumerate" = none) (ha : PA X [e] ta) (hs : starEach [e] X.env = [(false, eval e X.env)]) :
    PI X (.Tuple elts kk tpos) (.Call (.Name "enumerate" p) [e] [] pos) (iEnAny X.K ta) := by
  refine ⟨fun pins s σ H R I h => ?_⟩
  refine Call_ (ld_blt I hg hm boot_enumerate (PyProof.Rows.callWith_type1 (thn (ha.run pos pins s σ H _ I h) fun us s1 ⟨vs, H1, I1, r1, q1⟩ => ?_) hs rfl))
  have fpo : ∀ b ∈ [s1.heap.objs.size + 1, s1.heap.objs.size], FpOk X pins H1 b := fun b hb => by
    have e' : b = s1.heap.objs.size + 1 ∨ b = s1.heap.objs.size := by simpa using hb
    have hle : s1.heap.objs.size ≤ b := by
      rcases e' with z | z
      · rw [z]; exact Nat.le_add_right _ _
      · rw [z]; exact Nat.le_refl _
    exact I1.fpOk hle (I1.hok.fresh hle)
  obtain ⟨v, ex, q1⟩ := q1
  subst ex
  cases r1 with
  | cons r rr =>
    cases rr
    rcases q1 with ⟨a, xs, rfl, hq, q⟩ | ⟨a, xs, rfl, hq, q⟩ | ⟨x, rfl, q⟩
    · cases r
      obtain ⟨its, rv, p', hz⟩ := I1.list hq
      refine call_enumerate_list p'.isList fun h' he hit hsz hk => wpAny_pyIter_enum he ?_
      exact ⟨_, _, _, _, H1, rfl, I1.kept (t' := s1.toks) hk, turn_enum a (s1.heap.objs.size + 1) s1.heap.objs.size, ⟨⟨.none, he⟩, hit, Nat.succ_ne_self _⟩, fpo, q⟩
    · cases r
      obtain ⟨its, rv, p', hz⟩ := I1.tuple hq
      refine call_enumB (begins_tuple a its.toArray) p' fun h' he hit hsz hk => wpAny_pyIter_enum he ?_
      exact ⟨_, _, _, _, H1, rfl, I1.kept (t' := s1.toks) hk, turn_enumT (s1.heap.objs.size + 1) s1.heap.objs.size (Nat.succ_ne_self _), ⟨⟨.none, he⟩, ⟨_, hit, rfl, rfl⟩, Nat.zero_le _⟩, fpo, q⟩
    · obtain ⟨t, rfl⟩ := r
      refine call_enumB (begins_text x t) trivial fun h' he hit hsz hk => wpAny_pyIter_enum he ?_
      exact ⟨_, _, _, _, H1, rfl, I1.kept (t' := s1.toks) hk, turn_enumS (x := x) (t := t) (s1.heap.objs.size + 1) s1.heap.objs.size (Nat.succ_ne_self _), ⟨⟨.none, he⟩, ⟨_, hit, rfl, rfl⟩, Nat.zero_le _⟩, fpo, q⟩

theorem gi_enumT {K : PySem.W.Frag} {V1 : Hp} {a : Addr} {xs : List V} {ds : List D} (h : SqT K V1 a xs) (r : RpA K V1 xs ds) : GI K V1 (JenT K a xs) (enumW 0 ds) none := by
  have hl := r.length
  have hs : ∀ {F V2 : Hp} {os : Os} {H : Hp}, Same V1 V2 → Rel K F V2 os H → SqT K H a xs := fun s2 r2 => same_sqT (s2.trans r2.vi) h
  refine ⟨fun i F V2 os H s2 r2 _ hi => ⟨by rw [enumW_len] at hi; omega, hs s2 r2⟩, fun i F V2 os H s2 r2 _ hi => ⟨by rw [enumW_len] at hi; omega, hs s2 r2⟩, fun i F V2 os H x H' w s2 r2 _ y e => ?_⟩
  obtain ⟨T, v, rfl, hT, rfl, ex⟩ := y
  obtain ⟨d, ed, rd⟩ := r.getV ex
  obtain ⟨d', ed', rfl⟩ := enumW_get e
  rw [ed] at ed'; cases ed'
  obtain ⟨s3, r3, rp⟩ := rel_newT (vs := [.int (i : Nat), v]) (ds := [.int (i : Nat), d]) r2 hT (.cons (.int _) (.cons (Rp.mono s2 rd) .nil))
  rw [Int.zero_add]
  exact ⟨_, s3, r3, rp⟩
theorem chs_len (x : Str) : (chs x).length = x.cps.size := by simp [chs]
theorem chs_get {x : Str} {i : Nat} {w : D} (h : (chs x)[i]? = some w) : ∃ c, x.cps[i]? = some c ∧ w = .str ⟨#[c]⟩ := by
  unfold chs at h
  rw [List.getElem?_map] at h
  obtain ⟨c, hc, rfl⟩ := Option.map_eq_some_iff.mp h
  exact ⟨c, by simpa using hc, rfl⟩
theorem gi_enumS {K : PySem.W.Frag} {V1 : Hp} {x : Str} : GI K V1 (JenS x) (enumW 0 (chs x)) none := by
  refine ⟨fun i F V2 os H s2 r2 _ hi => ⟨by rw [enumW_len, chs_len] at hi; exact hi, trivial⟩, fun i F V2 os H s2 r2 _ hi => ⟨by rw [enumW_len, chs_len] at hi; exact hi, trivial⟩, fun i F V2 os H v H' w s2 r2 _ y e => ?_⟩
  obtain ⟨T, v, rfl, hT, rfl, c, hc, rfl⟩ := y
  obtain ⟨d', ed', rfl⟩ := enumW_get e
  obtain ⟨c', hc', rfl⟩ := chs_get ed'
  rw [hc] at hc'; cases hc'
  obtain ⟨s3, r3, rp⟩ := rel_newT (vs := [.int (i : Nat), .str ⟨#[c]⟩]) (ds := [.int (i : Nat), .str ⟨#[c]⟩]) r2 hT (.cons (.int _) (.cons (.str _) .nil))
  rw [Int.zero_add]
  exact ⟨_, s3, r3, rp⟩
theorem gi_str {K : PySem.W.Frag} {V1 : Hp} {x : Str} : GI K V1 (Its x) (chs x) none := by
  refine ⟨fun i F V2 os H s2 r2 _ hi => by rw [chs_len] at hi; exact hi, fun i F V2 os H s2 r2 _ hi => by rw [chs_len] at hi; exact hi, fun i F V2 os H v H' w s2 r2 _ y e => ?_⟩
  obtain ⟨rfl, c, hc, rfl⟩ := y
  obtain ⟨c', hc', rfl⟩ := chs_get e
  rw [hc] at hc'; cases hc'
  exact ⟨V2, Same.refl _, r2, .str _⟩
/-- enumerate(..): a list, owned or data, a tuple, a text -/
def iEnA (te : TrE) : TrI := fun kx env os ki => te kx env os fun w os1 => match w with
  | .lst ds => ki (enumW 0 ds) none os1
  | .tup ds => ki (enumW 0 ds) none os1
  | .str x => ki (enumW 0 (chs x)) none os1
  | .ref p => ∃ (n : Nat) (ws : List D), os1[n]? = some (p, OO.lst ws) ∧ ki (enumW 0 ws) (some (p, ws)) os1
  | _ => False
theorem ci_enA {X : Cx} {e : Expr} {te : TrE} {p pos : Pos} {elts : List Expr} {kk : Nat} {tpos : Pos} (hg : Gl X "enumerate") (hm : X.mg "enumerate" = none) (h : Cm X e te) (hs : starEach [e] X.env = [(false, eval e X.env)]) :
    CmI X (.Tuple elts kk tpos) (.Call (.Name "enumerate" p) [e] [] pos) (iEnA te) := by
  intro kx env os ki q F V0 H σ R W r sr ek c
  refine wPI_of (pi_enumAny hg hm (pa_cons wE_pe pa_nil hs) hs) ?_
  refine h _ _ _ _ q F V0 H σ _ W r sr ek fun V1 os1 H1 v w s1 r1 rv q => ?_
  split at q
  · obtain ⟨p, xs, rfl, h1, h2⟩ := rp_lst rv
    exact ⟨_, rfl, .inl ⟨p, xs, rfl, r1.vi.seq h1, c V1 os1 H1 _ _ _ s1 r1 (gi_enum h1 h2) q⟩⟩
  · obtain ⟨p, xs, rfl, h1, h2⟩ := rp_tup rv
    exact ⟨_, rfl, .inr (.inl ⟨p, xs, rfl, same_sqT r1.vi h1, c V1 os1 H1 _ _ _ s1 r1 (gi_enumT h1 h2) q⟩)⟩
  · cases rv
    exact ⟨_, rfl, .inr (.inr ⟨_, rfl, c V1 os1 H1 _ _ _ s1 r1 gi_enumS q⟩)⟩
  · obtain ⟨n, ws, ho, q⟩ := q
    obtain rfl := rv.toRef
    obtain ⟨_, _, ho', h3, vs, rfl, h4⟩ := r1.own _ (List.mem_of_getElem? ho)
    exact ⟨_, rfl, .inl ⟨_, vs, rfl, SqL.of h3, c V1 os1 H1 _ _ _ s1 r1 gi_enum_own q⟩⟩
  · exact q.elim
/-- for c in a text -/
def iStrD (te : TrE) : TrI := fun kx env os ki => te kx env os fun w os1 => match w with
  | .str x => ki (chs x) none os1
  | _ => False
theorem ci_strD {X : Cx} {e tge : Expr} {te : TrE} (h : Cm X e te) : CmI X tge e (iStrD te) := by
  intro kx env os ki q F V0 H σ R W r sr ek c
  refine wPI_of (pi_str wE_pe) ?_
  refine h _ _ _ _ q F V0 H σ _ W r sr ek fun V1 os1 H1 v w s1 r1 rv q => ?_
  split at q
  · cases rv
    exact ⟨_, rfl, c V1 os1 H1 _ _ _ s1 r1 gi_str q⟩
  · exact q.elim
theorem gi_zipT {K : PySem.W.Frag} {V1 : Hp} {a b : Addr} {xs ys : List V} {ds es : List D} (h : SqT K V1 a xs) (r : RpA K V1 xs ds) (h' : SqT K V1 b ys) (r' : RpA K V1 ys es) : GI K V1 (RZ.ItzT K a b) (zipW ds es) none := by
  have hl := r.length
  have hl' := r'.length
  have hs : ∀ {F V2 : Hp} {os : Os} {H : Hp}, Same V1 V2 → Rel K F V2 os H → SqT K H a xs ∧ SqT K H b ys := fun s2 r2 => ⟨same_sqT (s2.trans r2.vi) h, same_sqT (s2.trans r2.vi) h'⟩
  refine ⟨fun i F V2 os H s2 r2 _ hi => ?_, fun i F V2 os H s2 r2 _ hi => ?_, fun i F V2 os H x H' w s2 r2 _ y e => ?_⟩
  · rw [zipW_len] at hi
    exact ⟨xs, ys, xs[i]'(by omega), ys[i]'(by omega), (hs s2 r2).1, (hs s2 r2).2, by simp, by simp⟩
  · rw [zipW_len] at hi
    exact ⟨xs, ys, (hs s2 r2).1, (hs s2 r2).2, by omega⟩
  · obtain ⟨T, u, v, rfl, hT, rfl, y1, y2⟩ := y
    obtain ⟨d, ed, rd⟩ := r.getV (y1 xs (hs s2 r2).1)
    obtain ⟨d2, ed2, rd2⟩ := r'.getV (y2 ys (hs s2 r2).2)
    obtain ⟨d', e', ed', ee', rfl⟩ := zipW_get e
    rw [ed] at ed'; cases ed'
    rw [ed2] at ee'; cases ee'
    obtain ⟨s3, r3, rp⟩ := rel_newT (vs := [u, v]) (ds := [d, d2]) r2 hT (.cons (Rp.mono s2 rd) (.cons (Rp.mono s2 rd2) .nil))
    exact ⟨_, s3, r3, rp⟩
/-- zip of two lists, of two tuples -/
def iZipA (ta tb : TrE) : TrI := fun kx env os ki => ta kx env os fun w os1 => tb kx env os1 fun u os2 => match w with
  | .lst ds => (match u with
    | .lst es => ki (zipW ds es) none os2
    | _ => False)
  | .tup ds => (match u with
    | .tup es => ki (zipW ds es) none os2
    | _ => False)
  | _ => False
theorem ci_zipA {X : Cx} {a b : Expr} {ta tb : TrE} {p pos : Pos} {elts : List Expr} {kk : Nat} {tpos : Pos} (hg : Gl X "zip") (hm : X.mg "zip" = none) (h : Cm X a ta) (h2 : Cm X b tb)
    (hs : starEach [a, b] X.env = (false, eval a X.env) :: starEach [b] X.env) (hs2 : starEach [b] X.env = [(false, eval b X.env)]) (hpl : (backTo pos (starEach [b] X.env)).any (·.1) = false) :
    CmI X (.Tuple elts kk tpos) (.Call (.Name "zip" p) [a, b] [] pos) (iZipA ta tb) := by
  intro kx env os ki q F V0 H σ R W r sr ek c
  refine wPI_of (RZ.pi_zipA hg hm (pa_cons wE_pe (pa_cons wE_pe pa_nil hs2) hs) hs hpl) ?_
  refine h _ _ _ _ q F V0 H σ _ W r sr ek fun V1 os1 H1 v w s1 r1 rv q => ?_
  refine h2 _ _ _ _ q F V1 H1 σ _ W r1 (sr.mono s1) (ek.mono s1) fun V2 os2 H2 u y s2 r2 ru q => ?_
  split at q
  · split at q
    · obtain ⟨p, xs, rfl, h1, h2⟩ := rp_lst rv
      obtain ⟨p', ys, rfl, h3, h4⟩ := rp_lst ru
      exact ⟨p, p', xs, ys, rfl, .inl ⟨(s2.trans r2.vi).seq h1, r2.vi.seq h3, c V2 os2 H2 _ _ _ (s1.trans s2) r2 (gi_zip (s2.seq h1) (RpA.mono s2 h2) h3 h4) q⟩⟩
    · exact q.elim
  · split at q
    · obtain ⟨p, xs, rfl, h1, h2⟩ := rp_tup rv
      obtain ⟨p', ys, rfl, h3, h4⟩ := rp_tup ru
      exact ⟨p, p', xs, ys, rfl, .inr ⟨same_sqT (s2.trans r2.vi) h1, same_sqT r2.vi h3, c V2 os2 H2 _ _ _ (s1.trans s2) r2 (gi_zipT (same_sqT s2 h1) (RpA.mono s2 h2) h3 h4) q⟩⟩
    · exact q.elim
  · exact q.elim
/-- tuple(xs) -/
def cTup : TrC := fun ws os k => match ws with
  | [w] => (match w with
    | .tup ds => k (.tup ds) os
    | w => lstK w os fun ds => k (.tup ds) os)
  | _ => False
theorem cmc_tup {X : Cx} : CmC X (.type "tuple") cTup := by
  intro ws os k h
  unfold cTup at h
  split at h
  · split at h
    · exact JC.mk call_tuple_of fun F V0 H vs Q r rs c => by
        obtain ⟨v, rfl, rv⟩ := rs.one
        obtain ⟨a, xs, rfl, h1, h2⟩ := rp_tup rv
        exact ⟨a, xs, rfl, .inr ⟨same_sqT r.vi h1, c V0 os H _ _ (Same.refl _) r rv h⟩⟩
    · obtain ⟨ds, hd, q⟩ := lstK_of h
      exact JC.mk call_tuple_of fun F V0 H vs Q r rs c => by
        obtain ⟨v, rfl, rv⟩ := rs.one
        obtain ⟨a, xs, rfl, h1, h2⟩ := lstOf_of r rv hd
        refine ⟨a, xs, rfl, .inl ⟨h1, fun l hl => ?_⟩⟩
        obtain ⟨s2, r2, rp⟩ := rel_newT r hl h2
        exact c _ os _ _ (.tup ds) s2 r2 rp q
  · exact h.elim
/-! ### index of texts -/
theorem sidx_ne : ∀ (ns : List Str) (i : Str) (m : Nat), m < ns.idxOf i → ns[m]? ≠ some i
  | [], i, m, h => by simp at h
  | a :: r, i, 0, h => by
    rw [List.idxOf_cons] at h
    intro e
    have e : a = i := by simpa using e
    rw [e] at h
    simp at h
  | a :: r, i, m + 1, h => by
    rw [List.idxOf_cons] at h
    rw [List.getElem?_cons_succ]
    by_cases e : a = i
    · rw [e] at h; simp at h
    · rw [show (a == i) = false from beq_eq_false_iff_ne.mpr e] at h
      exact sidx_ne r i m (by simpa using h)
theorem rpA_str {K : PySem.W.Frag} {V0 : Hp} : ∀ {ys : List Str} {vs : List V}, RpA K V0 vs (ys.map D.str) → vs = ys.map V.str
  | [], _, h => by cases h; rfl
  | y :: ys, _, h => by
    cases h with
    | cons a b => cases a; rw [rpA_str b]; rfl
section
variable {X : Cx} {pos pos' apos cpos tpos : Pos} {o e : Expr} {to te : TrE}
/-- a tuple of texts that is a constant of the module -/
structure GlbT (K : PySem.W.Frag) (mg : Str → Option Value) (x : Str) (ys : List Str) : Prop where
  ex : ∃ (a : Addr) (ob : Obj), mg x = some (.ref a) ∧ K.lookup a = some ob ∧ ob.cls = .type "tuple" ∧ ob.dict = none ∧ ∀ V0 : Hp, Rp K V0 (.ref a) (.tup (ys.map D.str))
/-- T.index(e), T a constant -/
def eTIdx (ys : List Str) (te : TrE) : TrE := fun kx env os k => te kx env os fun y os2 => match y with
  | .str z => z ∈ ys ∧ k (.int (ys.idxOf z : Nat)) os2
  | _ => False
/-- xs.index(e): texts -/
def eLIdxS (to te : TrE) : TrE := fun kx env os k => to kx env os fun w os1 => eLCnt.lstH w os1 (te kx env os1 fun y os2 => match y with
  | .str z => ∃ ys : List Str, LstOf os2 w (ys.map D.str) ∧ z ∈ ys ∧ k (.int (ys.idxOf z : Nat)) os2
  | _ => False)
theorem cm_lidxS (h : Cm X o to) (h2 : Cm X e te) (hbase : attributeBase o "index" X.env (eval o X.env) = eval o X.env)
    (hfew : ((backTo cpos (starEach [e] X.env)).all (fun x => !x.1) && (backToKw cpos (keywordEach [] X.env)).all (fun x => x.1.isSome)
      && decide ([e].length + ([] : List Keyword).length + (if ([] : List Keyword).isEmpty then 0 else 1) < 30)) = true)
    (hline : (apos.endLine == cpos.line) = true) (hs : starEach [e] X.env = (false, eval e X.env) :: starEach [] X.env) :
    Cm X (.Call (.Attribute o "index" apos) [e] [] cpos) (eLIdxS to te) := by
  intro kx env os k q F V0 H σ Q W r sr ek c
  refine wE_of (pe_bm PySem.F.plainAttrs_list PySem.F.slot_list_index PySem.F.type_list_index mt_index wE_pe (pa_cons wE_pe pa_nil hs) hbase hfew hline hs) ?_
  refine h _ _ _ _ q F V0 H σ _ W r sr ek fun V1 os1 H1 v w s1 r1 rv q => ?_
  obtain ⟨a, rfl, ty, q⟩ := tyL_of r1 rv q
  refine ⟨ty, ?_⟩
  refine h2 _ _ _ _ q F V1 H1 σ _ W r1 (sr.mono s1) (ek.mono s1) fun V2 os2 H2 u y s2 r2 ru q => ?_
  split at q
  · rename_i i
    obtain ⟨ns, hl, hi, q⟩ := q
    obtain ⟨a', vs, e', h3, h4⟩ := lstOf_of r2 (rv.mono s2) hl
    cases e'
    have e3 := rpA_str h4
    subst e3
    cases ru
    have hj := List.idxOf_lt_length_iff.mpr hi
    refine ⟨a, _, .str i, ns.idxOf i, .str i, rfl, rfl, h3, rfl, List.all_eq_true.mpr fun x hx => ?_, ?_, ?_, fun m z' hm hz => ?_, c V2 os2 H2 _ _ (s1.trans s2) r2 rwI q⟩
    · obtain ⟨n, _, rfl⟩ := List.mem_map.mp hx; rfl
    · rw [List.getElem?_map, List.getElem?_eq_getElem hj, List.getElem_idxOf hj]; rfl
    · simp [eqV]
    · rw [List.getElem?_map] at hz
      obtain ⟨n, hn, rfl⟩ := Option.map_eq_some_iff.mp hz
      have ne : n ≠ i := fun e => sidx_ne ns i m hm (by rw [hn, e])
      simp [eqV, ne]
  · exact q.elim
theorem cm_tidx {x : Str} {ys : List Str} {p : Pos} (g : GlbT X.K X.mg x ys) (hg : Gl X x) (hd : (x == ("__debug__" : Str)) = false) (h2 : Cm X e te) (hbase : attributeBase (.Name x p) "index" X.env (eval (.Name x p) X.env) = eval (.Name x p) X.env)
    (hfew : ((backTo cpos (starEach [e] X.env)).all (fun x => !x.1) && (backToKw cpos (keywordEach [] X.env)).all (fun x => x.1.isSome)
      && decide ([e].length + ([] : List Keyword).length + (if ([] : List Keyword).isEmpty then 0 else 1) < 30)) = true)
    (hline : (apos.endLine == cpos.line) = true) (hs : starEach [e] X.env = (false, eval e X.env) :: starEach [] X.env) :
    Cm X (.Call (.Attribute (.Name x p) "index" apos) [e] [] cpos) (eTIdx ys te) := by
  obtain ⟨a, ob, h1, h3, h4, h5, h6⟩ := g.ex
  intro kx env os k q F V0 H σ Q W r sr ek c
  refine wE_of (pe_bm PySem.F.plainAttrs_tuple PySem.F.slot_tuple_index PySem.F.type_tuple_index mt_tup_index (pe_glob hg h1 (v := .ref a) rfl hd) (pa_cons wE_pe pa_nil hs) hbase hfew hline hs) ?_
  refine ⟨.inr (.inl ⟨rfl, ob, h3, h4, h5⟩), ?_⟩
  refine h2 _ _ _ _ q F V0 H σ _ W r sr ek fun V2 os2 H2 u y s2 r2 ru q => ?_
  unfold eTIdx at q
  split at q
  · rename_i z
    obtain ⟨hi, q⟩ := q
    cases ru
    obtain ⟨a', xs, e', h7, h8⟩ := rp_tup (h6 V2)
    cases e'
    have e3 := rpA_str h8
    subst e3
    have hj := List.idxOf_lt_length_iff.mpr hi
    exact ⟨a, ys, z, ys.idxOf z, rfl, rfl, same_sqT r2.vi h7, by rw [List.getElem?_eq_getElem hj, List.getElem_idxOf hj], fun m hm => sidx_ne ys z m hm, c V2 os2 H2 _ _ s2 r2 rwI q⟩
  · exact q.elim
end
end EV

set_option Elab.async false
set_option linter.all false
set_option maxRecDepth 100000
/-! E18: defs that call themselves: nothing is promised without fuel. -/
namespace EV
open PySem PySem.Spec PyProof.Rows L2
def noT : FT := fun _ _ _ _ => False
theorem okNo {P : Program} {w : World} {K : PySem.W.Frag} {mg : Str → Option Value} {base : Heap} {x qual : Str} {st : Stmt} {f : Addr} {fd : FuncData} {N ps : List Str} {k n : Nat} (F : Fun K x qual st f fd) (sc : FnScope N ps (defScope st)) (hn : ps.length = n) :
    FnOk P w K mg base (L2.CX P w) (k + 1) f fd ps (spX K n noT) := by
  refine F.okX sc (fun vs H Q E h => h.1.trans hn.symm) fun cdv A outer s H vs Q E hr hsp => ?_
  obtain ⟨hl, F0, V0, os, ws, k0, x0, r, ra, hT, c, cx⟩ := hsp
  exact hT.elim
section
variable {X : Cx} {o e : Expr} {apos cpos : Pos} {to te : TrE}
theorem list_extendW (l : Addr) (items : Array Value) (n : Nat) (b : Addr) (items2 : Array Value) (n2 : Nat) (dd2 : Option Addr) (sl2 : Array (Option Value)) (hc0 : ¬(!items.isEmpty && Builtin.List.listTooLong (items.size + items2.size)) = true) (hc1 : items.size ≤ sizeLine) (hs2 : items.size + items2.size ≤ sizeLine + 1) :
    Meets (Builtin.«list.extend» ⟨[.ref l, .ref b], []⟩) (fun _ R s => s.heap.get? l = some { cls := .type "list", dict := none, data := .seq items n, slots := #[] } ∧ s.heap.get? b = some { cls := .type "list", dict := dd2, data := .seq items2 n2, slots := sl2 } ∧ R (.ok (.ret Value.none)) { s with heap := s.heap.update l (Obj.mapSeq fun x => x ++ items2), toks := s.toks }) :=
  .of_wp fun prog w A R s h => by
    obtain ⟨hp, g, d, tk, os⟩ := s; obtain ⟨hl, hb, h⟩ := h; have f1 := AutoSeq1.idx_int; have f2 := AutoSeq1.sub_tuple_tuple; have f3 := AutoSeq1.sub_list_list; have f4 := AutoSeq1.sub_tuple_list; have f5 := AutoSeq1.sub_list_tuple
    have hz' : (items ++ items2).size ≤ sizeLine + 1 := by rw [Array.size_append]; exact hs2
    wp_walk using (wpAny_updateSeq hl rfl (hz := hc1) (_hz' := hz')), AutoSeq1.wpAny_loadPart' hl, AutoSeq1.wpAny_loadPart' hb; exact ⟨_, rfl, h⟩
def rExtS (K : PySem.W.Frag) : V → List V → Hp → VK → Prop := fun x vs H Q => ∃ l b xs zs, x = .ref l ∧ vs = [.ref b] ∧ H l = some (.lst xs) ∧ SqL K H b zs ∧ xs.length + zs.length ≤ sizeLine ∧ Q .non (upd H l (.lst (xs ++ zs)))
theorem mt_extS : MtM X "list.extend" (rExtS X.K) := by
  intro pins s σ H x vs v us Q I rx rv h
  obtain ⟨l, b, xs, zs, rfl, rfl, hH, hB, hz, q⟩ := h
  cases rx
  obtain ⟨u, rfl, ru⟩ := rv.one
  cases ru
  obtain ⟨z, its, n, r, hl, e⟩ := I.lstM hH
  obtain ⟨its2, r2, ⟨⟨cls2, dd2, data2, sl2⟩, n2, ho2, hc2, hn2, hd2⟩, _⟩ := I.list hB
  simp only at hc2 hd2
  subst hc2 hd2
  have hl2 : zs.length = its2.length := r2.length
  have hsz : its.toArray.size + its2.toArray.size ≤ sizeLine := by rw [List.size_toArray, List.size_toArray]; omega
  have hlong : ¬ (!its.toArray.isEmpty && Builtin.List.listTooLong (its.toArray.size + its2.toArray.size)) = true := by
    rw [notLongL hsz, Bool.and_false]
    exact Bool.false_ne_true
  refine call_meets F.slot_list_extend ⟨_, e, rfl⟩ F.entry_list_extend (F.args_list_extend_2 _ _)
    (list_extendW l its.toArray n b its2.toArray n2 _ _ hlong (by rw [List.size_toArray]; omega) (by omega)) ⟨e, ho2, ?_⟩
  refine ⟨.non, _, I.lset (its' := its ++ its2) hH e (by simp) (r.append r2) ?_, rfl, q⟩
  rw [List.length_append]
  omega
theorem cm_ext (h : Cm X o to) (h2 : Cm X e te) (hbase : attributeBase o "extend" X.env (eval o X.env) = eval o X.env)
    (hfew : ((backTo cpos (starEach [e] X.env)).all (fun x => !x.1) && (backToKw cpos (keywordEach [] X.env)).all (fun x => x.1.isSome)
      && decide ([e].length + ([] : List Keyword).length + (if ([] : List Keyword).isEmpty then 0 else 1) < 30)) = true)
    (hline : (apos.endLine == cpos.line) = true) (hs : starEach [e] X.env = (false, eval e X.env) :: starEach [] X.env) :
    Cm X (.Call (.Attribute o "extend" apos) [e] [] cpos) (eExt to te) := by
  intro kx env os k q F V0 H σ Q W r sr ek c
  refine wE_of (pe_bm PySem.F.plainAttrs_list PySem.F.slot_list_extend PySem.F.type_list_extend mt_extS wE_pe (pa_cons wE_pe pa_nil hs) hbase hfew hline hs) ?_
  refine h _ _ _ _ q F V0 H σ _ W r sr ek fun V1 os1 H1 v w s1 r1 rv q => ?_
  obtain ⟨pl, n, ws, rfl, ho, q⟩ := onL_ref q
  obtain rfl := rv.toRef
  obtain ⟨vs, h3, h4, ty⟩ := own_ty r1 ho
  refine ⟨ty, ?_⟩
  refine h2 _ _ _ _ q F V1 H1 σ _ W r1 (sr.mono s1) (ek.mono s1) fun V2 os2 H2 u y s2 r2 ru ⟨m, us, ds, ho2, hy, hl, q⟩ => ?_
  obtain ⟨vs2, h5, h6, _⟩ := own_ty r2 ho2
  obtain ⟨b, ys, rfl, h7, h8⟩ := lstOf_of r2 ru hy
  refine ⟨pl, b, vs2, ys, rfl, rfl, h5, h7, by rw [h6.length, h8.length]; exact hl, ?_⟩
  exact c V2 _ _ _ .non (s1.trans s2) (r2.mut ho2 (oo' := .lst (us ++ ds)) ⟨vs2 ++ ys, rfl, h6.append h8⟩) rwN q
end
section
variable {X : Cx} {tge a : Expr} {p p2 pos pos2 : Pos} {ta : TrE}
/-- reversed(range(n)) -/
def iRv1 (ta : TrE) : TrI := fun kx env os ki => ta kx env os fun w os1 => match w with
  | .int j => -(2 ^ 62) ≤ j ∧ j < 2 ^ 62 ∧ ki (rng ((j.toNat : Int) - 1) (-1) j.toNat) none os1
  | _ => False
theorem ci_rev1 (hg2 : Gl X "reversed") (hm2 : X.mg "reversed" = none) (hg : Gl X "range") (hm : X.mg "range" = none) (h : Cm X a ta) (hs : starEach [a] X.env = (false, eval a X.env) :: starEach [] X.env)
    (hs2 : starEach [.Call (.Name "range" p) [a] [] pos] X.env = (false, eval (.Call (.Name "range" p) [a] [] pos) X.env) :: starEach [] X.env) :
    CmI X tge (.Call (.Name "reversed" p2) [.Call (.Name "range" p) [a] [] pos] [] pos2) (iRv1 ta) := by
  intro kx env os ki q F V0 H σ R W r sr ek c
  refine wPI_of (pi_revR hg2 hm2 (prg_1 hg hm wE_pe hs) hs2) ?_
  refine h _ _ _ _ q F V0 H σ _ W r sr ek fun V1 os1 H1 v w s1 r1 rv q => ?_
  split at q
  · rename_i j
    cases rv
    refine ⟨_, rfl, by decide, by decide, q.1, q.2.1, ?_⟩
    have e0 : (j - 0).toNat = j.toNat := by rw [Int.sub_zero]
    have e1 : (0 : Int) + (((j - 0).toNat : Nat) : Int) - 1 = (j.toNat : Int) - 1 := by rw [e0, Int.zero_add]
    rw [e1, e0]
    exact c V1 os1 H1 _ _ _ s1 r1 (gi_rngC _ _ _) q.2.2
  · exact q.elim
end
/-! all(a list of bools), sorted(a dict of ints), sorted(pairs of ints) -/
theorem rpA_bl {K : PySem.W.Frag} {H : Hp} : ∀ {ns : List Bool} {vs : List V}, RpA K H vs (ns.map D.bl) → vs = ns.map V.bl
  | [], _, h => by cases h; rfl
  | n :: ns, _, h => by
    cases h with
    | cons a b => cases a; rw [rpA_bl b]; rfl
section
variable {X : Cx}
def cAll : TrC := fun ws os k => match ws with
  | [w] => ∃ bs : List Bool, LstOf os w (bs.map D.bl) ∧ k (.bl (bs.all id)) os
  | _ => False
theorem cmc_all (hc : X.calm = true) : CmC X (.builtin "all") cAll := by
  intro ws os k h
  unfold cAll at h
  split at h
  · obtain ⟨bs, h1, q⟩ := h
    exact JC.mk (cr_all hc) fun F V0 H vs Q r rs c => by
      obtain ⟨v, rfl, rv⟩ := rs.one
      obtain ⟨a, xs, rfl, hs, ra⟩ := lstOf_of r rv h1
      have e := rpA_bl ra
      subst e
      exact ⟨a, bs, rfl, hs, c V0 os H _ _ (Same.refl _) r rwB q⟩
  · exact h.elim
def cSortDI : TrC := fun ws os k => match ws with
  | [w] => ∃ (kvs : List (Key × D)) (ks : List Int), DctOf os w kvs ∧ kvs.map (·.1) = ks.map Sum.inl ∧ ks.length < 64 ∧ ∀ ms : List Int, ms.Perm ks → ms.Pairwise (· ≤ ·) → k (.lst (ms.map D.int)) os
  | _ => False
theorem rpK_keys {K : PySem.W.Frag} {H : Hp} : ∀ {vs : List (Key × V)} {kvs : List (Key × D)}, RpK K H vs kvs → vs.map (·.1) = kvs.map (·.1)
  | _, _, .nil => rfl
  | _, _, .cons _ r => by rw [List.map_cons, List.map_cons, rpK_keys r]
theorem cmc_sortDI (hc : X.calm = true) : CmC X (.builtin "sorted") cSortDI := by
  intro ws os k h
  unfold cSortDI at h
  split at h
  · obtain ⟨kvs, ks, h1, h2, h3, q⟩ := h
    exact JC.mk (call_sortedDI hc) fun F V0 H vs Q r rs c => by
      obtain ⟨v, rfl, rv⟩ := rs.one
      obtain ⟨a, xs, rfl, hs, ra⟩ := dctOf_of r rv h1
      refine ⟨a, xs, ks, rfl, hs, (rpK_keys ra).trans h2, h3, fun ms p h1 h2 hp => ?_⟩
      obtain ⟨s2, r2, rp⟩ := rel_newL r hp (rpA_ints (K := X.K) (H := V0) ms)
      exact c _ os _ _ (.lst (ms.map D.int)) s2 r2 rp (q ms h1 h2)
  · exact h.elim
def rSortedPS (K : PySem.W.Frag) : List V → Hp → VK → Prop := fun vs H Q => ∃ (a : Addr) (xs : List V) (ps : List (Int × Int)) (k : V → Int × Int), vs = [V.ref a] ∧ SqL K H a xs ∧ (∀ x ∈ xs, ∃ t, x = V.ref t ∧ SqT K H t [.int (k x).1, .int (k x).2]) ∧
  (∀ (i : Nat) (x : V) (p : Int × Int), xs[i]? = some x → ps[i]? = some p → ∃ t, x = V.ref t ∧ SqT K H t [.int p.1, .int p.2]) ∧ xs.length = ps.length ∧
  ∀ ys p, SrtO.Srtd (ltP k) ys → SrtO.Stb (ltP k) ys xs → xs.map k = ps → H p = none → Q (.ref p) (upd H p (.lst ys))
theorem cr_sortedPS : CallR X (.builtin "sorted") (rSortedPS X.K) := by
  intro pins s σ H vs us Q I r h
  obtain ⟨a, xs, ps, k, rfl, hs, hx, hp, hlen, q⟩ := h
  have hk : xs.map k = ps := by
    apply List.ext_getElem?
    intro i
    rw [List.getElem?_map]
    by_cases hi : i < xs.length
    · have e1 : xs[i]? = some xs[i] := List.getElem?_eq_getElem hi
      have e2 : ps[i]? = some (ps[i]'(hlen ▸ hi)) := List.getElem?_eq_getElem _
      rw [e1, e2]
      obtain ⟨t, et, ht⟩ := hp i _ _ e1 e2
      obtain ⟨t', et', ht'⟩ := hx _ (List.getElem_mem hi)
      rw [et] at et'
      cases et'
      have e := I.tuple_inj ht ht'
      injection e with f1 f2
      injection f2 with f2 _
      injection f1 with f1
      injection f2 with f2
      exact congrArg some (Prod.ext f1.symm f2.symm)
    · rw [List.getElem?_eq_none (by omega), List.getElem?_eq_none (by omega)]
      rfl
  obtain ⟨its, rv, hl, hz⟩ := I.list hs
  obtain ⟨u, rfl, ru⟩ := vals1 r
  obtain rfl : u = Value.ref a := ru
  obtain ⟨e1, e2⟩ := refs_back rv fun x m => by
    obtain ⟨t, e, _⟩ := hx x m
    exact ⟨t, e⟩
  refine SrtO.sorted_pairsO (k := fun u => k (backV u)) hl.isList (by rw [← rv.length]; exact hz) (fun v hv => ?_) fun h' d out h1 h2 kp hd hn => ?_
  · obtain ⟨t, rfl⟩ := e2 v hv
    have hm : V.ref t ∈ xs := by rw [e1]; exact List.mem_map.mpr ⟨_, hv, rfl⟩
    obtain ⟨t', e, ht⟩ := hx _ hm
    cases e
    obtain ⟨its2, r2, ⟨o, ho, hc, n, hd⟩, _⟩ := I.tuple ht
    obtain ⟨u1, u2, rfl, ri, rj⟩ := vals2 r2
    obtain ⟨t1, rfl⟩ := ri
    obtain ⟨t2, rfl⟩ := rj
    exact ⟨t, o, t1, t2, n, rfl, ho, hc, hd⟩
  · have h3 : ∀ u ∈ out, ∃ a, u = Value.ref a := fun u hu => e2 u (h2.perm.mem_iff.mp hu)
    obtain ⟨n, hn⟩ := hn
    have hb : SrtO.Stb (ltP k) (out.map backV) xs := by
      rw [e1]
      exact SrtO.Stb.map (ltP_swo k) backV h2
    refine ⟨.ref d, upd H d (.lst (out.map backV)), I.laid (t' := s.toks) kp hd ⟨?_, out, n, vals_back h3, hn⟩, rfl, q _ d (SrtO.srtd_map h1) hb hk (I.hok.fresh hd)⟩
    rw [hb.len]
    exact hz
def prD (p : Int × Int) : D := .tup [.int p.1, .int p.2]
theorem rp_pr {K : PySem.W.Frag} {H : Hp} {v : V} {p : Int × Int} (h : Rp K H v (prD p)) : ∃ t, v = .ref t ∧ SqT K H t [.int p.1, .int p.2] := by
  obtain ⟨a, xs, rfl, h1, h2⟩ := rp_tup h
  cases h2 with
  | cons b c => cases b; cases c with
    | cons d e => cases d; cases e; exact ⟨a, rfl, h1⟩
theorem rpA_map {K : PySem.W.Frag} {H : Hp} {k : V → Int × Int} : ∀ ys : List V, (∀ y ∈ ys, Rp K H y (prD (k y))) → RpA K H ys ((ys.map k).map prD)
  | [], _ => .nil
  | y :: ys, h => .cons (h y List.mem_cons_self) (rpA_map ys fun z hz => h z (List.mem_cons_of_mem _ hz))
/-- sorted of pairs of ints -/
def cSortP : TrC := fun ws os k => match ws with
  | [w] => ∃ ps : List (Int × Int), LstOf os w (ps.map prD) ∧ ∀ ms : List (Int × Int), ms.Perm ps → ms.Pairwise (fun p q => p.1 < q.1 ∨ (p.1 = q.1 ∧ p.2 ≤ q.2)) → k (.lst (ms.map prD)) os
  | _ => False
theorem cmc_sortP : CmC X (.builtin "sorted") cSortP := by
  intro ws os kk h
  unfold cSortP at h
  split at h
  · obtain ⟨ps, h1, q⟩ := h
    exact JC.mk cr_sortedPS fun F V0 H vs Q r rs c => by
      obtain ⟨v, rfl, rv⟩ := rs.one
      obtain ⟨a, xs, rfl, hs, ra⟩ := lstOf_of r rv h1
      have hl : xs.length = ps.length := by rw [ra.length, List.length_map]
      have hat : ∀ (i : Nat) (x : V) (p : Int × Int), xs[i]? = some x → ps[i]? = some p → Rp X.K V0 x (prD p) := fun i x p e1 e2 => by
        obtain ⟨d, e3, r3⟩ := ra.getV e1
        rw [List.getElem?_map, e2] at e3
        cases e3
        exact r3
      have hch : ∀ x : V, ∃ p : Int × Int, x ∈ xs → Rp X.K V0 x (prD p) := fun x => by
        by_cases hx : x ∈ xs
        · obtain ⟨i, hi⟩ := List.mem_iff_getElem?.mp hx
          have hi2 : i < ps.length := by rw [← hl]; exact (List.getElem?_eq_some_iff.mp hi).1
          exact ⟨ps[i], fun _ => hat i x _ hi (List.getElem?_eq_getElem hi2)⟩
        · exact ⟨(0, 0), fun h => absurd h hx⟩
      let k : V → Int × Int := fun x => Classical.choose (hch x)
      have hk : ∀ x ∈ xs, Rp X.K V0 x (prD (k x)) := fun x hx => Classical.choose_spec (hch x) hx
      refine ⟨a, xs, ps, k, rfl, hs, fun x hx => ?_, fun i x p e1 e2 => ?_, hl, fun ys p g1 g2 g3 hp => ?_⟩
      · obtain ⟨t, e, h⟩ := rp_pr (hk x hx)
        exact ⟨t, e, same_sqT r.vi h⟩
      · obtain ⟨t, e, h⟩ := rp_pr (hat i x p e1 e2)
        exact ⟨t, e, same_sqT r.vi h⟩
      · obtain ⟨s2, r2, rp⟩ := rel_newL r hp (rpA_map (k := k) ys fun y hy => hk y (g2.perm.mem_iff.mp hy))
        refine c _ os _ _ (.lst ((ys.map k).map prD)) s2 r2 rp (q (ys.map k) (g3 ▸ g2.perm.map k) ?_)
        rw [List.pairwise_map]
        refine g1.imp fun {x y} h => ?_
        have := SrtO.lexB_no.mp h
        omega
  · exact h.elim
/-! > of two pairs of ints -/
def rGtP (K : PySem.W.Frag) : R2 := fun x y H Q => ∃ (a b : Addr) (i j i2 j2 : Int), x = .ref a ∧ y = .ref b ∧ SqT K H a [.int i, .int j] ∧ SqT K H b [.int i2, .int j2] ∧ Q (.bl (decide (i2 < i ∨ (i = i2 ∧ j2 < j)))) H
theorem op_gtP (hu : X.A.units < cLine) : OpR X (compareOp .Gt) (rGtP X.K) := by
  intro pins s σ H x y v u Q I rx ry h
  obtain ⟨a, b, i, j, i2, j2, rfl, rfl, ha, hb, q⟩ := h
  cases rx
  cases ry
  obtain ⟨its, r1, p1, _⟩ := I.tuple ha
  obtain ⟨its2, r2, p2, _⟩ := I.tuple hb
  obtain ⟨_, _, rfl, ⟨t1, rfl⟩, ⟨t2, rfl⟩⟩ := vals2 r1
  obtain ⟨_, _, rfl, ⟨t3, rfl⟩, ⟨t4, rfl⟩⟩ := vals2 r2
  have ee : ∀ (x y : Int) (t u : Tok), PySem.SeqAt.EqAt X.A.in1 s (.int x t) (.int y u) (decide (x = y)) := fun x y t u => by
    have z : (x == y) = decide (x = y) := by
      by_cases q : x = y
      · rw [decide_eq_true q]; exact beq_iff_eq.mpr q
      · rw [decide_eq_false q]; exact beq_eq_false_iff_ne.mpr q
    rw [← z]
    exact PySem.SeqAt.EqAt.int_int _ _ _ _
  have R := Ob.RcOp.tuples_gt (A := X.A) (s := s) (e := fun n => if n = 0 then decide (i = i2) else decide (j = j2)) (r := fun n => if n = 0 then decide (i2 < i) else decide (j2 < j)) p1 p2 hu (fun n h1 h2 => by
    match n, h1, h2 with
    | 0, _, _ => exact ee i i2 t1 t3
    | 1, _, _ => exact ee j j2 t2 t4) (fun n h1 h2 _ => by
    match n, h1, h2 with
    | 0, _, _ => exact Ob.RcOp.gt_int _ _ _ _
    | 1, _, _ => exact Ob.RcOp.gt_int _ _ _ _)
  have eb : Ob.lexAt (fun n => if n = 0 then decide (i = i2) else decide (j = j2)) (fun n => if n = 0 then decide (i2 < i) else decide (j2 < j)) false 0 2 = decide (i2 < i ∨ (i = i2 ∧ j2 < j)) := by
    simp only [Ob.lexAt]
    by_cases h1 : i = i2
    · by_cases h2 : j = j2
      · simp [h1, h2]
      · simp [h1, h2]
    · simp [h1]
  have z : wpAny (model X.prog X.w) X.A (compareOp .Gt (.ref a) (.ref b)) (EP X pins σ Q) X.xe s := R X.prog X.w X.xe (EP X pins σ Q) ⟨.bl _, H, I, rfl, by
    have e2 : (Ob.lexAt (fun n => if n = 0 then decide (i = i2) else decide (j = j2)) (fun n => if n = 0 then decide (i2 < i) else decide (j2 < j)) (decide (([Value.int i t1, Value.int j t2] : List Value).toArray.size > ([Value.int i2 t3, Value.int j2 t4] : List Value).toArray.size)) 0 (min ([Value.int i t1, Value.int j t2] : List Value).toArray.size ([Value.int i2 t3, Value.int j2 t4] : List Value).toArray.size)) = decide (i2 < i ∨ (i = i2 ∧ j2 < j)) := eb
    rw [e2]
    exact q⟩
  exact z
def oGtP : TrO := fun x y os k => match x, y with
  | .tup [.int i, .int j], .tup [.int i2, .int j2] => k (.bl (decide (i2 < i ∨ (i = i2 ∧ j2 < j)))) os
  | _, _ => False
theorem cmo_gtP {lvl : Nat} (hr : Room lvl X.A) : CmO X (compareOp .Gt) oGtP := by
  intro x y os k h
  unfold oGtP at h
  split at h
  · rename_i i j i2 j2
    refine JO.mk (op_gtP (by have := hr.units; omega)) fun F V0 H v u Q r rx ry c => ?_
    obtain ⟨t, rfl, h1⟩ := rp_pr (p := (i, j)) rx
    obtain ⟨t2, rfl, h2⟩ := rp_pr (p := (i2, j2)) ry
    exact ⟨t, t2, i, j, i2, j2, rfl, rfl, same_sqT r.vi h1, same_sqT r.vi h2, c V0 os H _ _ (Same.refl _) r rwB h⟩
  · exact h.elim
end
end EV

set_option Elab.async false
set_option linter.all false
set_option maxRecDepth 100000
/-! E19: the law's own def, called from the top (no repr is under way there); repr of data. -/
namespace EV
open PySem PySem.Spec PyProof.Rows L2
/-- the table of modules stands below -/
def SysIn (base : Heap) : Prop := ∃ (o : Obj) (es : Array DictEntry) (n : Nat), base.get? sysModules = some o ∧ o.data = .dict es n
/-- what the law's def promises when the top calls it -/
structure FnAt (P : Program) (w : World) (K : PySem.W.Frag) (mg : Str → Option Value) (base : Heap) (k : Nat) (f : Addr) (fd : FuncData) (ps : List Str) (sp : Sp) : Prop where
  run : ∀ (s : Shared) (H : Hp) (args : Args) (us : List Value) (vs : List V) (Q : VK), Room k callerA → Env0 P w K mg base callerA [] s H → BindsTo s fd args (ps.zip us) → Vals vs us → sp vs H Q (fun _ _ _ => False) →
    codeAny (model P w) callerA (.call (.ref f) args) (CR (L2.CX P w) [] P w H s Q fun _ _ _ => False) s
theorem FnAt.imp {P : Program} {w : World} {K : PySem.W.Frag} {mg : Str → Option Value} {base : Heap} {k : Nat} {f : Addr} {fd : FuncData} {ps : List Str} {sp sp2 : Sp} (F : FnAt P w K mg base k f fd ps sp) (h : ∀ vs H Q E, sp2 vs H Q E → sp vs H Q E) : FnAt P w K mg base k f fd ps sp2 :=
  ⟨fun s H args us vs Q hr he hb hv hs => F.run s H args us vs Q hr he hb hv (h _ _ _ _ hs)⟩
section
variable {P : Program} {w : World} {K : PySem.W.Frag} {mg : Str → Option Value} {base : Heap}
theorem atX {x qual : Str} {st : Stmt} {f : Addr} {fd : FuncData} {N ps : List Str} {k n m : Nat} {tb : TrS} (F : Fun K x qual st f fd) (sc : FnScope N ps (defScope st)) (hn : ps.length = n) (hm : N.length = m) (hnm : n ≤ m)
    (h : ∀ (cdv : Value) (s : Shared) (H : Hp), Room k (callerA.deeper (envOfC qual (defScope st) s.heap.objs.size f cdv)) →
      CmSs (cxOf (L2.CX P w) P w K mg base N qual (defScope st) f cdv callerA [] s H fun _ _ _ => False) (defBody st) tb) : FnAt P w K mg base (k + 1) f fd ps (spX K n (fnT m tb)) := by
  obtain ⟨oc, od, kV, doc, pm, an, cdv, ct, osl, rfl, lk, hcd⟩ := F.ex
  refine ⟨fun s H args us vs Q hr e0 hb rv hsp => ?_⟩
  have sp0 := hsp
  obtain ⟨hl, F0, V0, os, ws, k0, x0, r, ra, hT, c, cx⟩ := hsp
  have hlp : vs.length = ps.length := hl.trans hn.symm
  have KX : K.In s.heap := e0.mod.kin.keeps fun b o e => (e0.bs b o e).1
  have lim : s.heap.NoLimit := e0.mod.nolimit.keeps fun b o e => (e0.bs b o e).1
  have hkind : ∀ y ∈ ps.zip us, (defScope st).names.lookup y.1 = some .local ∨ ((defScope st).names.lookup y.1 = some .cell ∧ ((cellsFrom (s.heap.objs.size + 1) (defScope st).names []).lookup y.1).isSome = true) := by
    rintro ⟨n1, v1⟩ hy
    exact (sc.par n1 (List.of_mem_zip hy).1).imp id fun q => ⟨q, PySem.W.cellsFrom_some _ _ _ (.inl q)⟩
  refine codeAny_call_function hr.depth (KX _ _ lk) rfl sc.co sc.gen rfl (PySem.W.codeRec_of KX hcd) (hb _ _ _ _ ?_)
  refine wpAny_newFunctionEnv_cells sc.kind hkind fun env he s1 x => ?_
  subst he
  refine ⟨lim.keeps x.toInCall.keep, codeAny_func ?_⟩
  have hw : ws.length ≤ N.length := by rw [← ra.length]; omega
  have I := inv_start (CX := L2.CX P w) (E := fun _ _ _ => False) sc hr.hd e0 hlp rv x
  subst hm
  have ht : wSs (cxOf (L2.CX P w) P w K mg base N qual (defScope st) f cdv callerA [] s H fun _ _ _ => False) (defBody st) { nx := fun _ H' => Q .non H', rt := Q } (L2.start N vs) H := by
    refine h cdv s H (hr.deeper _) _ _ _ _ hT F0 V0 H _ _ (fun _ _ _ _ => False) r (sr_startE ra hw) ⟨fun V1 os1 H1 σ1 env1 s1 r1 sr1 q => ?_, fun V1 os1 H1 v w s1 r1 rv q => ?_, fun _ _ _ _ _ _ _ _ z => z.elim, fun _ _ _ _ _ _ _ _ z => z.elim,
      takes_of rfl rfl rfl rfl, fun V1 os1 H1 σ1 env1 cls d x s1 r1 sr1 ex q => ?_⟩
    · obtain ⟨os2, hs, q⟩ := dropX_of q
      exact c V1 os2 H1 _ _ s1 (r1.wk hs) rwN q
    · obtain ⟨os2, hs, q⟩ := dropX_of q
      exact c V1 os2 H1 v w s1 (r1.wk hs) rv q
    · obtain ⟨os2, hs, q⟩ := dropE_of q
      exact cx V1 os2 H1 cls d x s1 (r1.wk hs) ex q
  refine wpAny_mono (wSs_pss.run [] s1 (L2.start N vs) H _ I ht) (fun fl s2 hs => ?_) fun e s2 hs => hs
  cases fl with
  | ret u =>
    obtain ⟨v, σ2, H2, J, rv2, q⟩ := hs
    exact ⟨v, H2, J.os, J.bare, J.base, J.hok, rv2, q⟩
  | next =>
    obtain ⟨σ2, H2, J, q⟩ := hs
    exact ⟨V.non, H2, J.os, J.bare, J.base, J.hok, rfl, q⟩
  | brk => exact hs.elim fun _ z => z.elim fun _ z => z.2.elim
  | cont => exact hs.elim fun _ z => z.elim fun _ z => z.2.elim
end
/-- the law's def from the top, over any ground of tracked things -/
theorem top_at {P : Program} {w : World} {K : PySem.W.Frag} {mg mb : Str → Option Value} {k : Nat} {fa a : Addr} {fd : FuncData} {x : Str} {sp : Sp} {s1 : Shared} {us : List Value} {H : Hp}
    (KX : K.In s1.heap) (hm : s1.heap.Ns mainGlobals mg) (hb : s1.heap.Ns builtinsNs mb) (hbb : ∀ x : Str, x ≠ "__name__" → mb x = bootBuiltins x) (hlim : s1.heap.NoLimit) (hg : s1.gens = #[])
    (ha : s1.heap.get? a = some { cls := .type "list", data := .seq us.toArray }) (hr : Room k callerA) (F : ∀ base : Heap, K.In base → base.Ns mainGlobals mg → (SysIn s1.heap → SysIn base) → FnAt P w K mg base k fa fd [x] sp)
    (hbind : ∀ (s : Shared) (u : Value), BindsTo s fd ⟨[u], []⟩ [(x, u)]) (hO : Only H) (hok : HOk P w H s1.heap) (hA : ∀ b, H b ≠ none → b = a) (hK : H a ≠ none → K.lookup a = none)
    (hsp : sp [.ref a] H (fun v _ => v = .bl true) fun _ _ _ => False) :
    codeAny (model P w) callerA (.call (.ref fa) ⟨[.ref a], []⟩) (fun r s2 => r = .ok (.ret (.bool true)) ∧ OldK s1.heap s2.heap ∧ s2.os = s1.os ∧ AllBare s2.gens) s1 := by
  have seen : ∀ {b : Addr} {o : Obj}, s1.heap.get? b = some o → (b ≠ a ∨ H a = none) → (hidT s1.heap H).get? b = some o := fun {b o} e h => hidT_get e (by
    by_cases hn : H b = none
    · exact hn
    · have eb := hA b hn
      subst eb
      exact h.elim (fun z => absurd rfl z) id)
  have notD : ∀ {b : Addr} {o : Obj} {es : Array DictEntry} {ep : Nat}, s1.heap.get? b = some o → o.data = .dict es ep → b ≠ a := fun {b o es ep} e d z => by
    rw [z, ha] at e
    cases e
    cases (show Data.seq us.toArray _ = Data.dict es ep from d)
  have nsT : ∀ {b : Addr} {m : Str → Option Value}, s1.heap.Ns b m → (hidT s1.heap H).Ns b m := fun ⟨o, es, ep, e, d, r⟩ => ⟨o, es, ep, seen e (.inl (notD e d)), d, r⟩
  have KT : K.In (hidT s1.heap H) := fun b o e => seen (KX b o e) (by
    by_cases hn : H a = none
    · exact .inr hn
    · refine .inl fun z => ?_
      rw [z, hK hn] at e
      cases e)
  have limT : (hidT s1.heap H).NoLimit := by
    obtain ⟨mc, h1, h2⟩ := hlim
    exact ⟨mc, nsT h1, h2⟩
  have noF : ∀ {b : Addr}, b ∈ ([] : List Addr) → False := fun z => nomatch z
  have env : Env0 P w K mg (hidT s1.heap H) callerA [] s1 H := ⟨rfl, ⟨KT, nsT hm, ⟨mb, nsT hb, hbb⟩, limT⟩, fun _ _ e => of_hidT e, Nat.le_of_eq (hidT_size _ _), trivial, fun _ z => (noF z).elim, hok, .of_eq hg⟩
  have run := (F _ KT (nsT hm) fun ⟨o, es, n, e, d⟩ => ⟨o, es, n, seen e (.inl (notD e d)), d⟩).run s1 H ⟨[.ref a], []⟩ [.ref a] [.ref a] _ hr env (hbind s1 (.ref a)) (.cons rfl .nil) hsp
  refine codeAny_mono run fun r s2 h => ?_
  match r, h with
  | .error e, h => exact (cx_no h).elim
  | .ok .next, h => exact False.elim h
  | .ok .brk, h => exact False.elim h
  | .ok .cont, h => exact False.elim h
  | .ok (.ret u), ⟨v, H2, eos, bare, un, hok2, rv, q⟩ =>
    have q2 : v = .bl true := q
    subst q2
    obtain rfl : u = Value.bool true := rv
    refine ⟨rfl, OldK.of_keep fun b o e => ?_, eos, bare⟩
    rcases hO b with z | ⟨ob, xs, z⟩
    · exact un.keep b o e z (fun z => (noF z).elim) fun z => (noF z).elim
    · obtain ⟨e1, _⟩ := hok b _ z
      obtain ⟨e2, _⟩ := hok2 b _ (un.frzs b ob _ z)
      rw [e] at e1
      cases e1
      exact e2
theorem top_law {P : Program} {w : World} {K : PySem.W.Frag} {mg mb : Str → Option Value} {k : Nat} {fa a : Addr} {fd : FuncData} {x : Str} {sp : Sp} {s1 : Shared} {us : List Value} {ns : List Int}
    (KX : K.In s1.heap) (hm : s1.heap.Ns mainGlobals mg) (hb : s1.heap.Ns builtinsNs mb) (hbb : ∀ x : Str, x ≠ "__name__" → mb x = bootBuiltins x) (hlim : s1.heap.NoLimit) (hg : s1.gens = #[])
    (ha : s1.heap.get? a = some { cls := .type "list", data := .seq us.toArray }) (hi : IntsAre us ns) (hl : ns.length ≤ sizeLine) (hr : Room k callerA) (F : ∀ base : Heap, K.In base → base.Ns mainGlobals mg → (SysIn s1.heap → SysIn base) → FnAt P w K mg base k fa fd [x] sp)
    (hbind : ∀ (s : Shared) (u : Value), BindsTo s fd ⟨[u], []⟩ [(x, u)]) (hsp : ∀ H : Hp, SqL K H a (ns.map V.int) → sp [.ref a] H (fun v _ => v = .bl true) fun _ _ _ => False) :
    codeAny (model P w) callerA (.call (.ref fa) ⟨[.ref a], []⟩) (fun r s2 => r = .ok (.ret (.bool true)) ∧ OldK s1.heap s2.heap ∧ s2.os = s1.os ∧ AllBare s2.gens) s1 := by
  have rv := vals_ints hi
  have lu := hi.length
  by_cases hk : K.lookup a = none
  · let H : Hp := fun b => if b = a then some (.frz { cls := .type "list", data := .seq us.toArray } (.lst (ns.map V.int))) else none
    have Ha : H a = some (.frz { cls := .type "list", data := .seq us.toArray } (.lst (ns.map V.int))) := if_pos rfl
    have Hn : ∀ {b : Addr}, b ≠ a → H b = none := fun h => if_neg h
    refine top_at (H := H) KX hm hb hbb hlim hg ha hr F hbind (fun b => ?_) (fun b u z => ?_) (fun b z => ?_) (fun _ => hk) (hsp H (.inl (.inr ⟨_, Ha⟩)))
    · by_cases h : b = a
      · exact .inr ⟨_, _, h ▸ Ha⟩
      · exact .inl (Hn h)
    · by_cases h : b = a
      · subst h
        rw [Ha] at z
        cases z
        exact ⟨ha, by rw [List.length_map]; exact hl, us, _, rv, ha⟩
      · rw [Hn h] at z
        cases z
    · by_cases h : b = a
      · exact h
      · exact absurd (Hn h) z
  · obtain ⟨o, ho⟩ := Option.ne_none_iff_exists'.mp hk
    have e := KX a o ho
    rw [ha] at e
    cases e
    exact top_at (H := fun _ => none) KX hm hb hbb hlim hg ha hr F hbind (fun _ => .inl rfl) (fun b u z => nomatch z) (fun b z => absurd rfl z) (fun z => absurd rfl z)
      (hsp _ (.inr ⟨_, us.toArray, _, ho, rfl, rfl, rfl, by rw [List.size_toArray, lu]; exact hl, by simpa using rv⟩))
theorem walk_at_top {l : PySem.W.OpenLaw} {k : Nat} {q : Program} {loose : List Str} {XP : (Str → Option Value) → Heap → Prop} {YP : World → Heap → Prop} {d : DefRec} {K : Params → PySem.W.Frag} {x : Str} {T : FT}
    (hn : l.most = some 63) (hdf : d.params.defaults = []) (hr : Room k callerA) (hY : ∀ (w : World) (h : Heap), YP w h → (K w.params).In h)
    (F : ∀ (w : World) (mg : Str → Option Value) (fa : Addr) (h : Heap), (K w.params).In h → h.Ns mainGlobals mg → mg d.name = some (.ref fa) →
      ∃ fd : FuncData, (∀ (s : Shared) (u : Value), BindsTo s fd ⟨[u], []⟩ [(x, u)]) ∧ ∀ base : Heap, (K w.params).In base → base.Ns mainGlobals mg → (importsNone q = true → SysIn base) → FnAt l.prog w (K w.params) mg base k fa fd [x] (spX (K w.params) 1 T))
    (hT : ∀ ns : List Int, ns.length ≤ 63 → T [.lst (ns.map D.int)] [] (fun w _ => w = .bl true) (fun _ _ => False)) : PySem.W.WalkO q loose XP YP l.row.toRowW d [] (fun f vs => PySem.call f vs) := by
  refine Att.attach_call hn hdf fun w s0 s1 mg mb fa o pm cd doc a us ns G Y ho hd hcd hmg hobj hints hlen hg => ?_
  have KX := hY w _ Y
  obtain ⟨fd, hb, hF⟩ := F w mg fa _ KX G.T.g hmg
  refine top_law KX G.T.g G.T.b G.T.builtins G.T.nolimit hg hobj hints (Nat.le_trans hlen (by decide)) hr (fun base h1 h2 h3 => hF base h1 h2 fun hq => h3 ?_) hb fun H hS => law_spX (K w.params) T hT H a ns hlen hS
  obtain ⟨mm, ⟨o, es, ep, e, r⟩, _⟩ := (G.T.seer hq).mods
  exact ⟨o, es, ep, e, r.1⟩
/-! ### repr of data -/
def isTL : D → Bool
  | .tup _ => true
  | .lst _ => true
  | _ => false
section
variable {X : Cx}
def rRepr (K : PySem.W.Frag) : List V → Hp → VK → Prop := fun xs H Q => ∃ (a : Addr) (d : PyData), xs = [.ref a] ∧ Dp K H (.ref a) d ∧ d.showable = true ∧ d.hasDict = false ∧ d.depth ≤ 64 ∧ d.shown.length ≤ sizeLine ∧ Q (.str d.shown) H
theorem cr_repr (hg : X.A.guards = some []) (hu : X.A.units + 80 < cLine) : CallR X (.builtin "repr") (rRepr X.K) := by
  intro pins s σ H xs us Q I r h
  obtain ⟨a, d, rfl, hd, hs, hn, hdp, hz, q⟩ := h
  obtain ⟨u, rfl, ru⟩ := r.one
  obtain ⟨as, rd⟩ := Dp.reads I d _ u hd ru
  cases ru
  exact repr_of_reads' rd hs (PyData.noDict_hsm hn) hg (by omega) (fun _ _ e => e) (fun h2 u2 tk hk => ⟨.str _, H, I.kept hk, ⟨_, rfl⟩, q⟩) hz
def cRepr : TrC := fun ws os k => match ws with
  | [w] => ∃ d, AsD os w d ∧ shp d 60 = true ∧ (toP d).showable = true ∧ isTL d = true ∧ (toP d).shown.length ≤ sizeLine ∧ k (.str (toP d).shown) os
  | _ => False
theorem cmc_repr {lvl : Nat} (hg : X.A.guards = some []) (hr : Room lvl X.A) : CmC X (.builtin "repr") cRepr := by
  intro ws os k h
  unfold cRepr at h
  split at h
  · obtain ⟨d, h1, h2, h3, h4, h5, q⟩ := h
    refine JC.mk (cr_repr hg (by have := hr.un; omega)) fun F V0 H vs Q r rs c => ?_
    obtain ⟨v, rfl, rv⟩ := rs.one
    have hd := asD_dp r h1 h2 rv
    obtain ⟨l1, l2⟩ := shp_lay h2
    have hv : ∃ a, v = .ref a := by
      cases d with
      | lst ds => cases hd; exact ⟨_, rfl⟩
      | tup ds => cases hd; exact ⟨_, rfl⟩
      | _ => cases h4
    obtain ⟨a, rfl⟩ := hv
    exact ⟨a, toP d, rfl, hd, h3, PyData.hasDict_of_canLay _ l1, by omega, h5, c V0 os H _ _ (Same.refl _) r rwS q⟩
  · exact h.elim
end
/-! a bound of a text that repr gives -/
mutual
def shwOk : D → Bool
  | .non => true
  | .bl _ => true
  | .int i => decide (-10000000000000000000000000000000000000000 < i ∧ i < 10000000000000000000000000000000000000000)
  | .str x => x.cps.toList.all fun c => decide (c < 65536)
  | .tup ds => shwOkA ds
  | .lst ds => shwOkA ds
  | _ => false
def shwOkA : List D → Bool
  | [] => true
  | d :: ds => shwOk d && shwOkA ds
end
mutual
def shwN : D → Nat
  | .int _ => 45
  | .str x => 10 * x.length + 2
  | .tup ds => 5 + shwNA ds
  | .lst ds => 5 + shwNA ds
  | _ => 5
def shwNA : List D → Nat
  | [] => 0
  | d :: ds => shwN d + 2 + shwNA ds
end
theorem int_shw {i : Int} (h : -10000000000000000000000000000000000000000 < i ∧ i < 10000000000000000000000000000000000000000) : (PyData.int i).showable = true ∧ (PyData.int i).shown.length ≤ 45 := by
  have hn : i.natAbs < 10 ^ 40 := by
    have e : (10 : Nat) ^ 40 = 10000000000000000000000000000000000000000 := by decide
    rw [e]
    omega
  constructor
  · rw [PyData.showable]
    refine decide_eq_true ?_
    by_cases h0 : i.natAbs = 0
    · rw [h0]
      decide
    · have : i.natAbs < 2 ^ 1920 := Nat.lt_of_lt_of_le hn (by decide +kernel)
      exact (Nat.log2_lt h0).mpr this
  · rw [PyData.shown, PySem.ofString_length]
    have := int_text_length_le10 (a := i) (k := 40) (by decide) hn
    omega
theorem shownAll_map (ds : List D) : PyData.shownAll (toPs ds) = ds.map fun d => (toP d).shown := by
  induction ds with
  | nil => rfl
  | cons d ds ih => rw [toPs, PyData.shownAll, ih]; rfl
mutual
theorem shw_of : ∀ {d : D}, shwOk d = true → (toP d).showable = true ∧ (toP d).shown.length ≤ shwN d
  | .non, _ => ⟨by simp [toP, PyData.showable], by rw [toP, PyData.shown]; decide⟩
  | .bl b, _ => ⟨by simp [toP, PyData.showable], by rw [toP, PyData.shown]; cases b <;> decide⟩
  | .int i, h => by
    rw [shwOk, decide_eq_true_iff] at h
    rw [toP]
    exact int_shw h
  | .str x, h => by
    rw [shwOk, List.all_eq_true] at h
    rw [toP]
    refine ⟨by simp [PyData.showable], ?_⟩
    rw [PyData.shown]
    exact StrLaws.reprText_len x fun c hc => Nat.lt_of_lt_of_le (of_decide_eq_true (h c hc)) (by decide)
  | .tup ds, h => by
    rw [shwOk] at h
    obtain ⟨h1, h2, h3⟩ := shwA_of h
    rw [toP, PyData.showable, PyData.shown, shwN]
    have := tupleText_len_le (PyData.shownAll (toPs ds))
    exact ⟨h1, by omega⟩
  | .lst ds, h => by
    rw [shwOk] at h
    obtain ⟨h1, h2, h3⟩ := shwA_of h
    rw [toP, PyData.showable, PyData.shown, shwN]
    have := listText_len_le (PyData.shownAll (toPs ds))
    exact ⟨h1, by omega⟩
  | .ty _, h => by cases h
  | .dK _, h => by cases h
  | .dT _, h => by cases h
  | .exn .., h => by cases h
  | .ref _, h => by cases h
theorem shwA_of : ∀ {ds : List D}, shwOkA ds = true → PyData.showableAll (toPs ds) = true ∧ ((PyData.shownAll (toPs ds)).map (·.length)).sum + 2 * (PyData.shownAll (toPs ds)).length ≤ shwNA ds ∧ True
  | [], _ => ⟨by rw [toPs, PyData.showableAll], by rw [toPs, PyData.shownAll]; exact Nat.le_refl _, trivial⟩
  | d :: ds, h => by
    rw [shwOkA, Bool.and_eq_true] at h
    obtain ⟨h1, h2⟩ := shw_of h.1
    obtain ⟨h3, h4, _⟩ := shwA_of h.2
    rw [toPs, PyData.showableAll, PyData.shownAll, shwNA, List.map_cons, List.sum_cons, List.length_cons, h1, h3]
    exact ⟨rfl, by omega, trivial⟩
end
theorem cRepr_of {d : D} {os : Os} {k : D → Os → Prop} (h1 : shp d 60 = true) (h2 : shwOk d = true) (h3 : isTL d = true) (h4 : shwN d ≤ sizeLine) (q : k (.str (toP d).shown) os) : cRepr [d] os k :=
  ⟨d, .same d, h1, (shw_of h2).1, h3, Nat.le_trans (shw_of h2).2 h4, q⟩
end EV

set_option Elab.async false
set_option linter.all false
set_option maxRecDepth 100000
/-! E20: dicts written out; repr of data with dicts. -/
namespace EV
open PySem PySem.Spec PyProof.Rows L2
section
variable {X : Cx} {pos : Pos}
/-- the pairs of a dict that is written out, its keys constants -/
structure CmP (X : Cx) (pos : Pos) (keys : List (Option Expr)) (values : List Expr) (ks : List Key) (tl : TrA) : Prop where
  ex : ∃ trs, PPs X pos keys values trs ∧ ∀ (kx : Kx) (env : DEnv) (os : Os) (kl : List D → Os → Prop), tl kx env os kl → ∀ (F V0 H : Hp) (σ : L2.St) (Q : List (V × V) → Hp → Prop) (W : WX), Rel X.K F V0 os H → SR X.K V0 σ env → XkOk X F V0 σ kx W →
    (∀ (V1 : Hp) (os1 : Os) (H1 : Hp) (vs : List V) (ws : List D), Same V0 V1 → Rel X.K F V1 os1 H1 → RpA X.K V1 vs ws → vs.length = ks.length → kl ws os1 → Q ((ks.zip vs).map fun kv => (kV kv.1, kv.2)) H1) → tPairs trs σ H Q
theorem cp_nil : CmP X pos [] [] [] aN := ⟨[], pps_nil, fun kx env os kl q F V0 H σ Q W r sr ek c => c V0 os H [] [] (Same.refl _) r .nil rfl q⟩
theorem cp_consK {k v : Expr} {keys : List (Option Expr)} {values : List Expr} {ky : Key} {ks : List Key} {tv : TrE} {tl : TrA} (hk : PE X k (tC (kV ky))) (hv : Cm X v tv) (h : CmP X pos keys values ks tl) :
    CmP X pos (some k :: keys) (v :: values) (ky :: ks) (aC tv tl) := by
  obtain ⟨trs, p, run⟩ := h.ex
  refine ⟨_, pps_cons hk (wE_pe (X := X) (e := v)) p, fun kx env os kl q F V0 H σ Q W r sr ek c => ?_⟩
  refine hv _ _ _ _ q F V0 H σ _ W r sr ek fun V1 os1 H1 y w s1 r1 rv q => ?_
  refine run kx env os1 _ q F V1 H1 σ _ W r1 (sr.mono s1) (ek.mono s1) fun V2 os2 H2 vs ws s2 r2 rs hl q => ?_
  exact c V2 os2 H2 (y :: vs) (w :: ws) (s1.trans s2) r2 (.cons (rv.mono s2) rs) (congrArg (· + 1) hl) q
theorem cp_str {x : Str} {j} {p : Pos} {v : Expr} {keys : List (Option Expr)} {values : List Expr} {ks : List Key} {tv : TrE} {tl : TrA} (hv : Cm X v tv) (h : CmP X pos keys values ks tl) :
    CmP X pos (some (.Constant (.str x) j p) :: keys) (v :: values) (.inr x :: ks) (aC tv tl) := cp_consK (ky := .inr x) pe_str hv h
theorem cp_int {x : Int} {j} {p : Pos} {v : Expr} {keys : List (Option Expr)} {values : List Expr} {ks : List Key} {tv : TrE} {tl : TrA} (hv : Cm X v tv) (h : CmP X pos keys values ks tl) :
    CmP X pos (some (.Constant (.int x) j p) :: keys) (v :: values) (.inl x :: ks) (aC tv tl) := cp_consK (ky := .inl x) pe_int hv h
@[irreducible] def atK (os : Os) (p : Addr) (k : Nat → Prop) : Prop := ∃ n : Nat, os[n]? = some (p, OO.dK []) ∧ k n
theorem atK_mk {os : Os} {p : Addr} {k : Nat → Prop} (n : Nat) (h : os[n]? = some (p, OO.dK [])) (q : k n) : atK os p k := by unfold atK; exact ⟨n, h, q⟩
theorem atK_of {os : Os} {p : Addr} {k : Nat → Prop} (h : atK os p k) : ∃ n : Nat, os[n]? = some (p, OO.dK []) ∧ k n := by unfold atK at h; exact h
def eDisp (ks : List Key) (tl : TrA) : TrE := fun kx env os k => ∀ p, tl kx env ((p, .dK []) :: os) fun ws os2 => atK os2 p fun n => k (.ref p) (os2.set n (p, .dK (ks.zip ws)))
theorem zip_fst {α β : Type} : ∀ (l : List α) (r : List β), ((l.zip r).map (·.1)).Sublist l
  | [], _ => .slnil
  | _ :: _, [] => by rw [List.zip_nil_right]; exact List.nil_sublist _
  | a :: l, b :: r => (zip_fst l r).cons_cons a
theorem mergeK_new : ∀ (more kvs : List (Key × V)), ((kvs ++ more).map (·.1)).Nodup → mergeK kvs more = kvs ++ more
  | [], kvs, _ => (List.append_nil _).symm
  | p :: r, kvs, h => by
    have h1 : ¬ (kvs.any fun kv => decide (kv.1 = p.1)) = true := fun z => by
      obtain ⟨q, hq, e⟩ := List.any_eq_true.mp z
      rw [List.map_append, List.nodup_append] at h
      exact h.2.2 q.1 (List.mem_map.mpr ⟨q, hq, rfl⟩) p.1 (List.mem_map.mpr ⟨p, List.mem_cons_self, rfl⟩) (of_decide_eq_true e)
    have e1 : putK kvs p.1 p.2 = kvs ++ [p] := by
      unfold putK
      rw [if_neg h1]
    show mergeK (putK kvs p.1 p.2) r = _
    rw [e1, mergeK_new r (kvs ++ [p]) (by rw [List.append_assoc]; exact h), List.append_assoc]
    rfl
theorem rpK_zip {K : PySem.W.Frag} {V0 : Hp} : ∀ {ks : List Key} {vs : List V} {ws : List D}, RpA K V0 vs ws → RpK K V0 (ks.zip vs) (ks.zip ws)
  | [], _, _, _ => by rw [List.zip_nil_left, List.zip_nil_left]; exact .nil
  | _ :: _, _, _, .nil => by rw [List.zip_nil_right, List.zip_nil_right]; exact .nil
  | _ :: ks, _, _, .cons h r => .cons h (rpK_zip r)
theorem cm_disp {keys : List (Option Expr)} {values : List Expr} {ks : List Key} {tl : TrA} (h : CmP X pos keys values ks tl) (hall : keys.all (·.isSome) = true) (hl : keys.length = values.length) (h0 : keys ≠ []) (h15 : keys.length ≤ 15) (hk : ks.length ≤ 15) (hnd : ks.Nodup) :
    Cm X (.Dict keys values pos) (eDisp ks tl) := by
  obtain ⟨trs, p, run⟩ := h.ex
  intro kx env os k q F V0 H σ Q W r sr ek c
  refine wE_of (pe_disp p hall hl h0 h15) fun a ha => ?_
  refine run _ _ _ _ (q a) F V0 _ σ _ W (r.addO ha (oo := .dK []) ⟨[], rfl, .nil⟩) sr ek fun V1 os1 H1 vs ws s1 r1 rs hlv q => ?_
  obtain ⟨n, ho, q⟩ := atK_of q
  obtain ⟨_, _, oo, h3, us, rfl, h4⟩ := r1.own _ (List.mem_of_getElem? ho)
  cases h4
  refine ⟨h3, ks.zip vs, rfl, Nat.le_trans (by rw [List.length_zip]; exact Nat.min_le_left _ _) hk, ?_⟩
  have hn : ((([] : List (Key × V)) ++ ks.zip vs).map (·.1)).Nodup := by
    rw [List.nil_append]
    exact hnd.sublist (zip_fst _ _)
  rw [mergeK_new _ [] hn, List.nil_append]
  exact c V1 _ _ (.ref a) _ s1 (r1.mut ho (oo' := .dK (ks.zip ws)) ⟨_, rfl, rpK_zip rs⟩) (.ref a) q
end
/-! ### repr of things that have dicts inside -/
mutual
/-- w, read whole -/
inductive AsP (os : Os) : D → PyData → Prop
  | non : AsP os .non .none
  | bl (b : Bool) : AsP os (.bl b) (.bool b)
  | int (i : Int) : AsP os (.int i) (.int i)
  | str (x : Str) : AsP os (.str x) (.str x)
  | tup {ws : List D} {ds : List PyData} : AsPs os ws ds → AsP os (.tup ws) (.tuple ds)
  | lst {ws : List D} {ds : List PyData} : AsPs os ws ds → AsP os (.lst ws) (.list ds)
  | own {p : Addr} {n : Nat} {ws : List D} {ds : List PyData} : os[n]? = some (p, .lst ws) → AsPs os ws ds → AsP os (.ref p) (.list ds)
  | dK {kvs : List (Key × D)} {es : List (PyData × PyData)} : AsPk os kvs es → AsP os (.dK kvs) (.dict es)
  | ownK {p : Addr} {n : Nat} {kvs : List (Key × D)} {es : List (PyData × PyData)} : os[n]? = some (p, .dK kvs) → AsPk os kvs es → AsP os (.ref p) (.dict es)
inductive AsPs (os : Os) : List D → List PyData → Prop
  | nil : AsPs os [] []
  | cons {w : D} {d : PyData} {ws : List D} {ds : List PyData} : AsP os w d → AsPs os ws ds → AsPs os (w :: ws) (d :: ds)
inductive AsPk (os : Os) : List (Key × D) → List (PyData × PyData) → Prop
  | nil : AsPk os [] []
  | int {i : Int} {w : D} {d : PyData} {ws : List (Key × D)} {ds : List (PyData × PyData)} : AsP os w d → AsPk os ws ds → AsPk os ((.inl i, w) :: ws) ((.int i, d) :: ds)
  | str {x : Str} {w : D} {d : PyData} {ws : List (Key × D)} {ds : List (PyData × PyData)} : AsP os w d → AsPk os ws ds → AsPk os ((.inr x, w) :: ws) ((.str x, d) :: ds)
end
section
variable {X : Cx} {pins : List (Addr × Obj)} {σ : L2.St} {H F V0 : Hp} {s : Shared} {os : Os}
theorem not_sys (I : Inv X pins σ H s) (hb : SysIn X.base) {a : Addr} {o : Obj} {vs : Array Value} {n : Nat} (h : s.heap.get? a = some o) (hd : o.data = .seq vs n) : a ≠ sysModules := fun e => by
  obtain ⟨o2, es, m, h2, h3⟩ := hb
  have h4 := I.bk _ _ h2
  rw [e, h4] at h
  cases h
  rw [hd] at h3
  cases h3
theorem not_mem_app {a : Addr} {l m : List Addr} (h1 : a ∉ l) (h2 : a ∉ m) : a ∉ l ++ m := fun h => (List.mem_append.mp h).elim h1 h2
theorem not_mem_con {a b : Addr} {l : List Addr} (h1 : b ≠ a) (h2 : a ∉ l) : a ∉ b :: l := fun h => (List.mem_cons.mp h).elim (fun e => h1 e.symm) h2
def pkD : Key → PyData
  | .inl i => .int i
  | .inr x => .str x
theorem key_reads {h : Heap} {k : Key} {u : Value} (e : keyIs k u = true) : Reads h u (pkD k) [] := by
  rcases keyIs_shape e with ⟨i, t, rfl, rfl⟩ | ⟨x, t, rfl, rfl⟩
  · exact Reads.int i t
  · exact Reads.str x t
mutual
theorem asP_reads (I : Inv X pins σ H s) (hb : SysIn X.base) (r : Rel X.K F V0 os H) : ∀ {w : D} {d : PyData} {v : V} {u : Value}, AsP os w d → Rp X.K V0 v w → RelV v u → ∃ as, Reads s.heap u d as ∧ sysModules ∉ as
  | _, _, _, _, .non, rv, ru => by cases rv; cases ru; exact ⟨_, Reads.none, fun h => nomatch h⟩
  | _, _, _, _, .bl b, rv, ru => by cases rv; cases ru; exact ⟨_, Reads.bool b, fun h => nomatch h⟩
  | _, _, _, _, .int i, rv, ru => by cases rv; obtain ⟨t, rfl⟩ := ru; exact ⟨_, Reads.int i t, fun h => nomatch h⟩
  | _, _, _, _, .str x, rv, ru => by cases rv; obtain ⟨t, rfl⟩ := ru; exact ⟨_, Reads.str x t, fun h => nomatch h⟩
  | _, _, _, _, .tup h, rv, ru => by
    cases rv with
    | tup h1 h2 =>
      cases ru
      obtain ⟨its, rvs, ⟨o, ho, hc, n, hd⟩, _⟩ := I.tuple (same_sqT r.vi h1)
      obtain ⟨as, q1, q2⟩ := asPs_reads I hb r h h2 rvs
      exact ⟨_, Reads.tuple ho hc hd q1, q2⟩
  | _, _, _, _, .lst h, rv, ru => by
    cases rv with
    | lst h1 h2 =>
      cases ru
      obtain ⟨its, rvs, ⟨o, n, ho, hc, _, hd⟩, _⟩ := I.list (r.vi.seq h1)
      obtain ⟨as, q1, q2⟩ := asPs_reads I hb r h h2 rvs
      exact ⟨_, Reads.list ho hc hd q1, not_mem_con (not_sys I hb ho hd) q2⟩
  | _, _, _, _, .own ho h, rv, ru => by
    obtain rfl := rv.toRef
    cases ru
    obtain ⟨_, _, oo, h3, vs, rfl, h4⟩ := r.own _ (List.mem_of_getElem? ho)
    obtain ⟨its, rvs, ⟨o, n, ho, hc, _, hd⟩, _⟩ := I.list (SqL.of h3)
    obtain ⟨as, q1, q2⟩ := asPs_reads I hb r h h4 rvs
    exact ⟨_, Reads.list ho hc hd q1, not_mem_con (not_sys I hb ho hd) q2⟩
  | _, _, _, _, .dK h, rv, ru => by
    cases rv with
    | dK h1 h2 =>
      cases ru
      obtain ⟨o, h1⟩ := h1
      obtain ⟨z, hs, vs, rel, ob, es, ep, ho, hx, hd, _, pr, _⟩ := dk_rd I.hok (.inr ⟨o, r.vi _ _ h1⟩)
      obtain ⟨as, bs, q1, q2, q3, q4⟩ := asPk_reads I hb r h h2 rel pr
      exact ⟨_, Reads.dict ho hx.1 hd q1 q3, not_mem_app (not_mem_con (fun e => by rw [e] at hs; simp at hs) q2) q4⟩
  | _, _, _, _, .ownK ho h, rv, ru => by
    obtain rfl := rv.toRef
    cases ru
    obtain ⟨_, _, oo, h3, vs, rfl, h4⟩ := r.own _ (List.mem_of_getElem? ho)
    obtain ⟨z, hs, vs, rel, ob, es, ep, ho, hx, hd, _, pr, _⟩ := dk_rd I.hok (.inl h3)
    obtain ⟨as, bs, q1, q2, q3, q4⟩ := asPk_reads I hb r h h4 rel pr
    exact ⟨_, Reads.dict ho hx.1 hd q1 q3, not_mem_app (not_mem_con (fun e => by rw [e] at hs; simp at hs) q2) q4⟩
theorem asPs_reads (I : Inv X pins σ H s) (hb : SysIn X.base) (r : Rel X.K F V0 os H) : ∀ {ws : List D} {ds : List PyData} {vs : List V} {us : List Value}, AsPs os ws ds → RpA X.K V0 vs ws → Vals vs us → ∃ as, ReadsAll s.heap us ds as ∧ sysModules ∉ as
  | _, _, _, _, .nil, rv, ru => by cases rv; cases ru; exact ⟨_, ReadsAll.nil, fun h => nomatch h⟩
  | _, _, _, _, .cons h1 h2, rv, ru => by
    cases rv with
    | cons a b =>
      cases ru with
      | cons c d =>
        obtain ⟨as, q1, q2⟩ := asP_reads I hb r h1 a c
        obtain ⟨bs, q3, q4⟩ := asPs_reads I hb r h2 b d
        exact ⟨_, ReadsAll.cons q1 q3, not_mem_app q2 q4⟩
theorem asPk_reads (I : Inv X pins σ H s) (hb : SysIn X.base) (r : Rel X.K F V0 os H) : ∀ {kvs : List (Key × D)} {es : List (PyData × PyData)} {vs : List (Key × V)} {ws : List (Key × Value)} {ents : List DictEntry}, AsPk os kvs es → RpK X.K V0 vs kvs → KV vs ws → Pairs (mixKind X.prog X.w) ents ws →
    ∃ as bs, ReadsAll s.heap (ents.map (·.key)) (es.map (·.1)) as ∧ sysModules ∉ as ∧ ReadsAll s.heap (ents.map (·.val)) (es.map (·.2)) bs ∧ sysModules ∉ bs
  | _, _, _, _, _, .nil, rv, ru, pr => by cases rv; cases ru; cases pr; exact ⟨_, _, ReadsAll.nil, (fun h => nomatch h), ReadsAll.nil, fun h => nomatch h⟩
  | _, _, _, _, _, .int h1 h2, rv, ru, pr => by
    cases rv with
    | cons a b =>
      cases ru with
      | cons c d =>
        cases pr with
        | cons e1 e2 e3 =>
          obtain ⟨as, bs, q1, q2, q3, q4⟩ := asPk_reads I hb r h2 b d e3
          obtain ⟨ds, q5, q6⟩ := asP_reads I hb r h1 a c.2
          have rk := key_reads (h := s.heap) e1
          rw [← c.1] at rk
          rw [← e2] at q5
          exact ⟨_, _, ReadsAll.cons rk q1, not_mem_app (fun h => nomatch h) q2, ReadsAll.cons q5 q3, not_mem_app q6 q4⟩
  | _, _, _, _, _, .str h1 h2, rv, ru, pr => by
    cases rv with
    | cons a b =>
      cases ru with
      | cons c d =>
        cases pr with
        | cons e1 e2 e3 =>
          obtain ⟨as, bs, q1, q2, q3, q4⟩ := asPk_reads I hb r h2 b d e3
          obtain ⟨ds, q5, q6⟩ := asP_reads I hb r h1 a c.2
          have rk := key_reads (h := s.heap) e1
          rw [← c.1] at rk
          rw [← e2] at q5
          exact ⟨_, _, ReadsAll.cons rk q1, not_mem_app (fun h => nomatch h) q2, ReadsAll.cons q5 q3, not_mem_app q6 q4⟩
end
end
/-! texts of such things are not too long -/
structure Tx (d : PyData) (n N : Nat) : Prop where
  s : d.showable = true
  p : d.depth ≤ n
  b : d.shown.length ≤ N
structure TxA (ds : List PyData) (n N : Nat) : Prop where
  s : PyData.showableAll ds = true
  p : PyData.depthAll ds ≤ n
  b : ((PyData.shownAll ds).map (·.length)).sum + 2 * (PyData.shownAll ds).length ≤ N
def isSeqP : PyData → Bool
  | .list _ => true
  | .tuple _ => true
  | .dict _ => true
  | _ => false
def cReprP : TrC := fun ws os k => match ws with
  | [w] => ∃ d, AsP os w d ∧ isSeqP d = true ∧ d.showable = true ∧ d.depth ≤ 60 ∧ d.shown.length ≤ sizeLine ∧ k (.str d.shown) os
  | _ => False
theorem asP_ref {K : PySem.W.Frag} {H : Hp} {os : Os} {w : D} {d : PyData} {v : V} (h : AsP os w d) (hd : isSeqP d = true) (rv : Rp K H v w) : ∃ a, v = .ref a := by
  cases h with
  | tup _ => cases rv; exact ⟨_, rfl⟩
  | lst _ => cases rv; exact ⟨_, rfl⟩
  | own _ _ => exact ⟨_, rv.toRef⟩
  | dK _ => cases rv; exact ⟨_, rfl⟩
  | ownK _ _ => exact ⟨_, rv.toRef⟩
  | non => cases hd
  | bl _ => cases hd
  | int _ => cases hd
  | str _ => cases hd
theorem cmc_reprP {X : Cx} {lvl : Nat} (hg : X.A.guards = some []) (hb : SysIn X.base) (hr : Room lvl X.A) : CmC X (.builtin "repr") cReprP := by
  intro ws os k h
  unfold cReprP at h
  split at h
  · obtain ⟨d, h1, h2, h3, h4, h5, q⟩ := h
    intro F V0 H vs Q r rs c pins s σ us I rvs
    obtain ⟨v, rfl, rv⟩ := rs.one
    obtain ⟨u, rfl, ru⟩ := rvs.one
    obtain ⟨a, rfl⟩ := asP_ref h1 h2 rv
    obtain ⟨as, rd, hn⟩ := asP_reads I hb r h1 rv ru
    cases ru
    have := hr.un
    exact repr_of_reads' rd h3 (fun _ => hn) hg (by omega) (fun _ _ e => e) (fun h2 u2 tk hk => ⟨.str _, H, I.kept hk, ⟨_, rfl⟩, c V0 os H _ _ (Same.refl _) r rwS q⟩) h5
  · exact h.elim
end EV

set_option Elab.async false
set_option linter.all false
set_option maxRecDepth 100000
/-! E21: chains as values, order of texts, max(.., default=..), dicts of the module. -/
namespace EV
open PySem PySem.Spec PyProof.Rows L2
section
variable {X : Cx} {os : Os} {k : D → Os → Prop} {env : DEnv} {pos p kp : Pos} {a b c d e : Expr} {ta tb tc td te : TrE}
/-! chains as values -/
def eChain (o o' : TrO) (ta tb tc : TrE) : TrE := fun kx env os k => ta kx env os fun x os1 => tb kx env os1 fun y os2 => o x y os2 fun w os3 => onB (fun b1 os3 =>
  (b1 = true → tc kx env os3 fun z os4 => o' y z os4 k) ∧ (b1 = false → k (.bl false) os3)) w os3
theorem cm_chain {op op' : CmpOp} {o o' : TrO} (ho : CmO X (compareOp op) o) (ho' : CmO X (compareOp op') o') (ha : Cm X a ta) (hb : Cm X b tb) (hc : Cm X c tc)
    (hm : lastMarks [op, op'] [b, c] = false) : Cm X (.Compare a [op, op'] [b, c] pos) (eChain o o' ta tb tc) := by
  intro kx env os k h F V0 H σ Q W r sr ek cc
  refine wE_of (pe_chain (r := wO X (compareOp op)) (r' := wO X (compareOp op')) wO_op wO_op wE_pe wE_pe wE_pe hm) ?_
  refine ha _ _ _ _ h F V0 H σ _ W r sr ek fun V1 os1 H1 v x s1 r1 rx hx => ?_
  refine hb _ _ _ _ hx F V1 H1 σ _ W r1 (sr.mono s1) (ek.mono s1) fun V2 os2 H2 u y s2 r2 ry hy => ?_
  refine ho _ _ _ _ hy F V2 H2 v u _ r2 (rx.mono s2) ry fun V3 os3 H3 z w s3 r3 rw' q => ?_
  obtain ⟨bo, e, q1, q2⟩ := onB_bl q
  subst e
  cases rw'
  refine ⟨bo, rfl, ?_⟩
  cases bo with
  | false => exact iteF (cc V3 os3 H3 _ _ ((s1.trans s2).trans s3) r3 (.bl false) (q2 rfl))
  | true =>
    refine iteT ?_
    refine hc _ _ _ _ (q1 rfl) F V3 H3 σ _ W r3 (sr.mono ((s1.trans s2).trans s3)) (ek.mono ((s1.trans s2).trans s3)) fun V4 os4 H4 v4 z4 s4 r4 rz hz => ?_
    exact ho' _ _ _ _ hz F V4 H4 u v4 _ r4 (ry.mono (s3.trans s4)) rz fun V5 os5 H5 z5 w5 s5 r5 rw5 q => cc V5 os5 H5 z5 w5 ((((s1.trans s2).trans s3).trans s4).trans s5) r5 rw5 q
def tChain3 (r r' r'' : R2) (ta tb tc td : TE) : TE := fun σ H Q => ta σ H fun x H1 => tb σ H1 fun y H2 => r x y H2 fun z H3 => ∃ k, z = .bl k ∧
  (if k = true then tc σ H3 fun u H4 => r' y u H4 fun z2 H5 => ∃ k2, z2 = .bl k2 ∧ (if k2 = true then td σ H5 fun w' H6 => r'' u w' H6 Q else Q (.bl false) H5) else Q (.bl false) H3)
theorem pe_chain3 {op op' op'' : CmpOp} {r r' r'' : R2} {sa sb sc sd : TE} (ho : OpR X (compareOp op) r) (ho' : OpR X (compareOp op') r') (ho'' : OpR X (compareOp op'') r'') (ha : PE X a sa) (hb : PE X b sb) (hc : PE X c sc) (hd : PE X d sd)
    (hm : lastMarks [op, op', op''] [b, c, d] = false) : PE X (.Compare a [op, op', op''] [b, c, d] pos) (tChain3 r r' r'' sa sb sc sd) := by
  refine ⟨fun pins s σ H Q I h => ?_⟩
  refine Compare_chain (thn (ha.run pins s σ H _ I h) fun v s1 ⟨x, H1, I1, r1, q1⟩ => chain_link (thn (hb.run pins s1 σ H1 _ I1 q1) fun u s2 ⟨y, H2, I2, r2, q2⟩ =>
    thn (ho pins s2 σ H2 x y v u _ I2 r1 r2 q2) fun d s3 ⟨z, H3, I3, r3, k, e, q3⟩ => ?_)) hm
  subst e
  cases r3
  refine wpAny_truthy_bool ?_
  cases k with
  | false => exact ite_ff ⟨.bl false, H3, I3, rfl, q3⟩
  | true =>
    refine ite_tt (chain_link (thn (hc.run pins s3 σ H3 _ I3 q3) fun u2 s4 ⟨y2, H4, I4, r4, q4⟩ => thn (ho' pins s4 σ H4 y y2 u u2 _ I4 r2 r4 q4) fun d2 s5 ⟨z2, H5, I5, r5, k2, e2, q5⟩ => ?_))
    subst e2
    cases r5
    refine wpAny_truthy_bool ?_
    cases k2 with
    | false => exact ite_ff ⟨.bl false, H5, I5, rfl, q5⟩
    | true => exact ite_tt (chain_last (thn (hd.run pins s5 σ H5 _ I5 q5) fun w' s6 ⟨z', H6, I6, r6, q6⟩ => ho'' pins s6 σ H6 y2 z' u2 w' Q I6 r4 r6 q6))
def eChain3 (o o' o'' : TrO) (ta tb tc td : TrE) : TrE := fun kx env os k => ta kx env os fun x os1 => tb kx env os1 fun y os2 => o x y os2 fun w os3 => onB (fun b1 os3 =>
  (b1 = true → tc kx env os3 fun z os4 => o' y z os4 fun w2 os5 => onB (fun b2 os5 => (b2 = true → td kx env os5 fun z2 os6 => o'' z z2 os6 k) ∧ (b2 = false → k (.bl false) os5)) w2 os5) ∧ (b1 = false → k (.bl false) os3)) w os3
theorem cm_chain3 {op op' op'' : CmpOp} {o o' o'' : TrO} (ho : CmO X (compareOp op) o) (ho' : CmO X (compareOp op') o') (ho'' : CmO X (compareOp op'') o'') (ha : Cm X a ta) (hb : Cm X b tb) (hc : Cm X c tc) (hd : Cm X d td)
    (hm : lastMarks [op, op', op''] [b, c, d] = false) : Cm X (.Compare a [op, op', op''] [b, c, d] pos) (eChain3 o o' o'' ta tb tc td) := by
  intro kx env os k h F V0 H σ Q W r sr ek cc
  refine wE_of (pe_chain3 (r := wO X (compareOp op)) (r' := wO X (compareOp op')) (r'' := wO X (compareOp op'')) wO_op wO_op wO_op wE_pe wE_pe wE_pe wE_pe hm) ?_
  refine ha _ _ _ _ h F V0 H σ _ W r sr ek fun V1 os1 H1 v x s1 r1 rx hx => ?_
  refine hb _ _ _ _ hx F V1 H1 σ _ W r1 (sr.mono s1) (ek.mono s1) fun V2 os2 H2 u y s2 r2 ry hy => ?_
  refine ho _ _ _ _ hy F V2 H2 v u _ r2 (rx.mono s2) ry fun V3 os3 H3 z w s3 r3 rw' q => ?_
  obtain ⟨bo, e, q1, q2⟩ := onB_bl q
  subst e
  cases rw'
  have s13 := (s1.trans s2).trans s3
  refine ⟨bo, rfl, ?_⟩
  cases bo with
  | false => exact iteF (cc V3 os3 H3 _ _ s13 r3 (.bl false) (q2 rfl))
  | true =>
    refine iteT ?_
    refine hc _ _ _ _ (q1 rfl) F V3 H3 σ _ W r3 (sr.mono s13) (ek.mono s13) fun V4 os4 H4 v4 z4 s4 r4 rz hz => ?_
    refine ho' _ _ _ _ hz F V4 H4 u v4 _ r4 (ry.mono (s3.trans s4)) rz fun V5 os5 H5 z5 w5 s5 r5 rw5 q => ?_
    obtain ⟨bo2, e2, q3, q4⟩ := onB_bl q
    subst e2
    cases rw5
    have s15 := (s13.trans s4).trans s5
    refine ⟨bo2, rfl, ?_⟩
    cases bo2 with
    | false => exact iteF (cc V5 os5 H5 _ _ s15 r5 (.bl false) (q4 rfl))
    | true =>
      refine iteT ?_
      refine hd _ _ _ _ (q3 rfl) F V5 H5 σ _ W r5 (sr.mono s15) (ek.mono s15) fun V6 os6 H6 v6 z6 s6 r6 r6z hz6 => ?_
      exact ho'' _ _ _ _ hz6 F V6 H6 v4 v6 _ r6 (rz.mono (s5.trans s6)) r6z fun V7 os7 H7 z7 w7 s7 r7 rw7 q => cc V7 os7 H7 z7 w7 ((s15.trans s6).trans s7) r7 rw7 q
/-! order of texts -/
def oLeS : TrO := fun x y os k => match x, y with
  | .str i, .str j => k (.bl (!decide (j.cps.toList < i.cps.toList))) os
  | _, _ => False
def oLtS : TrO := fun x y os k => match x, y with
  | .str i, .str j => k (.bl (decide (i.cps.toList < j.cps.toList))) os
  | _, _ => False
theorem cmo_leS : CmO X (compareOp .LtE) oLeS := by
  intro x y os k h
  unfold oLeS at h
  split at h
  · refine JO.mk op_le_str fun F V0 H v u Q r rx ry c => ?_
    cases rx
    cases ry
    exact ⟨_, _, rfl, rfl, c V0 os H _ _ (Same.refl _) r (.bl _) h⟩
  · exact h.elim
theorem cmo_ltS : CmO X (compareOp .Lt) oLtS := by
  intro x y os k h
  unfold oLtS at h
  split at h
  · refine JO.mk op_lt_str fun F V0 H v u Q r rx ry c => ?_
    cases rx
    cases ry
    exact ⟨_, _, rfl, rfl, c V0 os H _ _ (Same.refl _) r (.bl _) h⟩
  · exact h.elim
/-! max(a list of ints, default=d) -/
def mxI (n : Int) (r : List Int) : Int := r.foldl (fun a b => if a < b then b else a) n
theorem holdAll_ints {h : Heap} : ∀ {ns : List Int} {us : List Value}, Vals (ns.map V.int) us → PySem.W.HoldAll h us ns
  | [], _, r => by cases r; exact PySem.W.HoldAll.nil
  | n :: ns, _, r => by
    cases r with
    | cons a b =>
      obtain ⟨t, rfl⟩ := a
      exact PySem.W.HoldAll.cons ⟨_, Reads.int n t⟩ (holdAll_ints b)
theorem maxOf_int (n : Int) (r : List Int) : PySem.W.maxOf n r = mxI n r := by
  unfold PySem.W.maxOf mxI
  refine congrArg (fun f => List.foldl f n r) (funext fun a => funext fun b => ?_)
  by_cases h : a < b
  · rw [if_pos h]
    exact if_pos (by show decide (a < b) = true; exact decide_eq_true h)
  · rw [if_neg h]
    exact if_neg (by show ¬ decide (a < b) = true; rw [decide_eq_false h]; exact Bool.false_ne_true)
def tMaxD (K : PySem.W.Frag) (sa sd : TE) : TE := fun σ H Q => sa σ H fun v H1 => sd σ H1 fun u H2 => ∃ (p : Addr) (ns : List Int), v = .ref p ∧ SqL K H2 p (ns.map V.int) ∧ (ns = [] → Q u H2) ∧ ∀ n r, ns = n :: r → Q (.int (mxI n r)) H2
theorem pe_maxD {lvl : Nat} {sa sd : TE} (hc : X.calm = true) (hr : Room lvl X.A) (hg : Gl X "max") (hm : X.mg "max" = none) (ha : PE X e sa) (hd : PE X d sd)
    (hs : starEach [e] X.env = (false, eval e X.env) :: starEach [] X.env) (hpl : (backTo pos (starEach [e] X.env)).any (·.1) = false) :
    PE X (.Call (.Name "max" p) [e] [⟨some "default", d, kp⟩] pos) (tMaxD X.K sa sd) := by
  refine ⟨fun pins s σ H Q I h => ?_⟩
  refine wpAny_Call_Name_kw (ld_blt I hg hm (show bootBuiltins (Str.ofString "max") = some (.builtin "max") by decide +kernel) ?_ (by decide +kernel) (by decide +kernel))
  refine PyProof.Rows.callWith_kw ?_ (by rw [hs]; rfl) hpl rfl rfl
  rw [hs]
  refine Calls.spliced_cons (thn (ha.run pins s σ H _ I h) fun u s1 ⟨v, H1, I1, r1, q1⟩ => ?_)
  refine Calls.spliced_nil ?_
  refine PyProof.Rows.kws_cons (thn (hd.run pins s1 σ H1 _ I1 q1) fun u2 s2 ⟨v2, H2, I2, r2, q2⟩ => ?_)
  refine PyProof.Rows.kws_nil ?_
  obtain ⟨q, ns, rfl, hl, h0, h1⟩ := q2
  cases r1
  obtain ⟨its, rv, pl, hz⟩ := I2.list hl
  refine PySem.W.max_list_datum_default (α := Int) (xs := ns) (I2.ok.hd hc) pl.isList (by simpa using holdAll_ints rv) ?_ (fun e hp tk hk => ⟨v2, H2, I2.kept hk, r2, h0 e⟩) fun n r i w hp tk e _ ⟨as, hh⟩ hk => ?_
  · have := hr.un
    show X.A.units + 1 + _ < cLine
    simp only [PySem.W.Datum.depth]
    omega
  · refine ⟨.int (mxI n r), H2, I2.kept hk, ?_, h1 n r e⟩
    rw [maxOf_int] at hh
    cases hh with
    | int _ t => exact ⟨t, rfl⟩
def eMaxD (ta td : TrE) : TrE := fun kx env os k => ta kx env os fun w os1 => td kx env os1 fun y os2 => ∃ ns : List Int, LstOf os2 w (ns.map D.int) ∧ match ns with
  | [] => k y os2
  | n :: r => k (.int (mxI n r)) os2
theorem cm_maxD {lvl : Nat} (hc : X.calm = true) (hr : Room lvl X.A) (hg : Gl X "max") (hm : X.mg "max" = none) (ha : Cm X e ta) (hd : Cm X d td)
    (hs : starEach [e] X.env = (false, eval e X.env) :: starEach [] X.env) (hpl : (backTo pos (starEach [e] X.env)).any (·.1) = false) :
    Cm X (.Call (.Name "max" p) [e] [⟨some "default", d, kp⟩] pos) (eMaxD ta td) := by
  intro kx env os k q F V0 H σ Q W r sr ek c
  refine wE_of (pe_maxD hc hr hg hm wE_pe wE_pe hs hpl) ?_
  refine ha _ _ _ _ q F V0 H σ _ W r sr ek fun V1 os1 H1 v w s1 r1 rv q => ?_
  refine hd _ _ _ _ q F V1 H1 σ _ W r1 (sr.mono s1) (ek.mono s1) fun V2 os2 H2 u y s2 r2 ru q => ?_
  obtain ⟨ns, hl, q⟩ := q
  obtain ⟨a, vs, rfl, hsq, ra⟩ := lstOf_of r2 (rv.mono s2) hl
  obtain rfl : vs = ns.map V.int := rpA_int ra
  refine ⟨a, ns, rfl, hsq, fun e => ?_, fun n r e => ?_⟩
  · subst e
    exact c V2 os2 H2 u y (s1.trans s2) r2 ru q
  · subst e
    exact c V2 os2 H2 _ _ (s1.trans s2) r2 (.int _) q
/-! a dict of the module with text keys -/
def keyNames (l : List DictEntry) : List Str := l.map fun e => match e.key with
  | .str x _ => x
  | _ => Str.empty
structure GDict (K : PySem.W.Frag) (w : World) (d : Addr) (ks : List Str) : Prop where
  ex : ∃ es n, KDict K w d es n ∧ keyNames es.toList = ks
theorem nsIn_keys {K : PySem.W.Frag} {w : World} {d : Addr} {es : Array DictEntry} {n : Nat} (D : KDict K w d es n) (z : Str) : ∃ r, PySem.W.nsIn K d z = some r ∧ r.isSome = decide (z ∈ keyNames es.toList) := by
  unfold PySem.W.nsIn
  rw [D.at_]
  dsimp only
  have key : ∀ l : List DictEntry, PySem.W.KeysLit w.params l → (l.any (·.refKey)) = false ∧ (l.find? (·.key.isStr z)).isSome = decide (z ∈ keyNames l) := fun l => by
    induction l with
    | nil => intro _; exact ⟨rfl, by simp [keyNames]⟩
    | cons e l ih =>
      rintro ⟨⟨x, t, hk, hh⟩, hr⟩
      obtain ⟨i1, i2⟩ := ih hr
      refine ⟨?_, ?_⟩
      · rw [List.any_cons, i1, Bool.or_false]
        unfold DictEntry.refKey
        rw [hk]
      · have e1 : keyNames (e :: l) = x :: keyNames l := by
          unfold keyNames
          rw [List.map_cons, hk]
        rw [e1, List.find?_cons]
        have e2 : e.key.isStr z = decide (x = z) := by
          rw [hk]
          show (x == z) = decide (x = z)
          exact PySem.W.beq_decide x z
        rw [e2]
        by_cases h : x = z
        · simp [h]
        · have h2 : ¬ z = x := fun q => h q.symm
          rw [decide_eq_false h]
          simp only [List.mem_cons, h2, false_or]
          exact i2
  obtain ⟨h1, h2⟩ := key _ D.lit
  cases hf : es.toList.find? (·.key.isStr z) with
  | some e => exact ⟨some e.val, rfl, by rw [← h2, hf]; rfl⟩
  | none => exact ⟨none, by rw [h1]; rfl, by rw [← h2, hf]; rfl⟩
def oInC (d : Addr) (ks : List Str) : TrO := fun x y os k => match x, y with
  | .str z, .ref a => a = d ∧ k (.bl (decide (z ∈ ks))) os
  | _, _ => False
theorem cmo_inC {d : Addr} {ks : List Str} (G : GDict X.K X.w d ks) : CmO X (compareOp .In) (oInC d ks) := by
  intro x y os k h
  unfold oInC at h
  split at h
  · rename_i z a
    obtain ⟨e, q⟩ := h
    subst e
    obtain ⟨es, n, D, hk⟩ := G.ex
    refine JO.mk (op_in_kd D) fun F V0 H v u Q r rx ry c => ?_
    cases rx
    obtain rfl := ry.toRef
    obtain ⟨r2, h1, h2⟩ := nsIn_keys D z
    refine ⟨z, r2, rfl, rfl, h1, ?_⟩
    rw [h2, hk]
    exact c V0 os H _ _ (Same.refl _) r (.bl _) q
  · exact h.elim
end
end EV

set_option Elab.async false
set_option linter.all false
set_option maxRecDepth 100000
/-! E22: name = {.. for ..} on one line, where a name of the block is a cell. -/
namespace EV
open PySem PySem.Spec PyProof.Rows L2
section
variable {X : Cx}
theorem sw_trueD {kx vx : Expr} {gs : List Comprehension} {scope : Scope} {pos py : Pos} {y : Str} {l : Nat} {env : Env} (h1 : env.scope.kind = .function) (h2 : env.scope.names.lookup y = some .local) (h3 : (py.line == pos.line) = true)
    (h4 : (scope.names.any fun (n, k) => n == y && (k == .local || k == .cell)) = false) : swapsWith (.DictComp kx vx gs scope pos) (some (.Name y py)) l env = pure true := by
  have e1 : env.kindOf y = some .local := h2
  have e2 : env.blockKind = .function := by
    unfold Env.blockKind
    rw [h1]
    rfl
  unfold swapsWith
  simp only [e2, e1, h4, Expr.pos, h3]
  rfl
theorem ps_setDc {i : Nat} {y : Str} {py : Pos} {kx vx tg iter : Expr} {ifs : List Expr} {scope : Scope} {own : List (Str × Nat)} {pos spos : Pos} {wi : TI} {g : TG} {tt : TT} {tk tv : TE}
    (hc : X.calm = true) (hN : X.N.Nodup) (hy : X.N[i]? = some y) (hyl : X.env.scope.names.lookup y = some .local) (hsw : swapsWith (.DictComp kx vx [⟨tg, iter, ifs, 0⟩] scope pos) (some (.Name y py)) spos.line X.env = pure true)
    (hi : PI X tg iter wi) (ok : BlkOk X.N X.env.scope scope own) (hg : ∀ (s : Shared) (H : Hp) (C : Addr) (cl : List (Str × Addr)) (fp : List Addr), PG (Bk X scope s H C cl fp) tg g)
    (ht : ∀ (s : Shared) (H : Hp) (C : Addr) (cl : List (Str × Addr)) (fp : List Addr), PTs (Bk X scope s H C cl fp) ifs tt) (hk : ∀ (s : Shared) (H : Hp) (C : Addr) (cl : List (Str × Addr)) (fp : List Addr), PE (Bk X scope s H C cl fp) kx tk)
    (he : ∀ (s : Shared) (H : Hp) (C : Addr) (cl : List (Str × Addr)) (fp : List Addr), PE (Bk X scope s H C cl fp) vx tv) (hs : ∀ x, foldedSetIterable iter X.env x = pure x) :
    PS X (.Assign [.Name y py] (.DictComp kx vx [⟨tg, iter, ifs, 0⟩] scope pos) spos) (tAsg (tDc wi g tt tk tv (own.map (·.2))) (L2.gName i)) := by
  refine ⟨fun pins s σ H D I h => ?_⟩
  rw [exec_Assign_Name_used _ _ _ _ hsw]
  refine wpAny_bind (wpAny_standAt (wpAny_bind ?_))
  show wpAny _ X.A (do let _ ← comprehension (.DictComp kx vx [⟨tg, iter, ifs, 0⟩] scope pos) scope X.env (firstIterPos [⟨tg, iter, ifs, 0⟩] pos) newDict false (eval iter X.env) (some (assign (.Name y py) X.env))) _ _ s
  have h2 : tDc wi g tt tk tv (own.map (·.2)) σ H (fun x H1 => L2.gName i x σ H1 D.nx) := h
  refine wpAny_bind (thn (dc_core (Qf := fun _ s2 => SP X pins D .next s2) hc hN I hi ok hg ht hk he hs h2 fun L C s1 m H1 I1 q hn f => ?_) fun _ s2 hq => wpAny_pure (wpAny_pure hq))
  show wpAny _ _ (assign (.Name y py) X.env (.ref L)) _ _ _
  obtain ⟨f0, f1, f2, f3, f4, f5⟩ := f
  refine wpAny_assign_Name (store_ok2 (v := V.ref L) I1 hN hy (.inl hyl) rfl (fun s2 I2 ⟨a, sb, ha⟩ => ?_) (.inr hyl))
  have apart : C ≠ a := fun e => ha.elim (fun z => f1 (e.trans z)) fun z => f4 y a z e.symm
  exact ⟨m, hn.sameBut sb apart, fun h3 sb3 => ⟨_, H1, I2.turned (t' := s2.toks) (fun b o hb e => (sb3.2 b hb).trans e) f0 f1 f3 f4 f5, q⟩⟩
theorem c1_setDc {kxe vxe iter tge : Expr} {ifs : List Expr} {scope : Scope} {own : List (Str × Nat)} {pos spos py : Pos} {g : TG} {bn : TrB} {tt : TrT} {tek tev : TrE} {ti : TrI} {iy : Nat} {y : Str} (hc : X.calm = true) (hN : X.N.Nodup) (ok : BlkOk X.N X.env.scope scope own) (hb : BindOk X.K (own.map (·.2)) g bn)
    (hg : ∀ s H C cl fp, PG (Bk X scope s H C cl fp) tge g) (hi : CmI X tge iter ti) (ht : ∀ s H C cl fp, CmTs (Bk X scope s H C cl fp) ifs tt) (hek : ∀ s H C cl fp, Cm (Bk X scope s H C cl fp) kxe tek) (he : ∀ s H C cl fp, Cm (Bk X scope s H C cl fp) vxe tev)
    (hy : X.N[iy]? = some y) (hyl : X.env.scope.names.lookup y = some .local) (hsw : swapsWith (.DictComp kxe vxe [⟨tge, iter, ifs, 0⟩] scope pos) (some (.Name y py)) spos.line X.env = pure true)
    (hs : ∀ x, foldedSetIterable iter X.env x = pure x) : CmS X (.Assign [.Name y py] (.DictComp kxe vxe [⟨tge, iter, ifs, 0⟩] scope pos) spos) (sSet iy (eDc (own.map (·.2)) bn ti tt tek tev)) := by
  intro N R env os h F V0 H σ D W r sr ek
  refine wS1_of (ps_setDc (X := X) (i := iy) (own := own) (wi := wPI X tge iter) (g := g) (tt := fun σ H Q => ∀ s0 H0 C cl fp, wTs (Bk X scope s0 H0 C cl fp) ifs σ H Q) (tk := fun σ H Q => ∀ s0 H0 C cl fp, wE (Bk X scope s0 H0 C cl fp) kxe σ H Q) (tv := fun σ H Q => ∀ s0 H0 C cl fp, wE (Bk X scope s0 H0 C cl fp) vxe σ H Q) hc hN hy hyl hsw wPI_pi ok
    hg (fun s0 H0 C cl fp => ⟨fun pins s σ H Q I q => wTs_pts.run pins s σ H Q I (q s0 H0 C cl fp)⟩) (fun s0 H0 C cl fp => ⟨fun pins s σ H Q I q => wE_pe.run pins s σ H Q I (q s0 H0 C cl fp)⟩) (fun s0 H0 C cl fp => ⟨fun pins s σ H Q I q => wE_pe.run pins s σ H Q I (q s0 H0 C cl fp)⟩) hs) ?_
  unfold sSet eDc at h
  simp only [dcX_eq] at h
  refine tdc_of (k := fun w os1 => N (setE env iy (some w)) os1) hb hi ht hek he h r sr (ek.xk sr) fun V1 os1 H1 v w s1 r1 rv q => ?_
  exact ek.nx V1 os1 H1 _ _ s1 r1 (sr_setE (sr.mono s1) rv iy) q
end
end EV

set_option Elab.async false
set_option linter.all false
set_option maxRecDepth 100000
/-! E23: an owned dict in a local becomes data ahead of a statement. -/
namespace EV
open PySem PySem.Spec PyProof.Rows L2
theorem wS1_lock {X : Cx} {st : Stmt} {D : Ends} {σ : L2.St} {H : Hp} {d : Addr} {u} (hd : H d = some u) (mu : Mut (some u)) (h : ∀ od, wS1 X st D σ (upd H d (.frz od u))) : wS1 X st D σ H := by
  unfold wS1 at h ⊢
  intro pins s I
  obtain ⟨od, I2⟩ := I.lock hd mu
  exact h od pins s I2
def sFrzV (i : Nat) (t : TrS) : TrS := fun N R env os => match env[i]? with
  | some (some (.ref a)) => ∃ (n : Nat) (kvs : List (Key × D)), os[n]? = some (a, OO.dK kvs) ∧ t N R (env.set i (some (.dK kvs))) (os.eraseIdx n)
  | _ => t N R env os
theorem SR.frz {K : PySem.W.Frag} {V0 : Hp} {σ : L2.St} {env : DEnv} {i : Nat} {v : V} {w : D} (h : SR K V0 σ env) (hv : σ[i]? = some (some v)) (rv : Rp K V0 v w) : SR K V0 σ (env.set i (some w)) := by
  refine ⟨by rw [List.length_set]; exact h.1, fun j u q => ?_⟩
  by_cases e : i = j
  · subst e
    have hl : i < env.length := by
      rw [← h.1]
      exact (List.getElem?_eq_some_iff.mp hv).1
    rw [List.getElem?_set_self hl] at q
    cases q
    exact ⟨v, hv, rv⟩
  · rw [List.getElem?_set_ne e] at q
    exact h.2 j u q
theorem c1_frzV {X : Cx} {st : Stmt} {t : TrS} {i : Nat} (h : CmS X st t) : CmS X st (sFrzV i t) := by
  intro N R env os q F V0 H σ D W r sr ek
  unfold sFrzV at q
  split at q
  · rename_i a he
    obtain ⟨n, kvs, ho, q⟩ := q
    obtain ⟨v, hv, rv⟩ := sr.2 i _ he
    obtain rfl := rv.toRef
    obtain ⟨vs, h3, fz⟩ := r.freezeD ho
    refine wS1_lock h3 True.intro fun od => ?_
    obtain ⟨V1, s1, r1, rp⟩ := fz od
    exact h _ _ _ _ q F V1 _ σ D W r1 ((sr.mono s1).frz hv rp) (ek.mono s1)
  · exact h _ _ _ _ q F V0 H σ D W r sr ek
end EV

set_option Elab.async false
set_option linter.all false
set_option maxRecDepth 100000
/-! E24: a text times a number. -/
namespace EV
open PySem PySem.Spec PyProof.Rows L2
theorem op_mulS {X : Cx} : OpR X (binaryOp .Mult) (fun x y H Q => ∃ a n, x = V.str a ∧ y = V.int n ∧ PySem.MulOk a n ∧ Q (.str (Txt.mul a n)) H) := by
  intro pins s σ H x y v u Q I rx ry h
  obtain ⟨i, j, rfl, rfl, hz, q⟩ := h
  obtain ⟨t, rfl⟩ := rx
  obtain ⟨t', rfl⟩ := ry
  exact SB.mul hz (fun t' tk => ⟨.str (Txt.mul i j), H, I.tok _, ⟨_, rfl⟩, q⟩)
/-- a short text, not too often -/
def oMulS : TrO := fun x y os k => match x, y with
  | .str a, .int n => (a.length ≤ 4000 ∧ -4000 ≤ n ∧ n ≤ 4000) ∧ k (.str (Txt.mul a n)) os
  | _, _ => False
theorem cmo_mulS {X : Cx} : CmO X (binaryOp .Mult) oMulS := by
  intro x y os k h
  unfold oMulS at h
  split at h
  · obtain ⟨⟨h1, h2, h3⟩, h⟩ := h
    refine JO.mk op_mulS fun F V0 H v u Q r rx ry c => ?_
    cases rx; cases ry
    exact ⟨_, _, rfl, rfl, mulOk_of 4000 4000 h1 (by omega) (by omega) (by decide) (by decide), c V0 os H _ _ (Same.refl _) r rwS h⟩
  · exact h.elim
end EV

set_option Elab.async false
set_option linter.all false
set_option maxRecDepth 100000
/-! E25: xs.insert(i, x); sorted as an owned list. -/
namespace EV
open PySem PySem.Spec PyProof.Rows L2
section
variable {X : Cx} {kx : Kx} {os : Os} {env : DEnv} {o e e2 : Expr} {apos cpos : Pos} {to te te2 : TrE}
def eIns (to te te2 : TrE) : TrE := fun kx env os k => to kx env os fun w os1 => onL w os1 fun p => te kx env os1 fun i os2 => te2 kx env os2 fun y os3 => match i with
  | .int i => ∃ (m : Nat) (us : List D), os3[m]? = some (p, .lst us) ∧ us.length < sizeLine ∧ 0 ≤ i ∧ i < 2 ^ 63 ∧ k .non (os3.set m (p, .lst (us.take i.toNat ++ [y] ++ us.drop i.toNat)))
  | _ => False
theorem cm_ins (h : Cm X o to) (h2 : Cm X e te) (h3 : Cm X e2 te2) (hbase : attributeBase o "insert" X.env (eval o X.env) = eval o X.env)
    (hfew : ((backTo cpos (starEach [e, e2] X.env)).all (fun x => !x.1) && (backToKw cpos (keywordEach [] X.env)).all (fun x => x.1.isSome)
      && decide ([e, e2].length + ([] : List Keyword).length + (if ([] : List Keyword).isEmpty then 0 else 1) < 30)) = true)
    (hline : (apos.endLine == cpos.line) = true) (hs : starEach [e, e2] X.env = (false, eval e X.env) :: starEach [e2] X.env) (hs2 : starEach [e2] X.env = (false, eval e2 X.env) :: starEach [] X.env)
    (hp : (backTo cpos (starEach [e2] X.env)).any (·.1) = false) :
    Cm X (.Call (.Attribute o "insert" apos) [e, e2] [] cpos) (eIns to te te2) := by
  intro kx env os k q F V0 H σ Q W r sr ek c
  refine wE_of (pe_bm PySem.F.plainAttrs_list PySem.F.slot_list_insert PySem.F.type_list_insert mt_insert wE_pe (pa_cons wE_pe (pa_cons wE_pe pa_nil hs2) hs) hbase hfew hline hs hp) ?_
  refine h _ _ _ _ q F V0 H σ _ W r sr ek fun V1 os1 H1 v w s1 r1 rv q => ?_
  obtain ⟨pl, n, ws, rfl, ho, q⟩ := onL_ref q
  obtain rfl := rv.toRef
  obtain ⟨vs, h5, h4, ty⟩ := own_ty r1 ho
  refine ⟨ty, ?_⟩
  refine h2 _ _ _ _ q F V1 H1 σ _ W r1 (sr.mono s1) (ek.mono s1) fun V2 os2 H2 u y s2 r2 ru q => ?_
  refine h3 _ _ _ _ q F V2 H2 σ _ W r2 (sr.mono (s1.trans s2)) (ek.mono (s1.trans s2)) fun V3 os3 H3 u2 y2 s3 r3 ru2 q => ?_
  split at q
  · obtain ⟨m, us, ho2, hl, b1, b2, q⟩ := q
    cases ru
    obtain ⟨vs2, h7, h6, _⟩ := own_ty r3 ho2
    refine ⟨pl, vs2, _, u2, rfl, rfl, h7, by rw [h6.length]; exact hl, b1, b2, ?_⟩
    exact c V3 _ _ _ .non ((s1.trans s2).trans s3) (r3.mut ho2 (oo' := .lst _) ⟨_, rfl, ((h6.take _).append (.cons ru2 .nil)).append (h6.drop _)⟩) rwN q
  · exact q.elim
end
section
variable {X : Cx}
def cSortIO : TrC := fun ws os k => match ws with
  | [w] => ∃ ns : List Int, LstOf os w (ns.map D.int) ∧ ∀ ms : List Int, ms.Perm ns → ms.Pairwise (· ≤ ·) → ∀ p, k (.ref p) ((p, .lst (ms.map D.int)) :: os)
  | _ => False
theorem cmc_sortIO : CmC X (.builtin "sorted") cSortIO := by
  intro ws os k h
  unfold cSortIO at h
  split at h
  · obtain ⟨ns, h1, q⟩ := h
    exact JC.mk cr_sortedI fun F V0 H vs Q r rs c => by
      obtain ⟨v, rfl, rv⟩ := rs.one
      obtain ⟨a, xs, rfl, hs, ra⟩ := lstOf_of r rv h1
      have e := rpA_int ra
      subst e
      refine ⟨a, ns, rfl, hs, fun ms p h1 h2 hp => ?_⟩
      exact c V0 _ _ _ (.ref p) (Same.refl _) (r.addO hp (oo := .lst (ms.map D.int)) ⟨_, rfl, rpA_ints ms⟩) (.ref p) (q ms h1 h2 p)
  · exact h.elim
def cSortDIO : TrC := fun ws os k => match ws with
  | [w] => ∃ (kvs : List (Key × D)) (ks : List Int), DctOf os w kvs ∧ kvs.map (·.1) = ks.map Sum.inl ∧ ks.length < 64 ∧ ∀ ms : List Int, ms.Perm ks → ms.Pairwise (· ≤ ·) → ∀ p, k (.ref p) ((p, .lst (ms.map D.int)) :: os)
  | _ => False
theorem cmc_sortDIO (hc : X.calm = true) : CmC X (.builtin "sorted") cSortDIO := by
  intro ws os k h
  unfold cSortDIO at h
  split at h
  · obtain ⟨kvs, ks, h1, h2, h3, q⟩ := h
    exact JC.mk (call_sortedDI hc) fun F V0 H vs Q r rs c => by
      obtain ⟨v, rfl, rv⟩ := rs.one
      obtain ⟨a, xs, rfl, hs, ra⟩ := dctOf_of r rv h1
      refine ⟨a, xs, ks, rfl, hs, (rpK_keys ra).trans h2, h3, fun ms p h1 h2 hp => ?_⟩
      exact c V0 _ _ _ (.ref p) (Same.refl _) (r.addO hp (oo := .lst (ms.map D.int)) ⟨_, rfl, rpA_ints ms⟩) (.ref p) (q ms h1 h2 p)
  · exact h.elim
end
end EV

set_option Elab.async false
set_option linter.all false
set_option maxRecDepth 100000
/-! E8: lemmas that a reading uses. -/
namespace EV
open PySem PySem.Spec PyProof.Rows L2
section
variable {A B P : Prop} {b : Bool}
theorem brT (h : A) : (true = true → A) ∧ (true = false → B) := ⟨fun _ => h, fun e => nomatch e⟩
theorem brF (h : B) : (false = true → A) ∧ (false = false → B) := ⟨fun e => (nomatch e), fun _ => h⟩
theorem brD [Decidable P] (h1 : P → A) (h2 : ¬ P → B) : (decide P = true → A) ∧ (decide P = false → B) := ⟨fun h => h1 (of_decide_eq_true h), fun h => h2 (of_decide_eq_false h)⟩
theorem brDN [Decidable P] (h1 : ¬ P → A) (h2 : P → B) : ((!decide P) = true → A) ∧ ((!decide P) = false → B) := by
  by_cases hp : P
  · rw [decide_eq_true hp]
    exact ⟨fun e => (nomatch e), fun _ => h2 hp⟩
  · rw [decide_eq_false hp]
    exact ⟨fun _ => h1 hp, fun e => nomatch e⟩
theorem brDT [Decidable P] (hp : P) (h : A) : (decide P = true → A) ∧ (decide P = false → B) := ⟨fun _ => h, fun e => absurd hp (of_decide_eq_false e)⟩
theorem brDF [Decidable P] (hp : ¬ P) (h : B) : (decide P = true → A) ∧ (decide P = false → B) := ⟨fun e => absurd (of_decide_eq_true e) hp, fun _ => h⟩
theorem brDNT [Decidable P] (hp : ¬ P) (h : A) : ((!decide P) = true → A) ∧ ((!decide P) = false → B) := ⟨fun _ => h, fun e => absurd e (by rw [decide_eq_false hp]; exact fun z => nomatch z)⟩
theorem brDNF [Decidable P] (hp : P) (h : B) : ((!decide P) = true → A) ∧ ((!decide P) = false → B) := ⟨fun e => absurd e (by rw [decide_eq_true hp]; exact fun z => nomatch z), fun _ => h⟩
theorem br2 (h1 : b = true → A) (h2 : b = false → B) : (b = true → A) ∧ (b = false → B) := ⟨h1, h2⟩
theorem brN2 (h1 : b = false → A) (h2 : b = true → B) : ((!b) = true → A) ∧ ((!b) = false → B) := by
  cases b
  · exact ⟨fun _ => h1 rfl, fun e => nomatch e⟩
  · exact ⟨fun e => (nomatch e), fun _ => h2 rfl⟩
theorem orT (h : B) : (true = false → A) ∧ (true = true → B) := ⟨fun e => (nomatch e), fun _ => h⟩
theorem orF (h : A) : (false = false → A) ∧ (false = true → B) := ⟨fun _ => h, fun e => nomatch e⟩
theorem orD [Decidable P] (h1 : ¬ P → A) (h2 : P → B) : (decide P = false → A) ∧ (decide P = true → B) := ⟨fun h => h1 (of_decide_eq_false h), fun h => h2 (of_decide_eq_true h)⟩
theorem orDT [Decidable P] (hp : P) (h : B) : (decide P = false → A) ∧ (decide P = true → B) := ⟨fun e => absurd hp (of_decide_eq_false e), fun _ => h⟩
theorem orDF [Decidable P] (hp : ¬ P) (h : A) : (decide P = false → A) ∧ (decide P = true → B) := ⟨fun _ => h, fun e => absurd (of_decide_eq_true e) hp⟩
theorem orDN [Decidable P] (h1 : P → A) (h2 : ¬ P → B) : ((!decide P) = false → A) ∧ ((!decide P) = true → B) := ⟨(brDN h2 h1).2, (brDN h2 h1).1⟩
theorem or2 (h1 : b = false → A) (h2 : b = true → B) : (b = false → A) ∧ (b = true → B) := ⟨h1, h2⟩
theorem orN2 (h1 : b = true → A) (h2 : b = false → B) : ((!b) = false → A) ∧ ((!b) = true → B) := ⟨(brN2 h2 h1).2, (brN2 h2 h1).1⟩
end
theorem szI {n : Nat} (h : n ≤ 1000) : n ≤ sizeLine := Nat.le_of_lt (small1000 h)
theorem szJ {n : Nat} (h : n ≤ 1000) : n < sizeLine := small1000 h
theorem atI_len {α : Type} {ds : List α} {i : Int} (h0 : 0 ≤ i) (h1 : i < ds.length) (d : α) : atI ds i = some (ds.getD i.toNat d) := by
  obtain ⟨j, rfl⟩ : ∃ j : Nat, i = (j : Int) := ⟨i.toNat, by omega⟩
  have hj : j < ds.length := by omega
  refine atI_nat ?_
  simp [hj]
theorem atI_ints {ns : List Int} {i : Int} (h0 : 0 ≤ i) (h1 : i < ns.length) : atI (ns.map D.int) i = some (.int (ns.getD i.toNat 0)) := by
  obtain ⟨j, rfl⟩ : ∃ j : Nat, i = (j : Int) := ⟨i.toNat, by omega⟩
  have hj : j < ns.length := by omega
  refine atI_nat ?_
  simp [hj]
theorem atI_some {α : Type} {ds : List α} {i : Int} {d : α} (h0 : 0 ≤ i) (h1 : ds[i.toNat]? = some d) : atI ds i = some d := by
  obtain ⟨j, rfl⟩ : ∃ j : Nat, i = (j : Int) := ⟨i.toNat, by omega⟩
  exact atI_nat (by simpa using h1)
theorem ixN_some {n : Nat} {i : Int} (h0 : 0 ≤ i) (h1 : i < n) : ixN n i = some i.toNat := by
  have e := atI_len (ds := List.replicate n ()) h0 (by simpa using h1) ()
  unfold atI at e
  rw [List.length_replicate] at e
  cases q : ixN n i with
  | none => rw [q] at e; cases e
  | some j =>
    unfold ixN at q
    simp only [h0, h1] at q
    split at q <;> simp_all
theorem scal_ints : ∀ ns : List Int, (ns.map D.int).all isScal = true
  | [] => rfl
  | _ :: ns => scal_ints ns
theorem inD_ints {i : Int} : ∀ ns : List Int, inD (.int i) (ns.map D.int) = decide (i ∈ ns)
  | [] => by simp [inD, inV]
  | n :: ns => by
    have h := inD_ints (i := i) ns
    unfold inD inV at h ⊢
    rw [List.map_cons, List.map_cons, List.any_cons, h]
    by_cases e : n = i
    · subst e; simp [eqV, scalD]
    · have e' : i ≠ n := fun x => e x.symm
      simp [eqV, scalD, e, e']
theorem shpA_ints (ns : List Int) (n : Nat) : shpA (ns.map D.int) n = true := shpA_all.mpr fun d hd => by
  obtain ⟨i, _, rfl⟩ := List.mem_map.mp hd
  rfl
theorem shp_ints (ns : List Int) : shp (.lst (ns.map D.int)) 60 = true := by
  rw [shp, shpA_ints]; rfl
theorem eqvA_ints : ∀ ns ms : List Int, PyData.eqvAll (toPs (ns.map D.int)) (toPs (ms.map D.int)) = decide (ns = ms)
  | [], [] => by simp [toPs, PyData.eqvAll]
  | [], _ :: _ => by simp [toPs, PyData.eqvAll]
  | _ :: _, [] => by simp [toPs, PyData.eqvAll]
  | n :: r, m :: q => by
    simp only [List.map_cons, toPs, toP, PyData.eqvAll, PyData.eqv, eqvA_ints r q]
    by_cases h : n = m <;> simp [h]
theorem eqD_ints (ns ms : List Int) : eqD (.lst (ns.map D.int)) (.lst (ms.map D.int)) = decide (ns = ms) := by
  unfold eqD
  rw [toP, toP, PyData.eqv]
  exact eqvA_ints ns ms
theorem kit_NoneType_bool : kitB "NoneType" "bool" = some false := by decide +kernel
theorem kit_NoneType_int : kitB "NoneType" "int" = some false := by decide +kernel
theorem kit_NoneType_str : kitB "NoneType" "str" = some false := by decide +kernel
theorem kit_NoneType_tuple : kitB "NoneType" "tuple" = some false := by decide +kernel
theorem kit_NoneType_list : kitB "NoneType" "list" = some false := by decide +kernel
theorem kit_bool_bool : kitB "bool" "bool" = some true := by decide +kernel
theorem kit_bool_int : kitB "bool" "int" = some true := by decide +kernel
theorem kit_bool_str : kitB "bool" "str" = some false := by decide +kernel
theorem kit_bool_tuple : kitB "bool" "tuple" = some false := by decide +kernel
theorem kit_bool_list : kitB "bool" "list" = some false := by decide +kernel
theorem kit_int_bool : kitB "int" "bool" = some false := by decide +kernel
theorem kit_int_int : kitB "int" "int" = some true := by decide +kernel
theorem kit_int_str : kitB "int" "str" = some false := by decide +kernel
theorem kit_int_tuple : kitB "int" "tuple" = some false := by decide +kernel
theorem kit_int_list : kitB "int" "list" = some false := by decide +kernel
theorem kit_str_bool : kitB "str" "bool" = some false := by decide +kernel
theorem kit_str_int : kitB "str" "int" = some false := by decide +kernel
theorem kit_str_str : kitB "str" "str" = some true := by decide +kernel
theorem kit_str_tuple : kitB "str" "tuple" = some false := by decide +kernel
theorem kit_str_list : kitB "str" "list" = some false := by decide +kernel
theorem kit_tuple_bool : kitB "tuple" "bool" = some false := by decide +kernel
theorem kit_tuple_int : kitB "tuple" "int" = some false := by decide +kernel
theorem kit_tuple_str : kitB "tuple" "str" = some false := by decide +kernel
theorem kit_tuple_tuple : kitB "tuple" "tuple" = some true := by decide +kernel
theorem kit_tuple_list : kitB "tuple" "list" = some false := by decide +kernel
theorem kit_list_bool : kitB "list" "bool" = some false := by decide +kernel
theorem kit_list_int : kitB "list" "int" = some false := by decide +kernel
theorem kit_list_str : kitB "list" "str" = some false := by decide +kernel
theorem kit_list_tuple : kitB "list" "tuple" = some false := by decide +kernel
theorem kit_list_list : kitB "list" "list" = some true := by decide +kernel

/-! ### a block of some written things and of a rest -/
theorem perm_front (a b c : Os) : (a ++ (b ++ c)).Perm (b ++ (a ++ c)) := by
  have h := (List.perm_append_comm (l₁ := a) (l₂ := b)).append_right c
  rw [List.append_assoc, List.append_assoc] at h
  exact h
theorem blk_perm (a h b t c : Os) : (a ++ (h ++ (b ++ (t ++ c)))).Perm ((h ++ t) ++ (a ++ (b ++ c))) := by
  rw [List.append_assoc]
  refine (perm_front a h _).trans (List.Perm.append_left h ?_)
  exact ((perm_front b t c).append_left a).trans (perm_front a t _)
theorem blk_back (n : Nat) (a b c o : Os) : (o ++ (a ++ (b ++ c))).Perm (a ++ (o.take n ++ (b ++ (o.drop n ++ c)))) := by
  have h := (blk_perm a (o.take n) b (o.drop n) c).symm
  rw [List.take_append_drop] at h
  exact h
theorem callX_blk {T : FT} {ws : List D} {a h b t c : Os} {k : D → Os → Prop} {kx : Kx} (q : T ws (h ++ t) (fun w o => k w (a ++ (o.take h.length ++ (b ++ (o.drop h.length ++ c))))) (fun x o => kx x (a ++ (o.take h.length ++ (b ++ (o.drop h.length ++ c)))))) :
    callX T ws (a ++ (h ++ (b ++ (t ++ c)))) k kx := by
  rw [callX_eq]
  exact ⟨h ++ t, a ++ (b ++ c), fun o => a ++ (o.take h.length ++ (b ++ (o.drop h.length ++ c))), blk_perm a h b t c, fun o => blk_back h.length a b c o, q⟩
theorem callX_blk0 {T : FT} {ws : List D} {a h b t : Os} {k : D → Os → Prop} {kx : Kx} (q : T ws (h ++ t) (fun w o => k w (a ++ (o.take h.length ++ (b ++ o.drop h.length)))) (fun x o => kx x (a ++ (o.take h.length ++ (b ++ o.drop h.length))))) :
    callX T ws (a ++ (h ++ (b ++ t))) k kx := by
  have e : ∀ o : Os, a ++ (o.take h.length ++ (b ++ (o.drop h.length ++ []))) = a ++ (o.take h.length ++ (b ++ o.drop h.length)) := fun o => by rw [List.append_nil]
  have r := callX_blk (T := T) (ws := ws) (a := a) (h := h) (b := b) (t := t) (c := []) (k := k) (kx := kx) (by simp only [e]; exact q)
  rw [List.append_nil] at r
  exact r
/-- the first thing stays -/
theorem callX_tl {T : FT} {ws : List D} {x : Addr × OO} {os : Os} {k : D → Os → Prop} {kx : Kx} (q : T ws os (fun w o => k w (x :: o)) (fun y o => kx y (x :: o))) : callX T ws (x :: os) k kx := by
  rw [callX_eq]
  exact ⟨os, [x], fun o => x :: o, List.perm_append_comm (l₁ := [x]), fun o => List.perm_append_comm (l₁ := o) (l₂ := [x]), q⟩
theorem ex3 {α β γ : Type} {P : α → β → Prop} {Q : α → β → γ → Prop} {K : α → β → γ → Prop} (h : ∃ n ws, P n ws ∧ ∃ w, Q n ws w ∧ K n ws w) : ∃ n ws w, P n ws ∧ Q n ws w ∧ K n ws w :=
  let ⟨n, ws, h1, w, h2, h3⟩ := h; ⟨n, ws, w, h1, h2, h3⟩
theorem exO {os : Os} {n : Nat} {a C : Addr} {fs : List (Nat × D)} {f : Nat} (h : os[n]? = some (a, .ins C fs)) (h2 : lkF f fs = none) : ∃ (n : Nat) (fs : List (Nat × D)), os[n]? = some (a, .ins C fs) ∧ lkF f fs = none := ⟨n, fs, h, h2⟩
theorem callX_tlE {T : FT} {ws : List D} {x : Addr × OO} {os2 os : Os} {k : D → Os → Prop} {kx : Kx} (e : os2 = x :: os) (q : T ws os (fun w o => k w (x :: o)) (fun y o => kx y (x :: o))) : callX T ws os2 k kx := e ▸ callX_tl q
theorem callX_pm {T : FT} {ws : List D} {os of or : Os} {k : D → Os → Prop} {kx : Kx} (hp : os.Perm (of ++ or)) (q : T ws of (fun w o => k w (o ++ or)) (fun y o => kx y (o ++ or))) : callX T ws os k kx := by
  rw [callX_eq]
  exact ⟨of, or, fun o => o ++ or, hp, fun o => .refl _, q⟩
/-- a part in the middle -/
theorem callX_mid {T : FT} {ws : List D} {a h c : Os} {k : D → Os → Prop} {kx : Kx} (q : T ws h (fun w o => k w (a ++ (o ++ c))) (fun x o => kx x (a ++ (o ++ c)))) : callX T ws (a ++ (h ++ c)) k kx := by
  rw [callX_eq]
  exact ⟨h, a ++ c, fun o => a ++ (o ++ c), perm_front a h c, fun o => perm_front o a c, q⟩
/-- a family of owned lists -/
def inn : List Addr → List (List D) → Os
  | a :: as, l :: ls => (a, .lst l) :: inn as ls
  | _, _ => []
theorem inn_at : ∀ {as : List Addr} {ls : List (List D)} {n : Nat} {a : Addr} {l : List D}, as[n]? = some a → ls[n]? = some l → (inn as ls)[n]? = some (a, .lst l)
  | _ :: _, _ :: _, 0, _, _, h1, h2 => by cases h1; cases h2; rfl
  | _ :: as, _ :: ls, n + 1, _, _, h1, h2 => inn_at (as := as) (ls := ls) (n := n) h1 h2
  | [], _, _, _, _, h1, _ => by simp at h1
  | _ :: _, [], _, _, _, _, h2 => by simp at h2
theorem inn_set : ∀ {as : List Addr} {ls : List (List D)} {n : Nat} {a : Addr} {l : List D}, as[n]? = some a → (inn as ls).set n (a, .lst l) = inn as (ls.set n l)
  | _ :: _, _ :: _, 0, _, _, h1 => by cases h1; rfl
  | _ :: as, _ :: ls, n + 1, _, _, h1 => congrArg (_ :: ·) (inn_set (as := as) (ls := ls) (n := n) h1)
  | [], _, _, _, _, h1 => by simp at h1
  | _ :: _, [], n, _, _, _ => by cases n <;> rfl
theorem inn_len : ∀ {as : List Addr} {ls : List (List D)}, as.length = ls.length → (inn as ls).length = ls.length
  | [], [], _ => rfl
  | _ :: as, _ :: ls, h => congrArg (· + 1) (inn_len (as := as) (ls := ls) (by simpa using h))
  | [], _ :: _, h => by cases h
  | _ :: _, [], h => by cases h
theorem inn_app : ∀ {as : List Addr} {ls : List (List D)} {a : Addr} {l : List D}, as.length = ls.length → inn (as ++ [a]) (ls ++ [l]) = inn as ls ++ [(a, .lst l)]
  | [], [], _, _, _ => rfl
  | _ :: as, _ :: ls, _, _, h => congrArg (_ :: ·) (inn_app (as := as) (ls := ls) (by simpa using h))
  | [], _ :: _, _, _, h => by cases h
  | _ :: _, [], _, _, h => by cases h
theorem inn_appA : ∀ {as as2 : List Addr} {ls ls2 : List (List D)}, as.length = ls.length → inn (as ++ as2) (ls ++ ls2) = inn as ls ++ inn as2 ls2
  | [], _, [], _, _ => rfl
  | _ :: as, as2, _ :: ls, ls2, h => congrArg (_ :: ·) (inn_appA (as := as) (ls := ls) (as2 := as2) (ls2 := ls2) (by simpa using h))
  | [], _, _ :: _, _, h => by cases h
  | _ :: _, _, [], _, h => by cases h
/-- a new list takes a place; the old one goes -/
theorem inn_swap : ∀ {as : List Addr} {ls : List (List D)} {n : Nat} {a : Addr} {l : List D}, as.length = ls.length → n < ls.length → WkO ((a, .lst l) :: inn as ls) (inn (as.set n a) (ls.set n l))
  | b :: as, m :: ls, 0, a, l, _, _ => ⟨[(b, .lst m)], by
      show ((a, OO.lst l) :: (b, .lst m) :: inn as ls).Perm (((a, .lst l) :: inn as ls) ++ [(b, .lst m)])
      exact (List.perm_append_comm (l₁ := [(b, OO.lst m)]) (l₂ := inn as ls)).cons _⟩
  | b :: as, m :: ls, n + 1, a, l, h, hn => by
      have ih := inn_swap (as := as) (ls := ls) (n := n) (a := a) (l := l) (by simpa using h) (by simpa using hn)
      exact WkO.trans (.perm (.swap _ _ _)) (.cons ih)
  | [], [], _, _, _, _, hn => by simp at hn
  | [], _ :: _, _, _, _, h, _ => by cases h
  | _ :: _, [], _, _, _, h, _ => by cases h
theorem atI_mapN {α : Type} {f : α → D} {xs : List α} {i : Int} {x : α} (h0 : 0 ≤ i) (h1 : xs[i.toNat]? = some x) : atI (xs.map f) i = some (f x) := atI_some h0 (by rw [List.getElem?_map, h1]; rfl)
theorem app_at {A B : Os} {n : Nat} {x : Addr × OO} (h : B[n]? = some x) : (A ++ B)[A.length + n]? = some x := by
  rw [List.getElem?_append_right (Nat.le_add_right _ _), Nat.add_sub_cancel_left]; exact h
theorem app_set {A B : Os} {n : Nat} {x : Addr × OO} : (A ++ B).set (A.length + n) x = A ++ B.set n x := by
  rw [List.set_append_right _ _ (Nat.le_add_right _ _), Nat.add_sub_cancel_left]
theorem appL_at {A B : Os} {n : Nat} {x : Addr × OO} (h : A[n]? = some x) : (A ++ B)[n]? = some x := by
  rw [List.getElem?_append_left (List.getElem?_eq_some_iff.mp h).1]; exact h
theorem appL_set {A B : Os} {n : Nat} {x : Addr × OO} (h : n < A.length) : (A ++ B).set n x = A.set n x ++ B := List.set_append_left _ _ h
theorem ixN_last {n : Nat} : ixN (n + 1) (-1) = some n := by
  unfold ixN
  rw [if_neg (by omega), if_pos (by omega)]
  congr 1
  omega
theorem ixN_lastL {α : Type} {xs : List α} {x : α} : ixN (xs ++ [x]).length (-1) = some xs.length := by
  rw [List.length_append]; exact ixN_last
theorem ixN_lastM {α β : Type} {f : α → β} {xs : List α} {x : α} : ixN ((xs ++ [x]).map f).length (-1) = some xs.length := by
  rw [List.length_map]; exact ixN_lastL
theorem atI_last {α : Type} {xs : List α} {x : α} : atI (xs ++ [x]) (-1) = some x := by
  unfold atI
  rw [ixN_lastL]
  simp
theorem atI_lastM {α β : Type} {f : α → β} {xs : List α} {x : α} : atI ((xs ++ [x]).map f) (-1) = some (f x) := by
  rw [List.map_append]; exact atI_last
theorem cutA_init {α : Type} (xs : List α) (x : α) : cutA (xs ++ [x]) none (some (-1)) = xs := by
  unfold cutA HT.sIx
  have e : (-1 + ((xs.length : Int) + 1)).toNat = xs.length := by omega
  simp [e]
theorem cutA_initM {α β : Type} {f : α → β} (xs : List α) (x : α) : cutA ((xs ++ [x]).map f) none (some (-1)) = xs.map f := by
  rw [List.map_append]; exact cutA_init _ _
theorem cutA_lastM {α β : Type} {f : α → β} (xs : List α) (x : α) : cutA ((xs ++ [x]).map f) (some (-1)) none = [f x] := by
  rw [List.map_append]
  unfold cutA HT.sIx
  have e : (-1 + ((xs.length : Int) + 1)).toNat = xs.length := by omega
  have e2 : (List.map f xs ++ [f x]).drop xs.length = [f x] := by
    have := List.drop_left (l₁ := List.map f xs) (l₂ := [f x])
    rw [List.length_map] at this
    exact this
  simp [e, e2]
theorem cutA_from {α : Type} (xs : List α) (n : Nat) : cutA xs (some (n : Int)) none = xs.drop n := by
  unfold cutA
  rw [HT.sIx_nat, HT.sIx_none]
  rcases Nat.le_total n xs.length with h | h
  · rw [Nat.min_eq_left h]
    exact List.take_of_length_le (by rw [List.length_drop]; exact Nat.le_refl _)
  · rw [Nat.min_eq_right h, List.drop_of_length_le (Nat.le_refl _), List.drop_of_length_le h, List.take_nil]
theorem cutA_to {α : Type} (xs : List α) (n : Nat) : cutA xs none (some (n : Int)) = xs.take n := by
  unfold cutA
  rw [HT.sIx_nat, HT.sIx_none, List.drop_zero, Nat.sub_zero]
  rcases Nat.le_total n xs.length with h | h
  · rw [Nat.min_eq_left h]
  · rw [Nat.min_eq_right h, List.take_of_length_le (Nat.le_refl _), List.take_of_length_le h]
theorem cutA_all {α : Type} (xs : List α) : cutA xs none none = xs := by
  unfold cutA
  rw [HT.sIx_none, HT.sIx_none, List.drop_zero, Nat.sub_zero, List.take_of_length_le (Nat.le_refl _)]
theorem cutA_mid {α : Type} (xs : List α) (n m : Nat) : cutA xs (some (n : Int)) (some (m : Int)) = (xs.take m).drop n := by
  unfold cutA
  rw [HT.sIx_nat, HT.sIx_nat, List.drop_take]
  rcases Nat.le_total n xs.length with h | h
  · rw [Nat.min_eq_left h]
    rcases Nat.le_total m xs.length with h2 | h2
    · rw [Nat.min_eq_left h2]
    · rw [Nat.min_eq_right h2, List.take_of_length_le (by rw [List.length_drop]; exact Nat.le_refl _), List.take_of_length_le (by rw [List.length_drop]; omega)]
  · rw [Nat.min_eq_right h, List.drop_of_length_le (Nat.le_refl _), List.drop_of_length_le h, List.take_nil, List.take_nil]
theorem sx0 {n : Nat} (h : 0 < n) : seqIndex? 0 n = some 0 := by
  unfold seqIndex?
  have h2 : (0 : Int) < n := by omega
  simp
  omega
theorem atI_c0 {α : Type} {x : α} {ws : List α} : atI (x :: ws) 0 = some x := atI_some (by decide) (by simp)
theorem atI_c1 {α : Type} {x y : α} {ws : List α} : atI (x :: y :: ws) 1 = some y := atI_some (by decide) (by simp)
theorem atI_c2 {α : Type} {x y z : α} {ws : List α} : atI (x :: y :: z :: ws) 2 = some z := atI_some (by decide) (by simp)
theorem atI_c3 {α : Type} {x y z u : α} {ws : List α} : atI (x :: y :: z :: u :: ws) 3 = some u := atI_some (by decide) (by simp)
theorem kI {k : D → Os → Prop} {os : Os} {x y : Int} (h : k (.int y) os) (e : x = y) : k (.int x) os := e ▸ h
theorem kB {k : D → Os → Prop} {os : Os} {x y : Bool} (h : k (.bl y) os) (e : x = y) : k (.bl x) os := e ▸ h
theorem kD {k : D → Os → Prop} {os : Os} {x y : D} (h : k y os) (e : x = y) : k x os := e ▸ h
end EV
set_option Elab.async false
set_option linter.all false
set_option maxRecDepth 100000
set_option maxHeartbeats 0
namespace My
open PySem PySem.Spec PyProof.Rows L2 EV
def top (i : Nat) : Stmt := PySem.Challenge.pw_deadbeat_k10_reach_and_use.main.body.getD i (.Pass ⟨0, 0, 0, 0⟩)
structure Txt (K : PySem.W.Frag) (mg : Str → Option Value) (CS : Nat → Addr) : Prop where
  b_int : mg "int" = none
  b_abs : mg "abs" = none
  b_len : mg "len" = none
  b_range : mg "range" = none
  b_str : mg "str" = none
  b_list : mg "list" = none
  b_sorted : mg "sorted" = none
  b_enumerate : mg "enumerate" = none
  b_reversed : mg "reversed" = none
  b_isinstance : mg "isinstance" = none
  b_bool : mg "bool" = none
  b_repr : mg "repr" = none
theorem nd__law_script : (("_law_script" : Str) == ("__debug__" : Str)) = false ∧ (("_law_script" : Str) == ("__classdict__" : Str)) = false := by decide +kernel
theorem nd__law_seed : (("_law_seed" : Str) == ("__debug__" : Str)) = false ∧ (("_law_seed" : Str) == ("__classdict__" : Str)) = false := by decide +kernel
theorem nd__law_cell : (("_law_cell" : Str) == ("__debug__" : Str)) = false ∧ (("_law_cell" : Str) == ("__classdict__" : Str)) = false := by decide +kernel
theorem nd_int : (("int" : Str) == ("__debug__" : Str)) = false ∧ (("int" : Str) == ("__classdict__" : Str)) = false := by decide +kernel
theorem nd_abs : (("abs" : Str) == ("__debug__" : Str)) = false ∧ (("abs" : Str) == ("__classdict__" : Str)) = false := by decide +kernel
theorem nd__law_state_here : (("_law_state_here" : Str) == ("__debug__" : Str)) = false ∧ (("_law_state_here" : Str) == ("__classdict__" : Str)) = false := by decide +kernel
theorem nd__law_many : (("_law_many" : Str) == ("__debug__" : Str)) = false ∧ (("_law_many" : Str) == ("__classdict__" : Str)) = false := by decide +kernel
theorem nd__law_cells : (("_law_cells" : Str) == ("__debug__" : Str)) = false ∧ (("_law_cells" : Str) == ("__classdict__" : Str)) = false := by decide +kernel
theorem nd__law_value : (("_law_value" : Str) == ("__debug__" : Str)) = false ∧ (("_law_value" : Str) == ("__classdict__" : Str)) = false := by decide +kernel
theorem nd__law_mixed : (("_law_mixed" : Str) == ("__debug__" : Str)) = false ∧ (("_law_mixed" : Str) == ("__classdict__" : Str)) = false := by decide +kernel
theorem nd_len : (("len" : Str) == ("__debug__" : Str)) = false ∧ (("len" : Str) == ("__classdict__" : Str)) = false := by decide +kernel
theorem nd__law_row : (("_law_row" : Str) == ("__debug__" : Str)) = false ∧ (("_law_row" : Str) == ("__classdict__" : Str)) = false := by decide +kernel
theorem nd__law_draw : (("_law_draw" : Str) == ("__debug__" : Str)) = false ∧ (("_law_draw" : Str) == ("__classdict__" : Str)) = false := by decide +kernel
theorem nd__law_edges : (("_law_edges" : Str) == ("__debug__" : Str)) = false ∧ (("_law_edges" : Str) == ("__classdict__" : Str)) = false := by decide +kernel
theorem nd__law_pick : (("_law_pick" : Str) == ("__debug__" : Str)) = false ∧ (("_law_pick" : Str) == ("__classdict__" : Str)) = false := by decide +kernel
theorem nd__law_env : (("_law_env" : Str) == ("__debug__" : Str)) = false ∧ (("_law_env" : Str) == ("__classdict__" : Str)) = false := by decide +kernel
theorem nd__law_deep : (("_law_deep" : Str) == ("__debug__" : Str)) = false ∧ (("_law_deep" : Str) == ("__classdict__" : Str)) = false := by decide +kernel
theorem nd__law_signs : (("_law_signs" : Str) == ("__debug__" : Str)) = false ∧ (("_law_signs" : Str) == ("__classdict__" : Str)) = false := by decide +kernel
theorem nd__law_kind : (("_law_kind" : Str) == ("__debug__" : Str)) = false ∧ (("_law_kind" : Str) == ("__classdict__" : Str)) = false := by decide +kernel
theorem nd__law_rows : (("_law_rows" : Str) == ("__debug__" : Str)) = false ∧ (("_law_rows" : Str) == ("__classdict__" : Str)) = false := by decide +kernel
theorem nd__law_first : (("_law_first" : Str) == ("__debug__" : Str)) = false ∧ (("_law_first" : Str) == ("__classdict__" : Str)) = false := by decide +kernel
theorem nd__law_name : (("_law_name" : Str) == ("__debug__" : Str)) = false ∧ (("_law_name" : Str) == ("__classdict__" : Str)) = false := by decide +kernel
theorem nd__law_size : (("_law_size" : Str) == ("__debug__" : Str)) = false ∧ (("_law_size" : Str) == ("__classdict__" : Str)) = false := by decide +kernel
theorem nd__law_word : (("_law_word" : Str) == ("__debug__" : Str)) = false ∧ (("_law_word" : Str) == ("__classdict__" : Str)) = false := by decide +kernel
theorem nd__law_expr : (("_law_expr" : Str) == ("__debug__" : Str)) = false ∧ (("_law_expr" : Str) == ("__classdict__" : Str)) = false := by decide +kernel
theorem nd__law_nested : (("_law_nested" : Str) == ("__debug__" : Str)) = false ∧ (("_law_nested" : Str) == ("__classdict__" : Str)) = false := by decide +kernel
theorem nd__law_k : (("_law_k" : Str) == ("__debug__" : Str)) = false ∧ (("_law_k" : Str) == ("__classdict__" : Str)) = false := by decide +kernel
theorem nd_range : (("range" : Str) == ("__debug__" : Str)) = false ∧ (("range" : Str) == ("__classdict__" : Str)) = false := by decide +kernel
theorem nd__law_statement : (("_law_statement" : Str) == ("__debug__" : Str)) = false ∧ (("_law_statement" : Str) == ("__classdict__" : Str)) = false := by decide +kernel
theorem nd__law_test : (("_law_test" : Str) == ("__debug__" : Str)) = false ∧ (("_law_test" : Str) == ("__classdict__" : Str)) = false := by decide +kernel
theorem nd__law_inner : (("_law_inner" : Str) == ("__debug__" : Str)) = false ∧ (("_law_inner" : Str) == ("__classdict__" : Str)) = false := by decide +kernel
theorem nd__law_thing : (("_law_thing" : Str) == ("__debug__" : Str)) = false ∧ (("_law_thing" : Str) == ("__classdict__" : Str)) = false := by decide +kernel
theorem nd__law_operation : (("_law_operation" : Str) == ("__debug__" : Str)) = false ∧ (("_law_operation" : Str) == ("__classdict__" : Str)) = false := by decide +kernel
theorem nd__law_args : (("_law_args" : Str) == ("__debug__" : Str)) = false ∧ (("_law_args" : Str) == ("__classdict__" : Str)) = false := by decide +kernel
theorem nd__law_way : (("_law_way" : Str) == ("__debug__" : Str)) = false ∧ (("_law_way" : Str) == ("__classdict__" : Str)) = false := by decide +kernel
theorem nd__law_body : (("_law_body" : Str) == ("__debug__" : Str)) = false ∧ (("_law_body" : Str) == ("__classdict__" : Str)) = false := by decide +kernel
theorem nd_str : (("str" : Str) == ("__debug__" : Str)) = false ∧ (("str" : Str) == ("__classdict__" : Str)) = false := by decide +kernel
theorem nd__law_place : (("_law_place" : Str) == ("__debug__" : Str)) = false ∧ (("_law_place" : Str) == ("__classdict__" : Str)) = false := by decide +kernel
theorem nd__law_most : (("_law_most" : Str) == ("__debug__" : Str)) = false ∧ (("_law_most" : Str) == ("__classdict__" : Str)) = false := by decide +kernel
theorem nd__law_things : (("_law_things" : Str) == ("__debug__" : Str)) = false ∧ (("_law_things" : Str) == ("__classdict__" : Str)) = false := by decide +kernel
theorem nd__law_calls : (("_law_calls" : Str) == ("__debug__" : Str)) = false ∧ (("_law_calls" : Str) == ("__classdict__" : Str)) = false := by decide +kernel
theorem nd__law_j : (("_law_j" : Str) == ("__debug__" : Str)) = false ∧ (("_law_j" : Str) == ("__classdict__" : Str)) = false := by decide +kernel
theorem nd__law_fields : (("_law_fields" : Str) == ("__debug__" : Str)) = false ∧ (("_law_fields" : Str) == ("__classdict__" : Str)) = false := by decide +kernel
theorem nd__law_params : (("_law_params" : Str) == ("__debug__" : Str)) = false ∧ (("_law_params" : Str) == ("__classdict__" : Str)) = false := by decide +kernel
theorem nd__law_own : (("_law_own" : Str) == ("__debug__" : Str)) = false ∧ (("_law_own" : Str) == ("__classdict__" : Str)) = false := by decide +kernel
theorem nd__law_body_here : (("_law_body_here" : Str) == ("__debug__" : Str)) = false ∧ (("_law_body_here" : Str) == ("__classdict__" : Str)) = false := by decide +kernel
theorem nd__law_result : (("_law_result" : Str) == ("__debug__" : Str)) = false ∧ (("_law_result" : Str) == ("__classdict__" : Str)) = false := by decide +kernel
theorem nd__law_item : (("_law_item" : Str) == ("__debug__" : Str)) = false ∧ (("_law_item" : Str) == ("__classdict__" : Str)) = false := by decide +kernel
theorem nd_list : (("list" : Str) == ("__debug__" : Str)) = false ∧ (("list" : Str) == ("__classdict__" : Str)) = false := by decide +kernel
theorem nd__law_most_tasks : (("_law_most_tasks" : Str) == ("__debug__" : Str)) = false ∧ (("_law_most_tasks" : Str) == ("__classdict__" : Str)) = false := by decide +kernel
theorem nd__law_most_objects : (("_law_most_objects" : Str) == ("__debug__" : Str)) = false ∧ (("_law_most_objects" : Str) == ("__classdict__" : Str)) = false := by decide +kernel
theorem nd__law_ports : (("_law_ports" : Str) == ("__debug__" : Str)) = false ∧ (("_law_ports" : Str) == ("__classdict__" : Str)) = false := by decide +kernel
theorem nd__law_tasks : (("_law_tasks" : Str) == ("__debug__" : Str)) = false ∧ (("_law_tasks" : Str) == ("__classdict__" : Str)) = false := by decide +kernel
theorem nd__law_within : (("_law_within" : Str) == ("__debug__" : Str)) = false ∧ (("_law_within" : Str) == ("__classdict__" : Str)) = false := by decide +kernel
theorem nd__law_rest : (("_law_rest" : Str) == ("__debug__" : Str)) = false ∧ (("_law_rest" : Str) == ("__classdict__" : Str)) = false := by decide +kernel
theorem nd__law_objects : (("_law_objects" : Str) == ("__debug__" : Str)) = false ∧ (("_law_objects" : Str) == ("__classdict__" : Str)) = false := by decide +kernel
theorem nd__law_names_here : (("_law_names_here" : Str) == ("__debug__" : Str)) = false ∧ (("_law_names_here" : Str) == ("__classdict__" : Str)) = false := by decide +kernel
theorem nd__law_statement_here : (("_law_statement_here" : Str) == ("__debug__" : Str)) = false ∧ (("_law_statement_here" : Str) == ("__classdict__" : Str)) = false := by decide +kernel
theorem nd__law_names : (("_law_names" : Str) == ("__debug__" : Str)) = false ∧ (("_law_names" : Str) == ("__classdict__" : Str)) = false := by decide +kernel
theorem nd__law_program_here : (("_law_program_here" : Str) == ("__debug__" : Str)) = false ∧ (("_law_program_here" : Str) == ("__classdict__" : Str)) = false := by decide +kernel
theorem nd__law_found : (("_law_found" : Str) == ("__debug__" : Str)) = false ∧ (("_law_found" : Str) == ("__classdict__" : Str)) = false := by decide +kernel
theorem nd__law_at : (("_law_at" : Str) == ("__debug__" : Str)) = false ∧ (("_law_at" : Str) == ("__classdict__" : Str)) = false := by decide +kernel
theorem nd__law_other : (("_law_other" : Str) == ("__debug__" : Str)) = false ∧ (("_law_other" : Str) == ("__classdict__" : Str)) = false := by decide +kernel
theorem nd_sorted : (("sorted" : Str) == ("__debug__" : Str)) = false ∧ (("sorted" : Str) == ("__classdict__" : Str)) = false := by decide +kernel
theorem nd__law_grow : (("_law_grow" : Str) == ("__debug__" : Str)) = false ∧ (("_law_grow" : Str) == ("__classdict__" : Str)) = false := by decide +kernel
theorem nd_body : (("body" : Str) == ("__debug__" : Str)) = false ∧ (("body" : Str) == ("__classdict__" : Str)) = false := by decide +kernel
theorem nd_names : (("names" : Str) == ("__debug__" : Str)) = false ∧ (("names" : Str) == ("__classdict__" : Str)) = false := by decide +kernel
theorem nd_statement : (("statement" : Str) == ("__debug__" : Str)) = false ∧ (("statement" : Str) == ("__classdict__" : Str)) = false := by decide +kernel
theorem nd__called : (("_called" : Str) == ("__debug__" : Str)) = false ∧ (("_called" : Str) == ("__classdict__" : Str)) = false := by decide +kernel
theorem nd_rows : (("rows" : Str) == ("__debug__" : Str)) = false ∧ (("rows" : Str) == ("__classdict__" : Str)) = false := by decide +kernel
theorem nd_name : (("name" : Str) == ("__debug__" : Str)) = false ∧ (("name" : Str) == ("__classdict__" : Str)) = false := by decide +kernel
theorem nd_k : (("k" : Str) == ("__debug__" : Str)) = false ∧ (("k" : Str) == ("__classdict__" : Str)) = false := by decide +kernel
theorem nd_row : (("row" : Str) == ("__debug__" : Str)) = false ∧ (("row" : Str) == ("__classdict__" : Str)) = false := by decide +kernel
theorem nd_enumerate : (("enumerate" : Str) == ("__debug__" : Str)) = false ∧ (("enumerate" : Str) == ("__classdict__" : Str)) = false := by decide +kernel
theorem nd_objects : (("objects" : Str) == ("__debug__" : Str)) = false ∧ (("objects" : Str) == ("__classdict__" : Str)) = false := by decide +kernel
theorem nd_reach : (("reach" : Str) == ("__debug__" : Str)) = false ∧ (("reach" : Str) == ("__classdict__" : Str)) = false := by decide +kernel
theorem nd_found : (("found" : Str) == ("__debug__" : Str)) = false ∧ (("found" : Str) == ("__classdict__" : Str)) = false := by decide +kernel
theorem nd_at : (("at" : Str) == ("__debug__" : Str)) = false ∧ (("at" : Str) == ("__classdict__" : Str)) = false := by decide +kernel
theorem nd_find : (("find" : Str) == ("__debug__" : Str)) = false ∧ (("find" : Str) == ("__classdict__" : Str)) = false := by decide +kernel
theorem nd_program : (("program" : Str) == ("__debug__" : Str)) = false ∧ (("program" : Str) == ("__classdict__" : Str)) = false := by decide +kernel
theorem nd_operation : (("operation" : Str) == ("__debug__" : Str)) = false ∧ (("operation" : Str) == ("__classdict__" : Str)) = false := by decide +kernel
theorem nd_part : (("part" : Str) == ("__debug__" : Str)) = false ∧ (("part" : Str) == ("__classdict__" : Str)) = false := by decide +kernel
theorem nd_reversed : (("reversed" : Str) == ("__debug__" : Str)) = false ∧ (("reversed" : Str) == ("__classdict__" : Str)) = false := by decide +kernel
theorem nd__closure : (("_closure" : Str) == ("__debug__" : Str)) = false ∧ (("_closure" : Str) == ("__classdict__" : Str)) = false := by decide +kernel
theorem nd_out : (("out" : Str) == ("__debug__" : Str)) = false ∧ (("out" : Str) == ("__classdict__" : Str)) = false := by decide +kernel
theorem nd_interrupt : (("interrupt" : Str) == ("__debug__" : Str)) = false ∧ (("interrupt" : Str) == ("__classdict__" : Str)) = false := by decide +kernel
theorem nd_task : (("task" : Str) == ("__debug__" : Str)) = false ∧ (("task" : Str) == ("__classdict__" : Str)) = false := by decide +kernel
theorem nd_reached : (("reached" : Str) == ("__debug__" : Str)) = false ∧ (("reached" : Str) == ("__classdict__" : Str)) = false := by decide +kernel
theorem nd__law_actual : (("_law_actual" : Str) == ("__debug__" : Str)) = false ∧ (("_law_actual" : Str) == ("__classdict__" : Str)) = false := by decide +kernel
theorem nd__law_due : (("_law_due" : Str) == ("__debug__" : Str)) = false ∧ (("_law_due" : Str) == ("__classdict__" : Str)) = false := by decide +kernel
theorem nd_isinstance : (("isinstance" : Str) == ("__debug__" : Str)) = false ∧ (("isinstance" : Str) == ("__classdict__" : Str)) = false := by decide +kernel
theorem nd_bool : (("bool" : Str) == ("__debug__" : Str)) = false ∧ (("bool" : Str) == ("__classdict__" : Str)) = false := by decide +kernel
theorem nd__law_before : (("_law_before" : Str) == ("__debug__" : Str)) = false ∧ (("_law_before" : Str) == ("__classdict__" : Str)) = false := by decide +kernel
theorem nd__law_reach : (("_law_reach" : Str) == ("__debug__" : Str)) = false ∧ (("_law_reach" : Str) == ("__classdict__" : Str)) = false := by decide +kernel
theorem nd__law_users : (("_law_users" : Str) == ("__debug__" : Str)) = false ∧ (("_law_users" : Str) == ("__classdict__" : Str)) = false := by decide +kernel
theorem nd__law_second : (("_law_second" : Str) == ("__debug__" : Str)) = false ∧ (("_law_second" : Str) == ("__classdict__" : Str)) = false := by decide +kernel
theorem nd__law_task : (("_law_task" : Str) == ("__debug__" : Str)) = false ∧ (("_law_task" : Str) == ("__classdict__" : Str)) = false := by decide +kernel
theorem nd__law_state : (("_law_state" : Str) == ("__debug__" : Str)) = false ∧ (("_law_state" : Str) == ("__classdict__" : Str)) = false := by decide +kernel
theorem nd__law_program : (("_law_program" : Str) == ("__debug__" : Str)) = false ∧ (("_law_program" : Str) == ("__classdict__" : Str)) = false := by decide +kernel
theorem nd_repr : (("repr" : Str) == ("__debug__" : Str)) = false ∧ (("repr" : Str) == ("__classdict__" : Str)) = false := by decide +kernel
theorem nd__law_start : (("_law_start" : Str) == ("__debug__" : Str)) = false ∧ (("_law_start" : Str) == ("__classdict__" : Str)) = false := by decide +kernel
theorem nd_used : (("used" : Str) == ("__debug__" : Str)) = false ∧ (("used" : Str) == ("__classdict__" : Str)) = false := by decide +kernel
theorem nd__law_same : (("_law_same" : Str) == ("__debug__" : Str)) = false ∧ (("_law_same" : Str) == ("__classdict__" : Str)) = false := by decide +kernel
theorem nn_int : ("int" : Str) ≠ "__name__" := by decide +kernel
theorem bt_int : bootBuiltins ("int" : Str) = some (.type "int") := by decide +kernel
theorem nn_abs : ("abs" : Str) ≠ "__name__" := by decide +kernel
theorem bb_abs : bootBuiltins ("abs" : Str) = some (.builtin "abs") := by decide +kernel
theorem nn_len : ("len" : Str) ≠ "__name__" := by decide +kernel
theorem bb_len : bootBuiltins ("len" : Str) = some (.builtin "len") := by decide +kernel
theorem nn_range : ("range" : Str) ≠ "__name__" := by decide +kernel
theorem bt_range : bootBuiltins ("range" : Str) = some (.type "range") := by decide +kernel
theorem nn_str : ("str" : Str) ≠ "__name__" := by decide +kernel
theorem bt_str : bootBuiltins ("str" : Str) = some (.type "str") := by decide +kernel
theorem nn_list : ("list" : Str) ≠ "__name__" := by decide +kernel
theorem bt_list : bootBuiltins ("list" : Str) = some (.type "list") := by decide +kernel
theorem nn_sorted : ("sorted" : Str) ≠ "__name__" := by decide +kernel
theorem bb_sorted : bootBuiltins ("sorted" : Str) = some (.builtin "sorted") := by decide +kernel
theorem nn_enumerate : ("enumerate" : Str) ≠ "__name__" := by decide +kernel
theorem bt_enumerate : bootBuiltins ("enumerate" : Str) = some (.type "enumerate") := by decide +kernel
theorem nn_reversed : ("reversed" : Str) ≠ "__name__" := by decide +kernel
theorem bt_reversed : bootBuiltins ("reversed" : Str) = some (.type "reversed") := by decide +kernel
theorem nn_isinstance : ("isinstance" : Str) ≠ "__name__" := by decide +kernel
theorem bb_isinstance : bootBuiltins ("isinstance" : Str) = some (.builtin "isinstance") := by decide +kernel
theorem nn_bool : ("bool" : Str) ≠ "__name__" := by decide +kernel
theorem bt_bool : bootBuiltins ("bool" : Str) = some (.type "bool") := by decide +kernel
theorem nn_repr : ("repr" : Str) ≠ "__name__" := by decide +kernel
theorem bb_repr : bootBuiltins ("repr" : Str) = some (.builtin "repr") := by decide +kernel
section
variable {P : Program} {w : World} {K : PySem.W.Frag} {mg : Str → Option Value} {base : Heap}
abbrev s__law_state : Stmt := top 7
abbrev N__law_state : List Str := ["_law_script", "_law_seed", "_law_cell"]
theorem sc__law_state : FnScope N__law_state ["_law_script"] (defScope s__law_state) := ⟨rfl, rfl, rfl, by decide +kernel, rfl, by decide +kernel, by decide +kernel⟩
theorem lo__law_state__law_script : Loc (defScope s__law_state) "_law_script" := by first | exact .inl rfl | exact .inr rfl
theorem vs__law_state__law_script : Vis (defScope s__law_state) "_law_script" := lo__law_state__law_script.elim .inl fun z => .inr (.inl z)
theorem lo__law_state__law_seed : Loc (defScope s__law_state) "_law_seed" := by first | exact .inl rfl | exact .inr rfl
theorem vs__law_state__law_seed : Vis (defScope s__law_state) "_law_seed" := lo__law_state__law_seed.elim .inl fun z => .inr (.inl z)
theorem lo__law_state__law_cell : Loc (defScope s__law_state) "_law_cell" := by first | exact .inl rfl | exact .inr rfl
theorem vs__law_state__law_cell : Vis (defScope s__law_state) "_law_cell" := lo__law_state__law_cell.elim .inl fun z => .inr (.inl z)
theorem g__law_state_int : (defScope s__law_state).names.lookup ("int" : Str) = some .globalImplicit := rfl
def T__law_state (CS : Nat → Addr) : FT := fnT 3 (sCo (sSet 1 (eC (.int 7))) (
  sCo (sFor (gName 2) (iSeq (eV 0)) (sSet 1 (eBin oMod (eCB cInt (aC (eBin oAdd (eBin oMul (eV 1) (eC (.int 31))) (eV 2)) (aN))) (eC (.int 1000003))))) (
  sRet (eLstO (aC (eLc true [2] (b1 2) (iSeq (eV 0)) (tYes) (eCB cAbs (aC (eCB cInt (aC (eV 2) (aN))) (aN)))) (aC (eBin oAdd (eV 1) (eC (.int 1))) (aN)))))))
theorem ok__law_state {f : Addr} {fd : FuncData} {CS : Nat → Addr} (F : Fun K "_law_state" "_law_state" s__law_state f fd) (T : Txt K mg CS) : FnOk P w K mg base (L2.CX P w) 1 f fd ["_law_script"] (spX K 1 (T__law_state CS)) :=
  okX F sc__law_state rfl rfl (by decide) fun cdv A outer s H E hr =>
  cs_cons (c1_set sc__law_state.nd rfl lo__law_state__law_seed (cm_int) rfl (.inl rfl))
  (cs_cons (c1_for (cg_name sc__law_state.nd rfl lo__law_state__law_cell (.inl rfl)) (ci_seq (cm_v (i := 0) rfl vs__law_state__law_script nd__law_script.1 nd__law_script.2)) (cs_one (c1_set sc__law_state.nd rfl lo__law_state__law_seed (cm_bin cmo_mod (cm_callTy cmc_int bt_int T.b_int g__law_state_int (ca_cons (cm_bin cmo_add (cm_bin cmo_mul (cm_v (i := 1) rfl vs__law_state__law_seed nd__law_seed.1 nd__law_seed.2) (cm_int)) (cm_v (i := 2) rfl vs__law_state__law_cell nd__law_cell.1 nd__law_cell.2)) (ca_nil) rfl) nn_int nd_int.1 rfl rfl) (cm_int)) rfl (.inl rfl))) rfl pass_cx (fun _ => rfl))
  (cs_one (c1_ret (cm_lstO (ca_cons (cm_lc (own := [("_law_cell", 2)]) rfl sc__law_state.nd (blkOk_by (N := N__law_state) (sc := defScope s__law_state) (by decide +kernel)) (bind1 (by decide)) (fun _ _ _ _ _ => L2.pg_name sc__law_state.nd (i := 2) rfl (.inl rfl) (.inr rfl)) (ci_seq (cm_v (i := 0) rfl vs__law_state__law_script nd__law_script.1 nd__law_script.2)) (fun _ _ _ _ _ => cts_nil) (fun _ _ _ _ _ => cm_callB cmc_abs bb_abs T.b_abs rfl (ca_cons (cm_callTy cmc_int bt_int T.b_int rfl (ca_cons (cm_v (i := 2) rfl (by first | exact Or.inl rfl | exact Or.inr (Or.inl rfl) | exact Or.inr (Or.inr rfl)) nd__law_cell.1 nd__law_cell.2) (ca_nil) rfl) nn_int nd_int.1 rfl rfl) (ca_nil) rfl) nn_abs nd_abs.1 rfl rfl) (fun _ => rfl)) (ca_cons (cm_bin cmo_add (cm_v (i := 1) rfl vs__law_state__law_seed nd__law_seed.1 nd__law_seed.2) (cm_int)) (ca_nil) rfl) rfl) (by decide)))))
abbrev s__law_draw : Stmt := top 8
abbrev N__law_draw : List Str := ["_law_state_here", "_law_many", "_law_cells", "_law_value", "_law_mixed"]
theorem sc__law_draw : FnScope N__law_draw ["_law_state_here", "_law_many"] (defScope s__law_draw) := ⟨rfl, rfl, rfl, by decide +kernel, rfl, by decide +kernel, by decide +kernel⟩
theorem lo__law_draw__law_state_here : Loc (defScope s__law_draw) "_law_state_here" := by first | exact .inl rfl | exact .inr rfl
theorem vs__law_draw__law_state_here : Vis (defScope s__law_draw) "_law_state_here" := lo__law_draw__law_state_here.elim .inl fun z => .inr (.inl z)
theorem lo__law_draw__law_many : Loc (defScope s__law_draw) "_law_many" := by first | exact .inl rfl | exact .inr rfl
theorem vs__law_draw__law_many : Vis (defScope s__law_draw) "_law_many" := lo__law_draw__law_many.elim .inl fun z => .inr (.inl z)
theorem lo__law_draw__law_cells : Loc (defScope s__law_draw) "_law_cells" := by first | exact .inl rfl | exact .inr rfl
theorem vs__law_draw__law_cells : Vis (defScope s__law_draw) "_law_cells" := lo__law_draw__law_cells.elim .inl fun z => .inr (.inl z)
theorem lo__law_draw__law_value : Loc (defScope s__law_draw) "_law_value" := by first | exact .inl rfl | exact .inr rfl
theorem vs__law_draw__law_value : Vis (defScope s__law_draw) "_law_value" := lo__law_draw__law_value.elim .inl fun z => .inr (.inl z)
theorem lo__law_draw__law_mixed : Loc (defScope s__law_draw) "_law_mixed" := by first | exact .inl rfl | exact .inr rfl
theorem vs__law_draw__law_mixed : Vis (defScope s__law_draw) "_law_mixed" := lo__law_draw__law_mixed.elim .inl fun z => .inr (.inl z)
theorem g__law_draw_len : (defScope s__law_draw).names.lookup ("len" : Str) = some .globalImplicit := rfl
theorem g__law_draw_int : (defScope s__law_draw).names.lookup ("int" : Str) = some .globalImplicit := rfl
def T__law_draw (CS : Nat → Addr) : FT := fnT 5 (sCo (sSet 2 (eIx oIx (eV 0) (eC (.int 0)))) (
  sCo (sWhile (tAnd (tCmp oGt (eCB cLen (aC (eV 2) (aN))) (eC (.int 0))) (tCmp oEq (eIx oIx (eV 2) (eC (.int 0))) (eC (.int 0)))) (sExpr (ePopAt (eV 2) (eC (.int 0))))) (
  sCo (sIf (tCmp oGt (eCB cLen (aC (eV 2) (aN))) (eC (.int 0))) (sCo (sSet 3 (eIx oIx (eV 2) (eC (.int 0)))) (
  sCo (sAsg (gSub (eV 2) (eC (.int 0))) (eBin oDiv (eV 3) (eV 1))) (
  sRet (eBin oMod (eCB cInt (aC (eV 3) (aN))) (eV 1))))) (sNo)) (
  sCo (sSet 4 (eBin oMod (eCB cInt (aC (eBin oAdd (eBin oMul (eIx oIx (eV 0) (eC (.int 1))) (eC (.int 48271))) (eC (.int 12345))) (aN))) (eC (.int 2147483647)))) (
  sCo (sAsg (gSub (eV 0) (eC (.int 1))) (eV 4)) (
  sRet (eBin oMod (eCB cInt (aC (eBin oDiv (eV 4) (eC (.int 64))) (aN))) (eV 1))))))))
theorem ok__law_draw {f : Addr} {fd : FuncData} {CS : Nat → Addr} (F : Fun K "_law_draw" "_law_draw" s__law_draw f fd) (T : Txt K mg CS) : FnOk P w K mg base (L2.CX P w) 1 f fd ["_law_state_here", "_law_many"] (spX K 2 (T__law_draw CS)) :=
  okX F sc__law_draw rfl rfl (by decide) fun cdv A outer s H E hr =>
  cs_cons (c1_set sc__law_draw.nd rfl lo__law_draw__law_cells (cm_ix cmi_ix (cm_v (i := 0) rfl vs__law_draw__law_state_here nd__law_state_here.1 nd__law_state_here.2) (cm_int) (fun _ _ => rfl)) rfl (.inl rfl))
  (cs_cons (c1_while (ct_pw (cpw_and (ct_cmp cmo_gt (cm_callB cmc_len bb_len T.b_len g__law_draw_len (ca_cons (cm_v (i := 2) rfl vs__law_draw__law_cells nd__law_cells.1 nd__law_cells.2) (ca_nil) rfl) nn_len nd_len.1 rfl rfl) (cm_int) rfl) (cpw_and1 (ct_cmp (cmo_eq hr) (cm_ix cmi_ix (cm_v (i := 2) rfl vs__law_draw__law_cells nd__law_cells.1 nd__law_cells.2) (cm_int) (fun _ _ => rfl)) (cm_int) rfl)))) (cs_one (c1_expr (cm_popAt (cm_v (i := 2) rfl vs__law_draw__law_cells nd__law_cells.1 nd__law_cells.2) (cm_int) rfl rfl rfl rfl) rfl)) pass_cx)
  (cs_cons (c1_if (ct_cmp cmo_gt (cm_callB cmc_len bb_len T.b_len g__law_draw_len (ca_cons (cm_v (i := 2) rfl vs__law_draw__law_cells nd__law_cells.1 nd__law_cells.2) (ca_nil) rfl) nn_len nd_len.1 rfl rfl) (cm_int) rfl) (cs_cons (c1_set sc__law_draw.nd rfl lo__law_draw__law_value (cm_ix cmi_ix (cm_v (i := 2) rfl vs__law_draw__law_cells nd__law_cells.1 nd__law_cells.2) (cm_int) (fun _ _ => rfl)) rfl (.inl rfl))
  (cs_cons (c1_asg (cg_sub (cm_v (i := 2) rfl vs__law_draw__law_cells nd__law_cells.1 nd__law_cells.2) (cm_int) (fun _ => rfl)) (cm_bin cmo_div (cm_v (i := 3) rfl vs__law_draw__law_value nd__law_value.1 nd__law_value.2) (cm_v (i := 1) rfl vs__law_draw__law_many nd__law_many.1 nd__law_many.2)) rfl rfl rfl)
  (cs_one (c1_ret (cm_bin cmo_mod (cm_callTy cmc_int bt_int T.b_int g__law_draw_int (ca_cons (cm_v (i := 3) rfl vs__law_draw__law_value nd__law_value.1 nd__law_value.2) (ca_nil) rfl) nn_int nd_int.1 rfl rfl) (cm_v (i := 1) rfl vs__law_draw__law_many nd__law_many.1 nd__law_many.2)))))) (cs_nil))
  (cs_cons (c1_set sc__law_draw.nd rfl lo__law_draw__law_mixed (cm_bin cmo_mod (cm_callTy cmc_int bt_int T.b_int g__law_draw_int (ca_cons (cm_bin cmo_add (cm_bin cmo_mul (cm_ix cmi_ix (cm_v (i := 0) rfl vs__law_draw__law_state_here nd__law_state_here.1 nd__law_state_here.2) (cm_int) (fun _ _ => rfl)) (cm_int)) (cm_int)) (ca_nil) rfl) nn_int nd_int.1 rfl rfl) (cm_int)) rfl (.inl rfl))
  (cs_cons (c1_asg (cg_sub (cm_v (i := 0) rfl vs__law_draw__law_state_here nd__law_state_here.1 nd__law_state_here.2) (cm_int) (fun _ => rfl)) (cm_v (i := 4) rfl vs__law_draw__law_mixed nd__law_mixed.1 nd__law_mixed.2) rfl rfl rfl)
  (cs_one (c1_ret (cm_bin cmo_mod (cm_callTy cmc_int bt_int T.b_int g__law_draw_int (ca_cons (cm_bin cmo_div (cm_v (i := 4) rfl vs__law_draw__law_mixed nd__law_mixed.1 nd__law_mixed.2) (cm_int)) (ca_nil) rfl) nn_int nd_int.1 rfl rfl) (cm_v (i := 1) rfl vs__law_draw__law_many nd__law_many.1 nd__law_many.2))))))))
abbrev s__law_pick : Stmt := top 9
abbrev N__law_pick : List Str := ["_law_state_here", "_law_row"]
theorem sc__law_pick : FnScope N__law_pick ["_law_state_here", "_law_row"] (defScope s__law_pick) := ⟨rfl, rfl, rfl, by decide +kernel, rfl, by decide +kernel, by decide +kernel⟩
theorem lo__law_pick__law_state_here : Loc (defScope s__law_pick) "_law_state_here" := by first | exact .inl rfl | exact .inr rfl
theorem vs__law_pick__law_state_here : Vis (defScope s__law_pick) "_law_state_here" := lo__law_pick__law_state_here.elim .inl fun z => .inr (.inl z)
theorem lo__law_pick__law_row : Loc (defScope s__law_pick) "_law_row" := by first | exact .inl rfl | exact .inr rfl
theorem vs__law_pick__law_row : Vis (defScope s__law_pick) "_law_row" := lo__law_pick__law_row.elim .inl fun z => .inr (.inl z)
theorem g__law_pick__law_draw : (defScope s__law_pick).names.lookup ("_law_draw" : Str) = some .globalImplicit := rfl
theorem g__law_pick_len : (defScope s__law_pick).names.lookup ("len" : Str) = some .globalImplicit := rfl
def T__law_pick (CS : Nat → Addr) : FT := fnT 2 (sRet (eIx oIx (eV 1) (eCall (T__law_draw CS) (aC (eV 0) (aC (eCB cLen (aC (eV 1) (aN))) (aN))))))
theorem ok__law_pick {f : Addr} {fd : FuncData} {CS : Nat → Addr} (F : Fun K "_law_pick" "_law_pick" s__law_pick f fd) (T : Txt K mg CS) (C__law_draw : CalX P w K mg base 1 "_law_draw" 2 (T__law_draw CS)) : FnOk P w K mg base (L2.CX P w) 2 f fd ["_law_state_here", "_law_row"] (spX K 2 (T__law_pick CS)) :=
  okX F sc__law_pick rfl rfl (by decide) fun cdv A outer s H E hr =>
  cs_one (c1_ret (cm_ix cmi_ix (cm_v (i := 1) rfl vs__law_pick__law_row nd__law_row.1 nd__law_row.2) (cm_call C__law_draw (hr.mono (by decide)) g__law_pick__law_draw (ca_cons (cm_v (i := 0) rfl vs__law_pick__law_state_here nd__law_state_here.1 nd__law_state_here.2) (ca_cons (cm_callB cmc_len bb_len T.b_len g__law_pick_len (ca_cons (cm_v (i := 1) rfl vs__law_pick__law_row nd__law_row.1 nd__law_row.2) (ca_nil) rfl) nn_len nd_len.1 rfl rfl) (ca_nil) rfl) rfl) nd__law_draw.1 rfl rfl) (fun _ _ => rfl)))
abbrev s__law_word : Stmt := top 10
abbrev N__law_word : List Str := ["_law_state_here", "_law_edges"]
theorem sc__law_word : FnScope N__law_word ["_law_state_here"] (defScope s__law_word) := ⟨rfl, rfl, rfl, by decide +kernel, rfl, by decide +kernel, by decide +kernel⟩
theorem lo__law_word__law_state_here : Loc (defScope s__law_word) "_law_state_here" := by first | exact .inl rfl | exact .inr rfl
theorem vs__law_word__law_state_here : Vis (defScope s__law_word) "_law_state_here" := lo__law_word__law_state_here.elim .inl fun z => .inr (.inl z)
theorem lo__law_word__law_edges : Loc (defScope s__law_word) "_law_edges" := by first | exact .inl rfl | exact .inr rfl
theorem vs__law_word__law_edges : Vis (defScope s__law_word) "_law_edges" := lo__law_word__law_edges.elim .inl fun z => .inr (.inl z)
theorem g__law_word__law_draw : (defScope s__law_word).names.lookup ("_law_draw" : Str) = some .globalImplicit := rfl
theorem g__law_word__law_pick : (defScope s__law_word).names.lookup ("_law_pick" : Str) = some .globalImplicit := rfl
def T__law_word (CS : Nat → Addr) : FT := fnT 2 (sCo (sSet 1 (eLst (aC (eC (.int 0)) (aC (eC (.int 1)) (aC (eC (.int 32768)) (aC (eC (.int 65535)) (aC (eC (.int 65536)) (aC (eC (.int 2147483647)) (aC (eC (.int 2147483648)) (aC (eC (.int 4294967295)) (aN))))))))))) (
  sCo (sIf (tCmp oEq (eCall (T__law_draw CS) (aC (eV 0) (aC (eC (.int 3)) (aN)))) (eC (.int 0))) (sRet (eCall (T__law_pick CS) (aC (eV 0) (aC (eV 1) (aN))))) (sNo)) (
  sRet (eCall (T__law_draw CS) (aC (eV 0) (aC (eCall (T__law_pick CS) (aC (eV 0) (aC (eLst (aC (eC (.int 7)) (aC (eC (.int 4294967296)) (aN)))) (aN)))) (aN)))))))
theorem ok__law_word {f : Addr} {fd : FuncData} {CS : Nat → Addr} (F : Fun K "_law_word" "_law_word" s__law_word f fd) (T : Txt K mg CS) (C__law_draw : CalX P w K mg base 1 "_law_draw" 2 (T__law_draw CS)) (C__law_pick : CalX P w K mg base 2 "_law_pick" 2 (T__law_pick CS)) : FnOk P w K mg base (L2.CX P w) 3 f fd ["_law_state_here"] (spX K 1 (T__law_word CS)) :=
  okX F sc__law_word rfl rfl (by decide) fun cdv A outer s H E hr =>
  cs_cons (c1_set sc__law_word.nd rfl lo__law_word__law_edges (cm_lst (ca_cons (cm_int) (ca_cons (cm_int) (ca_cons (cm_int) (ca_cons (cm_int) (ca_cons (cm_int) (ca_cons (cm_int) (ca_cons (cm_int) (ca_cons (cm_int) (ca_nil) rfl) rfl) rfl) rfl) rfl) rfl) rfl) rfl) (by decide)) rfl (.inl rfl))
  (cs_cons (c1_if (ct_cmp (cmo_eq hr) (cm_call C__law_draw (hr.mono (by decide)) g__law_word__law_draw (ca_cons (cm_v (i := 0) rfl vs__law_word__law_state_here nd__law_state_here.1 nd__law_state_here.2) (ca_cons (cm_int) (ca_nil) rfl) rfl) nd__law_draw.1 rfl rfl) (cm_int) rfl) (cs_one (c1_ret (cm_call C__law_pick (hr.mono (by decide)) g__law_word__law_pick (ca_cons (cm_v (i := 0) rfl vs__law_word__law_state_here nd__law_state_here.1 nd__law_state_here.2) (ca_cons (cm_v (i := 1) rfl vs__law_word__law_edges nd__law_edges.1 nd__law_edges.2) (ca_nil) rfl) rfl) nd__law_pick.1 rfl rfl))) (cs_nil))
  (cs_one (c1_ret (cm_call C__law_draw (hr.mono (by decide)) g__law_word__law_draw (ca_cons (cm_v (i := 0) rfl vs__law_word__law_state_here nd__law_state_here.1 nd__law_state_here.2) (ca_cons (cm_call C__law_pick (hr.mono (by decide)) g__law_word__law_pick (ca_cons (cm_v (i := 0) rfl vs__law_word__law_state_here nd__law_state_here.1 nd__law_state_here.2) (ca_cons (cm_lst (ca_cons (cm_int) (ca_cons (cm_int) (ca_nil) rfl) rfl) (by decide)) (ca_nil) rfl) rfl) nd__law_pick.1 rfl rfl) (ca_nil) rfl) rfl) nd__law_draw.1 rfl rfl))))
abbrev s__law_expr : Stmt := top 11
abbrev N__law_expr : List Str := ["_law_state_here", "_law_env", "_law_deep", "_law_signs", "_law_kind", "_law_rows", "_law_first", "_law_name", "_law_size"]
theorem sc__law_expr : FnScope N__law_expr ["_law_state_here", "_law_env", "_law_deep"] (defScope s__law_expr) := ⟨rfl, rfl, rfl, by decide +kernel, rfl, by decide +kernel, by decide +kernel⟩
theorem lo__law_expr__law_state_here : Loc (defScope s__law_expr) "_law_state_here" := by first | exact .inl rfl | exact .inr rfl
theorem vs__law_expr__law_state_here : Vis (defScope s__law_expr) "_law_state_here" := lo__law_expr__law_state_here.elim .inl fun z => .inr (.inl z)
theorem lo__law_expr__law_env : Loc (defScope s__law_expr) "_law_env" := by first | exact .inl rfl | exact .inr rfl
theorem vs__law_expr__law_env : Vis (defScope s__law_expr) "_law_env" := lo__law_expr__law_env.elim .inl fun z => .inr (.inl z)
theorem lo__law_expr__law_deep : Loc (defScope s__law_expr) "_law_deep" := by first | exact .inl rfl | exact .inr rfl
theorem vs__law_expr__law_deep : Vis (defScope s__law_expr) "_law_deep" := lo__law_expr__law_deep.elim .inl fun z => .inr (.inl z)
theorem lo__law_expr__law_signs : Loc (defScope s__law_expr) "_law_signs" := by first | exact .inl rfl | exact .inr rfl
theorem vs__law_expr__law_signs : Vis (defScope s__law_expr) "_law_signs" := lo__law_expr__law_signs.elim .inl fun z => .inr (.inl z)
theorem lo__law_expr__law_kind : Loc (defScope s__law_expr) "_law_kind" := by first | exact .inl rfl | exact .inr rfl
theorem vs__law_expr__law_kind : Vis (defScope s__law_expr) "_law_kind" := lo__law_expr__law_kind.elim .inl fun z => .inr (.inl z)
theorem lo__law_expr__law_rows : Loc (defScope s__law_expr) "_law_rows" := by first | exact .inl rfl | exact .inr rfl
theorem vs__law_expr__law_rows : Vis (defScope s__law_expr) "_law_rows" := lo__law_expr__law_rows.elim .inl fun z => .inr (.inl z)
theorem lo__law_expr__law_first : Loc (defScope s__law_expr) "_law_first" := by first | exact .inl rfl | exact .inr rfl
theorem vs__law_expr__law_first : Vis (defScope s__law_expr) "_law_first" := lo__law_expr__law_first.elim .inl fun z => .inr (.inl z)
theorem g__law_expr__law_draw : (defScope s__law_expr).names.lookup ("_law_draw" : Str) = some .globalImplicit := rfl
theorem g__law_expr_len : (defScope s__law_expr).names.lookup ("len" : Str) = some .globalImplicit := rfl
theorem g__law_expr__law_word : (defScope s__law_expr).names.lookup ("_law_word" : Str) = some .globalImplicit := rfl
theorem g__law_expr__law_pick : (defScope s__law_expr).names.lookup ("_law_pick" : Str) = some .globalImplicit := rfl
theorem g__law_expr__law_expr : (defScope s__law_expr).names.lookup ("_law_expr" : Str) = some .globalImplicit := rfl
def B__law_expr (CS : Nat → Addr) (R : Nat → FT) : FT := fnT 9 (sCo (sSet 3 (eLst (aC (eC (.str "+")) (aC (eC (.str "-")) (aC (eC (.str "*")) (aC (eC (.str "/")) (aC (eC (.str "mod")) (aC (eC (.str "&")) (aC (eC (.str "|")) (aC (eC (.str "^")) (aC (eC (.str "<<")) (aC (eC (.str ">>")) (aC (eC (.str "<")) (aC (eC (.str "<=")) (aC (eC (.str "~<")) (aC (eC (.str "~<=")) (aC (eC (.str "==")) (aC (eC (.str "!=")) (aC (eC (.str "and")) (aC (eC (.str "or")) (aN))))))))))))))))))))) (
  sCo (sSet 4 (eCall (T__law_draw CS) (aC (eV 0) (aC (eC (.int 6)) (aN))))) (
  sCo (sIf (tOr (tCmp oLe (eV 2) (eC (.int 1))) (tCmp oLt (eV 4) (eC (.int 2)))) (sCo (sSet 5 (eBin oAdd (eLc false [7, 8] (b2 7 8) (iSeq (eIx oIx (eV 1) (eC (.int 0)))) (tCmp oEq (eV 8) (eC (.int 0))) (eTup (aC (eC (.str "cell")) (aC (eV 7) (aN))))) (eLc false [7] (b1 7) (iSeq (eIx oIx (eV 1) (eC (.int 1)))) (tYes) (eTup (aC (eC (.str "cell")) (aC (eV 7) (aN))))))) (
  sCo (sIf (tOr (tCmp oEq (eCB cLen (aC (eV 5) (aN))) (eC (.int 0))) (tCmp oEq (eCall (T__law_draw CS) (aC (eV 0) (aC (eC (.int 3)) (aN)))) (eC (.int 0)))) (sRet (eTup (aC (eC (.str "num")) (aC (eCall (T__law_word CS) (aC (eV 0) (aN))) (aN))))) (sNo)) (
  sRet (eCall (T__law_pick CS) (aC (eV 0) (aC (eV 5) (aN))))))) (sNo)) (
  sCo (sSet 5 (eLc false [7, 8] (b2 7 8) (iSeq (eIx oIx (eV 1) (eC (.int 0)))) (tCmp oGt (eV 8) (eC (.int 0))) (eV 7))) (
  sCo (sIf (tAnd (tCmp oEq (eV 4) (eC (.int 2))) (tCmp oGt (eCB cLen (aC (eV 5) (aN))) (eC (.int 0)))) (sRet (eTup (aC (eC (.str "at")) (aC (eCall (T__law_pick CS) (aC (eV 0) (aC (eV 5) (aN)))) (aC (eCall (R 0) (aC (eV 0) (aC (eV 1) (aC (eBin oSub (eV 2) (eC (.int 1))) (aN))))) (aN)))))) (sNo)) (
  sCo (sIf (tCmp oEq (eV 4) (eC (.int 3))) (sRet (eTup (aC (eCall (T__law_pick CS) (aC (eV 0) (aC (eLst (aC (eC (.str "neg")) (aC (eC (.str "inv")) (aC (eC (.str "not")) (aN))))) (aN)))) (aC (eCall (R 0) (aC (eV 0) (aC (eV 1) (aC (eBin oSub (eV 2) (eC (.int 1))) (aN))))) (aN))))) (sNo)) (
  sCo (sSet 6 (eCall (R 0) (aC (eV 0) (aC (eV 1) (aC (eBin oSub (eV 2) (eC (.int 1))) (aN)))))) (
  sRet (eTup (aC (eCall (T__law_pick CS) (aC (eV 0) (aC (eV 3) (aN)))) (aC (eV 6) (aC (eCall (R 0) (aC (eV 0) (aC (eV 1) (aC (eBin oSub (eV 2) (eC (.int 1))) (aN))))) (aN)))))))))))))
theorem ok__law_expr {f : Addr} {fd : FuncData} {CS : Nat → Addr} {lv : Nat} {R : Nat → FT} (hl : 3 ≤ lv) (F : Fun K "_law_expr" "_law_expr" s__law_expr f fd) (T : Txt K mg CS) (C__law_draw : CalX P w K mg base 1 "_law_draw" 2 (T__law_draw CS)) (C__law_expr : CalX P w K mg base lv "_law_expr" 3 (R 0)) (C__law_pick : CalX P w K mg base 2 "_law_pick" 2 (T__law_pick CS)) (C__law_word : CalX P w K mg base 3 "_law_word" 1 (T__law_word CS)) : FnOk P w K mg base (L2.CX P w) (lv + 1) f fd ["_law_state_here", "_law_env", "_law_deep"] (spX K 3 (B__law_expr CS R)) :=
  okX F sc__law_expr rfl rfl (by decide) fun cdv A outer s H E hr =>
  cs_cons (c1_set sc__law_expr.nd rfl lo__law_expr__law_signs (cm_lst (ca_cons (cm_str) (ca_cons (cm_str) (ca_cons (cm_str) (ca_cons (cm_str) (ca_cons (cm_str) (ca_cons (cm_str) (ca_cons (cm_str) (ca_cons (cm_str) (ca_cons (cm_str) (ca_cons (cm_str) (ca_cons (cm_str) (ca_cons (cm_str) (ca_cons (cm_str) (ca_cons (cm_str) (ca_cons (cm_str) (ca_cons (cm_str) (ca_cons (cm_str) (ca_cons (cm_str) (ca_nil) rfl) rfl) rfl) rfl) rfl) rfl) rfl) rfl) rfl) rfl) rfl) rfl) rfl) rfl) rfl) rfl) rfl) rfl) (by decide)) rfl (.inl rfl))
  (cs_cons (c1_set sc__law_expr.nd rfl lo__law_expr__law_kind (cm_call C__law_draw (hr.mono (by omega)) g__law_expr__law_draw (ca_cons (cm_v (i := 0) rfl vs__law_expr__law_state_here nd__law_state_here.1 nd__law_state_here.2) (ca_cons (cm_int) (ca_nil) rfl) rfl) nd__law_draw.1 rfl rfl) rfl (.inl rfl))
  (cs_cons (c1_if (ct_pw (cpw_or (ct_cmp cmo_le (cm_v (i := 2) rfl vs__law_expr__law_deep nd__law_deep.1 nd__law_deep.2) (cm_int) rfl) (cpw_or1 (ct_cmp cmo_lt (cm_v (i := 4) rfl vs__law_expr__law_kind nd__law_kind.1 nd__law_kind.2) (cm_int) rfl)))) (cs_cons (c1_set sc__law_expr.nd rfl lo__law_expr__law_rows (cm_bin cmo_add (cm_lc (own := [("_law_name", 7), ("_law_size", 8)]) rfl sc__law_expr.nd (blkOk_by (N := N__law_expr) (sc := defScope s__law_expr) (by decide +kernel)) (bind2 (by decide) (by decide)) (fun _ _ _ _ _ => L2.pg_tup (n := 2) rfl (L2.pgs_cons (L2.pg_name sc__law_expr.nd (i := 7) rfl (.inl rfl) (.inr rfl)) (L2.pgs_cons (L2.pg_name sc__law_expr.nd (i := 8) rfl (.inl rfl) (.inr rfl)) L2.pgs_nil))) (ci_seq (cm_ix cmi_ix (cm_v (i := 1) rfl vs__law_expr__law_env nd__law_env.1 nd__law_env.2) (cm_int) (fun _ _ => rfl))) (fun _ _ _ _ _ => cts_one (ct_cmp (cmo_eq hr) (cm_v (i := 8) rfl (by first | exact Or.inl rfl | exact Or.inr (Or.inl rfl) | exact Or.inr (Or.inr rfl)) nd__law_size.1 nd__law_size.2) (cm_int) rfl)) (fun _ _ _ _ _ => cm_tup (ca_cons (cm_str) (ca_cons (cm_v (i := 7) rfl (by first | exact Or.inl rfl | exact Or.inr (Or.inl rfl) | exact Or.inr (Or.inr rfl)) nd__law_name.1 nd__law_name.2) (ca_nil) rfl) rfl) (by decide)) (fun _ => rfl)) (cm_lc (own := [("_law_name", 7)]) rfl sc__law_expr.nd (blkOk_by (N := N__law_expr) (sc := defScope s__law_expr) (by decide +kernel)) (bind1 (by decide)) (fun _ _ _ _ _ => L2.pg_name sc__law_expr.nd (i := 7) rfl (.inl rfl) (.inr rfl)) (ci_seq (cm_ix cmi_ix (cm_v (i := 1) rfl vs__law_expr__law_env nd__law_env.1 nd__law_env.2) (cm_int) (fun _ _ => rfl))) (fun _ _ _ _ _ => cts_nil) (fun _ _ _ _ _ => cm_tup (ca_cons (cm_str) (ca_cons (cm_v (i := 7) rfl (by first | exact Or.inl rfl | exact Or.inr (Or.inl rfl) | exact Or.inr (Or.inr rfl)) nd__law_name.1 nd__law_name.2) (ca_nil) rfl) rfl) (by decide)) (fun _ => rfl))) rfl (.inl rfl))
  (cs_cons (c1_if (ct_pw (cpw_or (ct_cmp (cmo_eq hr) (cm_callB cmc_len bb_len T.b_len g__law_expr_len (ca_cons (cm_v (i := 5) rfl vs__law_expr__law_rows nd__law_rows.1 nd__law_rows.2) (ca_nil) rfl) nn_len nd_len.1 rfl rfl) (cm_int) rfl) (cpw_or1 (ct_cmp (cmo_eq hr) (cm_call C__law_draw (hr.mono (by omega)) g__law_expr__law_draw (ca_cons (cm_v (i := 0) rfl vs__law_expr__law_state_here nd__law_state_here.1 nd__law_state_here.2) (ca_cons (cm_int) (ca_nil) rfl) rfl) nd__law_draw.1 rfl rfl) (cm_int) rfl)))) (cs_one (c1_ret (cm_tup (ca_cons (cm_str) (ca_cons (cm_call C__law_word (hr.mono (by omega)) g__law_expr__law_word (ca_cons (cm_v (i := 0) rfl vs__law_expr__law_state_here nd__law_state_here.1 nd__law_state_here.2) (ca_nil) rfl) nd__law_word.1 rfl rfl) (ca_nil) rfl) rfl) (by decide)))) (cs_nil))
  (cs_one (c1_ret (cm_call C__law_pick (hr.mono (by omega)) g__law_expr__law_pick (ca_cons (cm_v (i := 0) rfl vs__law_expr__law_state_here nd__law_state_here.1 nd__law_state_here.2) (ca_cons (cm_v (i := 5) rfl vs__law_expr__law_rows nd__law_rows.1 nd__law_rows.2) (ca_nil) rfl) rfl) nd__law_pick.1 rfl rfl))))) (cs_nil))
  (cs_cons ((by first | exact c1_setLc (iy := 5) (own := [("_law_name", 7), ("_law_size", 8)]) rfl sc__law_expr.nd (blkOk_by (N := N__law_expr) (sc := defScope s__law_expr) (by decide +kernel)) (bind2 (by decide) (by decide)) (fun _ _ _ _ _ => L2.pg_tup (n := 2) rfl (L2.pgs_cons (L2.pg_name sc__law_expr.nd (i := 7) rfl (.inl rfl) (.inr rfl)) (L2.pgs_cons (L2.pg_name sc__law_expr.nd (i := 8) rfl (.inl rfl) (.inr rfl)) L2.pgs_nil))) (ci_seq (cm_ix cmi_ix (cm_v (i := 1) rfl vs__law_expr__law_env nd__law_env.1 nd__law_env.2) (cm_int) (fun _ _ => rfl))) (fun _ _ _ _ _ => cts_one (ct_cmp cmo_gt (cm_v (i := 8) rfl (by first | exact Or.inl rfl | exact Or.inr (Or.inl rfl) | exact Or.inr (Or.inr rfl)) nd__law_size.1 nd__law_size.2) (cm_int) rfl)) (fun _ _ _ _ _ => cm_v (i := 7) rfl (by first | exact Or.inl rfl | exact Or.inr (Or.inl rfl) | exact Or.inr (Or.inr rfl)) nd__law_name.1 nd__law_name.2) rfl rfl (sw_true rfl rfl rfl (by decide +kernel)) (fun _ => rfl) | exact c1_set (i := 5) sc__law_expr.nd rfl lo__law_expr__law_rows (cm_lc (own := [("_law_name", 7), ("_law_size", 8)]) rfl sc__law_expr.nd (blkOk_by (N := N__law_expr) (sc := defScope s__law_expr) (by decide +kernel)) (bind2 (by decide) (by decide)) (fun _ _ _ _ _ => L2.pg_tup (n := 2) rfl (L2.pgs_cons (L2.pg_name sc__law_expr.nd (i := 7) rfl (.inl rfl) (.inr rfl)) (L2.pgs_cons (L2.pg_name sc__law_expr.nd (i := 8) rfl (.inl rfl) (.inr rfl)) L2.pgs_nil))) (ci_seq (cm_ix cmi_ix (cm_v (i := 1) rfl vs__law_expr__law_env nd__law_env.1 nd__law_env.2) (cm_int) (fun _ _ => rfl))) (fun _ _ _ _ _ => cts_one (ct_cmp cmo_gt (cm_v (i := 8) rfl (by first | exact Or.inl rfl | exact Or.inr (Or.inl rfl) | exact Or.inr (Or.inr rfl)) nd__law_size.1 nd__law_size.2) (cm_int) rfl)) (fun _ _ _ _ _ => cm_v (i := 7) rfl (by first | exact Or.inl rfl | exact Or.inr (Or.inl rfl) | exact Or.inr (Or.inr rfl)) nd__law_name.1 nd__law_name.2) (fun _ => rfl)) rfl (.inl rfl)))
  (cs_cons (c1_if (ct_pw (cpw_and (ct_cmp (cmo_eq hr) (cm_v (i := 4) rfl vs__law_expr__law_kind nd__law_kind.1 nd__law_kind.2) (cm_int) rfl) (cpw_and1 (ct_cmp cmo_gt (cm_callB cmc_len bb_len T.b_len g__law_expr_len (ca_cons (cm_v (i := 5) rfl vs__law_expr__law_rows nd__law_rows.1 nd__law_rows.2) (ca_nil) rfl) nn_len nd_len.1 rfl rfl) (cm_int) rfl)))) (cs_one (c1_ret (cm_tup (ca_cons (cm_str) (ca_cons (cm_call C__law_pick (hr.mono (by omega)) g__law_expr__law_pick (ca_cons (cm_v (i := 0) rfl vs__law_expr__law_state_here nd__law_state_here.1 nd__law_state_here.2) (ca_cons (cm_v (i := 5) rfl vs__law_expr__law_rows nd__law_rows.1 nd__law_rows.2) (ca_nil) rfl) rfl) nd__law_pick.1 rfl rfl) (ca_cons (cm_call C__law_expr (hr.mono (by omega)) g__law_expr__law_expr (ca_cons (cm_v (i := 0) rfl vs__law_expr__law_state_here nd__law_state_here.1 nd__law_state_here.2) (ca_cons (cm_v (i := 1) rfl vs__law_expr__law_env nd__law_env.1 nd__law_env.2) (ca_cons (cm_bin cmo_sub (cm_v (i := 2) rfl vs__law_expr__law_deep nd__law_deep.1 nd__law_deep.2) (cm_int)) (ca_nil) rfl) rfl) rfl) nd__law_expr.1 rfl rfl) (ca_nil) rfl) rfl) rfl) (by decide)))) (cs_nil))
  (cs_cons (c1_if (ct_cmp (cmo_eq hr) (cm_v (i := 4) rfl vs__law_expr__law_kind nd__law_kind.1 nd__law_kind.2) (cm_int) rfl) (cs_one (c1_ret (cm_tup (ca_cons (cm_call C__law_pick (hr.mono (by omega)) g__law_expr__law_pick (ca_cons (cm_v (i := 0) rfl vs__law_expr__law_state_here nd__law_state_here.1 nd__law_state_here.2) (ca_cons (cm_lst (ca_cons (cm_str) (ca_cons (cm_str) (ca_cons (cm_str) (ca_nil) rfl) rfl) rfl) (by decide)) (ca_nil) rfl) rfl) nd__law_pick.1 rfl rfl) (ca_cons (cm_call C__law_expr (hr.mono (by omega)) g__law_expr__law_expr (ca_cons (cm_v (i := 0) rfl vs__law_expr__law_state_here nd__law_state_here.1 nd__law_state_here.2) (ca_cons (cm_v (i := 1) rfl vs__law_expr__law_env nd__law_env.1 nd__law_env.2) (ca_cons (cm_bin cmo_sub (cm_v (i := 2) rfl vs__law_expr__law_deep nd__law_deep.1 nd__law_deep.2) (cm_int)) (ca_nil) rfl) rfl) rfl) nd__law_expr.1 rfl rfl) (ca_nil) rfl) rfl) (by decide)))) (cs_nil))
  (cs_cons (c1_set sc__law_expr.nd rfl lo__law_expr__law_first (cm_call C__law_expr (hr.mono (by omega)) g__law_expr__law_expr (ca_cons (cm_v (i := 0) rfl vs__law_expr__law_state_here nd__law_state_here.1 nd__law_state_here.2) (ca_cons (cm_v (i := 1) rfl vs__law_expr__law_env nd__law_env.1 nd__law_env.2) (ca_cons (cm_bin cmo_sub (cm_v (i := 2) rfl vs__law_expr__law_deep nd__law_deep.1 nd__law_deep.2) (cm_int)) (ca_nil) rfl) rfl) rfl) nd__law_expr.1 rfl rfl) rfl (.inl rfl))
  (cs_one (c1_ret (cm_tup (ca_cons (cm_call C__law_pick (hr.mono (by omega)) g__law_expr__law_pick (ca_cons (cm_v (i := 0) rfl vs__law_expr__law_state_here nd__law_state_here.1 nd__law_state_here.2) (ca_cons (cm_v (i := 3) rfl vs__law_expr__law_signs nd__law_signs.1 nd__law_signs.2) (ca_nil) rfl) rfl) nd__law_pick.1 rfl rfl) (ca_cons (cm_v (i := 6) rfl vs__law_expr__law_first nd__law_first.1 nd__law_first.2) (ca_cons (cm_call C__law_expr (hr.mono (by omega)) g__law_expr__law_expr (ca_cons (cm_v (i := 0) rfl vs__law_expr__law_state_here nd__law_state_here.1 nd__law_state_here.2) (ca_cons (cm_v (i := 1) rfl vs__law_expr__law_env nd__law_env.1 nd__law_env.2) (ca_cons (cm_bin cmo_sub (cm_v (i := 2) rfl vs__law_expr__law_deep nd__law_deep.1 nd__law_deep.2) (cm_int)) (ca_nil) rfl) rfl) rfl) nd__law_expr.1 rfl rfl) (ca_nil) rfl) rfl) rfl) (by decide))))))))))
def TS_0 (CS : Nat → Addr) : Nat → Nat → FT
  | 0 => fun _ => noT
  | n + 1 => fun i => match i with | _ => B__law_expr CS (TS_0 CS n)
def T__law_expr (CS : Nat → Addr) : FT := TS_0 CS 8 0
abbrev s__law_place : Stmt := top 12
abbrev N__law_place : List Str := ["_law_state_here", "_law_env", "_law_name", "_law_size"]
theorem sc__law_place : FnScope N__law_place ["_law_state_here", "_law_env"] (defScope s__law_place) := ⟨rfl, rfl, rfl, by decide +kernel, rfl, by decide +kernel, by decide +kernel⟩
theorem lo__law_place__law_state_here : Loc (defScope s__law_place) "_law_state_here" := by first | exact .inl rfl | exact .inr rfl
theorem vs__law_place__law_state_here : Vis (defScope s__law_place) "_law_state_here" := lo__law_place__law_state_here.elim .inl fun z => .inr (.inl z)
theorem lo__law_place__law_env : Loc (defScope s__law_place) "_law_env" := by first | exact .inl rfl | exact .inr rfl
theorem vs__law_place__law_env : Vis (defScope s__law_place) "_law_env" := lo__law_place__law_env.elim .inl fun z => .inr (.inl z)
theorem lo__law_place__law_name : Loc (defScope s__law_place) "_law_name" := by first | exact .inl rfl | exact .inr rfl
theorem vs__law_place__law_name : Vis (defScope s__law_place) "_law_name" := lo__law_place__law_name.elim .inl fun z => .inr (.inl z)
theorem lo__law_place__law_size : Loc (defScope s__law_place) "_law_size" := by first | exact .inl rfl | exact .inr rfl
theorem vs__law_place__law_size : Vis (defScope s__law_place) "_law_size" := lo__law_place__law_size.elim .inl fun z => .inr (.inl z)
theorem g__law_place__law_pick : (defScope s__law_place).names.lookup ("_law_pick" : Str) = some .globalImplicit := rfl
theorem g__law_place__law_expr : (defScope s__law_place).names.lookup ("_law_expr" : Str) = some .globalImplicit := rfl
def T__law_place (CS : Nat → Addr) : FT := fnT 4 (sCo (sAsg (gTup 2 (gsC (gName 2) (gsC (gName 3) (gsN)))) (eCall (T__law_pick CS) (aC (eV 0) (aC (eIx oIx (eV 1) (eC (.int 0))) (aN))))) (
  sCo (sIf (tCmp oEq (eV 3) (eC (.int 0))) (sRet (eTup (aC (eC (.str "cell")) (aC (eV 2) (aN))))) (sNo)) (
  sRet (eTup (aC (eC (.str "at")) (aC (eV 2) (aC (eCall (T__law_expr CS) (aC (eV 0) (aC (eV 1) (aC (eC (.int 2)) (aN))))) (aN))))))))
theorem ok__law_place {f : Addr} {fd : FuncData} {CS : Nat → Addr} (F : Fun K "_law_place" "_law_place" s__law_place f fd) (T : Txt K mg CS) (C__law_pick : CalX P w K mg base 2 "_law_pick" 2 (T__law_pick CS)) (C__law_expr : CalX P w K mg base 12 "_law_expr" 3 (T__law_expr CS)) : FnOk P w K mg base (L2.CX P w) 13 f fd ["_law_state_here", "_law_env"] (spX K 2 (T__law_place CS)) :=
  okX F sc__law_place rfl rfl (by decide) fun cdv A outer s H E hr =>
  cs_cons (c1_asg (cg_tup rfl (cgs_cons (cg_name sc__law_place.nd rfl lo__law_place__law_name (.inl rfl)) (cgs_cons (cg_name sc__law_place.nd rfl lo__law_place__law_size (.inl rfl)) (cgs_nil) rfl) rfl) rfl rfl) (cm_call C__law_pick (hr.mono (by decide)) g__law_place__law_pick (ca_cons (cm_v (i := 0) rfl vs__law_place__law_state_here nd__law_state_here.1 nd__law_state_here.2) (ca_cons (cm_ix cmi_ix (cm_v (i := 1) rfl vs__law_place__law_env nd__law_env.1 nd__law_env.2) (cm_int) (fun _ _ => rfl)) (ca_nil) rfl) rfl) nd__law_pick.1 rfl rfl) rfl rfl rfl)
  (cs_cons (c1_if (ct_cmp (cmo_eq hr) (cm_v (i := 3) rfl vs__law_place__law_size nd__law_size.1 nd__law_size.2) (cm_int) rfl) (cs_one (c1_ret (cm_tup (ca_cons (cm_str) (ca_cons (cm_v (i := 2) rfl vs__law_place__law_name nd__law_name.1 nd__law_name.2) (ca_nil) rfl) rfl) (by decide)))) (cs_nil))
  (cs_one (c1_ret (cm_tup (ca_cons (cm_str) (ca_cons (cm_v (i := 2) rfl vs__law_place__law_name nd__law_name.1 nd__law_name.2) (ca_cons (cm_call C__law_expr (hr.mono (by decide)) g__law_place__law_expr (ca_cons (cm_v (i := 0) rfl vs__law_place__law_state_here nd__law_state_here.1 nd__law_state_here.2) (ca_cons (cm_v (i := 1) rfl vs__law_place__law_env nd__law_env.1 nd__law_env.2) (ca_cons (cm_int) (ca_nil) rfl) rfl) rfl) nd__law_expr.1 rfl rfl) (ca_nil) rfl) rfl) rfl) (by decide)))))
abbrev s__law_body : Stmt := top 14
abbrev N__law_body : List Str := ["_law_state_here", "_law_env", "_law_nested", "_law_k"]
theorem sc__law_body : FnScope N__law_body ["_law_state_here", "_law_env", "_law_nested"] (defScope s__law_body) := ⟨rfl, rfl, rfl, by decide +kernel, rfl, by decide +kernel, by decide +kernel⟩
theorem lo__law_body__law_state_here : Loc (defScope s__law_body) "_law_state_here" := by first | exact .inl rfl | exact .inr rfl
theorem vs__law_body__law_state_here : Vis (defScope s__law_body) "_law_state_here" := lo__law_body__law_state_here.elim .inl fun z => .inr (.inl z)
theorem lo__law_body__law_env : Loc (defScope s__law_body) "_law_env" := by first | exact .inl rfl | exact .inr rfl
theorem vs__law_body__law_env : Vis (defScope s__law_body) "_law_env" := lo__law_body__law_env.elim .inl fun z => .inr (.inl z)
theorem lo__law_body__law_nested : Loc (defScope s__law_body) "_law_nested" := by first | exact .inl rfl | exact .inr rfl
theorem vs__law_body__law_nested : Vis (defScope s__law_body) "_law_nested" := lo__law_body__law_nested.elim .inl fun z => .inr (.inl z)
theorem g__law_body_range : (defScope s__law_body).names.lookup ("range" : Str) = some .globalImplicit := rfl
theorem g__law_body__law_draw : (defScope s__law_body).names.lookup ("_law_draw" : Str) = some .globalImplicit := rfl
def B__law_body (CS : Nat → Addr) (R : Nat → FT) : FT := fnT 4 (sRet (eLc false [3] (b1 3) (iR1 (eCall (T__law_draw CS) (aC (eV 0) (aC (eBin oAdd (eC (.int 2)) (eV 2)) (aN))))) (tYes) (eCall (R 1) (aC (eV 0) (aC (eV 1) (aC (eV 2) (aN)))))))
theorem ok__law_body {f : Addr} {fd : FuncData} {CS : Nat → Addr} {lv : Nat} {R : Nat → FT} (hl : 13 ≤ lv) (F : Fun K "_law_body" "_law_body" s__law_body f fd) (T : Txt K mg CS) (C__law_statement : CalX P w K mg base lv "_law_statement" 3 (R 1)) (C__law_draw : CalX P w K mg base 1 "_law_draw" 2 (T__law_draw CS)) : FnOk P w K mg base (L2.CX P w) (lv + 1) f fd ["_law_state_here", "_law_env", "_law_nested"] (spX K 3 (B__law_body CS R)) :=
  okX F sc__law_body rfl rfl (by decide) fun cdv A outer s H E hr =>
  cs_one (c1_ret (cm_lc (own := [("_law_k", 3)]) rfl sc__law_body.nd (blkOk_by (N := N__law_body) (sc := defScope s__law_body) (by decide +kernel)) (bind1 (by decide)) (fun _ _ _ _ _ => L2.pg_name sc__law_body.nd (i := 3) rfl (.inl rfl) (.inr rfl)) (ci_range1 g__law_body_range T.b_range (cm_call C__law_draw (hr.mono (by omega)) g__law_body__law_draw (ca_cons (cm_v (i := 0) rfl vs__law_body__law_state_here nd__law_state_here.1 nd__law_state_here.2) (ca_cons (cm_bin cmo_add (cm_int) (cm_v (i := 2) rfl vs__law_body__law_nested nd__law_nested.1 nd__law_nested.2)) (ca_nil) rfl) rfl) nd__law_draw.1 rfl rfl) rfl) (fun _ _ _ _ _ => cts_nil) (fun _ _ _ _ _ => cm_call C__law_statement (hr.mono (by omega)) rfl (ca_cons (cm_v (i := 0) rfl (by first | exact Or.inl rfl | exact Or.inr (Or.inl rfl) | exact Or.inr (Or.inr rfl)) nd__law_state_here.1 nd__law_state_here.2) (ca_cons (cm_v (i := 1) rfl (by first | exact Or.inl rfl | exact Or.inr (Or.inl rfl) | exact Or.inr (Or.inr rfl)) nd__law_env.1 nd__law_env.2) (ca_cons (cm_v (i := 2) rfl (by first | exact Or.inl rfl | exact Or.inr (Or.inl rfl) | exact Or.inr (Or.inr rfl)) nd__law_nested.1 nd__law_nested.2) (ca_nil) rfl) rfl) rfl) nd__law_statement.1 rfl rfl) (fun _ => rfl)))
abbrev s__law_statement : Stmt := top 13
abbrev N__law_statement : List Str := ["_law_state_here", "_law_env", "_law_nested", "_law_kind", "_law_test", "_law_name", "_law_inner", "_law_thing", "_law_operation", "_law_many", "_law_args", "_law_way", "_law_k"]
theorem sc__law_statement : FnScope N__law_statement ["_law_state_here", "_law_env", "_law_nested"] (defScope s__law_statement) := ⟨rfl, rfl, rfl, by decide +kernel, rfl, by decide +kernel, by decide +kernel⟩
theorem lo__law_statement__law_state_here : Loc (defScope s__law_statement) "_law_state_here" := by first | exact .inl rfl | exact .inr rfl
theorem vs__law_statement__law_state_here : Vis (defScope s__law_statement) "_law_state_here" := lo__law_statement__law_state_here.elim .inl fun z => .inr (.inl z)
theorem lo__law_statement__law_env : Loc (defScope s__law_statement) "_law_env" := by first | exact .inl rfl | exact .inr rfl
theorem vs__law_statement__law_env : Vis (defScope s__law_statement) "_law_env" := lo__law_statement__law_env.elim .inl fun z => .inr (.inl z)
theorem lo__law_statement__law_nested : Loc (defScope s__law_statement) "_law_nested" := by first | exact .inl rfl | exact .inr rfl
theorem vs__law_statement__law_nested : Vis (defScope s__law_statement) "_law_nested" := lo__law_statement__law_nested.elim .inl fun z => .inr (.inl z)
theorem lo__law_statement__law_kind : Loc (defScope s__law_statement) "_law_kind" := by first | exact .inl rfl | exact .inr rfl
theorem vs__law_statement__law_kind : Vis (defScope s__law_statement) "_law_kind" := lo__law_statement__law_kind.elim .inl fun z => .inr (.inl z)
theorem lo__law_statement__law_test : Loc (defScope s__law_statement) "_law_test" := by first | exact .inl rfl | exact .inr rfl
theorem vs__law_statement__law_test : Vis (defScope s__law_statement) "_law_test" := lo__law_statement__law_test.elim .inl fun z => .inr (.inl z)
theorem lo__law_statement__law_name : Loc (defScope s__law_statement) "_law_name" := by first | exact .inl rfl | exact .inr rfl
theorem vs__law_statement__law_name : Vis (defScope s__law_statement) "_law_name" := lo__law_statement__law_name.elim .inl fun z => .inr (.inl z)
theorem lo__law_statement__law_inner : Loc (defScope s__law_statement) "_law_inner" := by first | exact .inl rfl | exact .inr rfl
theorem vs__law_statement__law_inner : Vis (defScope s__law_statement) "_law_inner" := lo__law_statement__law_inner.elim .inl fun z => .inr (.inl z)
theorem lo__law_statement__law_thing : Loc (defScope s__law_statement) "_law_thing" := by first | exact .inl rfl | exact .inr rfl
theorem vs__law_statement__law_thing : Vis (defScope s__law_statement) "_law_thing" := lo__law_statement__law_thing.elim .inl fun z => .inr (.inl z)
theorem lo__law_statement__law_operation : Loc (defScope s__law_statement) "_law_operation" := by first | exact .inl rfl | exact .inr rfl
theorem vs__law_statement__law_operation : Vis (defScope s__law_statement) "_law_operation" := lo__law_statement__law_operation.elim .inl fun z => .inr (.inl z)
theorem lo__law_statement__law_many : Loc (defScope s__law_statement) "_law_many" := by first | exact .inl rfl | exact .inr rfl
theorem vs__law_statement__law_many : Vis (defScope s__law_statement) "_law_many" := lo__law_statement__law_many.elim .inl fun z => .inr (.inl z)
theorem lo__law_statement__law_args : Loc (defScope s__law_statement) "_law_args" := by first | exact .inl rfl | exact .inr rfl
theorem vs__law_statement__law_args : Vis (defScope s__law_statement) "_law_args" := lo__law_statement__law_args.elim .inl fun z => .inr (.inl z)
theorem lo__law_statement__law_way : Loc (defScope s__law_statement) "_law_way" := by first | exact .inl rfl | exact .inr rfl
theorem vs__law_statement__law_way : Vis (defScope s__law_statement) "_law_way" := lo__law_statement__law_way.elim .inl fun z => .inr (.inl z)
theorem g__law_statement__law_draw : (defScope s__law_statement).names.lookup ("_law_draw" : Str) = some .globalImplicit := rfl
theorem g__law_statement__law_expr : (defScope s__law_statement).names.lookup ("_law_expr" : Str) = some .globalImplicit := rfl
theorem g__law_statement__law_body : (defScope s__law_statement).names.lookup ("_law_body" : Str) = some .globalImplicit := rfl
theorem g__law_statement_str : (defScope s__law_statement).names.lookup ("str" : Str) = some .globalImplicit := rfl
theorem g__law_statement_len : (defScope s__law_statement).names.lookup ("len" : Str) = some .globalImplicit := rfl
theorem g__law_statement__law_pick : (defScope s__law_statement).names.lookup ("_law_pick" : Str) = some .globalImplicit := rfl
theorem g__law_statement_range : (defScope s__law_statement).names.lookup ("range" : Str) = some .globalImplicit := rfl
theorem g__law_statement__law_place : (defScope s__law_statement).names.lookup ("_law_place" : Str) = some .globalImplicit := rfl
def B__law_statement (CS : Nat → Addr) (R : Nat → FT) : FT := fnT 13 (sCo (sSet 3 (eCall (T__law_draw CS) (aC (eV 0) (aC (eC (.int 8)) (aN))))) (
  sCo (sIf (tAnd (tCmp oEq (eV 3) (eC (.int 0))) (tCmp oGt (eV 2) (eC (.int 0)))) (sCo (sSet 4 (eCall (T__law_expr CS) (aC (eV 0) (aC (eV 1) (aC (eC (.int 2)) (aN)))))) (
  sRet (eTup (aC (eC (.str "if")) (aC (eV 4) (aC (eCall (R 0) (aC (eV 0) (aC (eV 1) (aC (eBin oSub (eV 2) (eC (.int 1))) (aN))))) (aC (eCall (R 0) (aC (eV 0) (aC (eV 1) (aC (eBin oSub (eV 2) (eC (.int 1))) (aN))))) (aN)))))))) (sNo)) (
  sCo (sIf (tAnd (tCmp oLe (eV 3) (eC (.int 2))) (tAnd (tCmp oGt (eV 2) (eC (.int 0))) (tCmp oGt (eIx oIx (eV 1) (eC (.int 4))) (eC (.int 0))))) (sCo (sSet 4 (eC .non)) (
  sCo (sIf (tCmp oEq (eV 3) (eC (.int 2))) (sSet 4 (eCall (T__law_expr CS) (aC (eV 0) (aC (eV 1) (aC (eC (.int 2)) (aN)))))) (sNo)) (
  sCo (sSet 5 (eBin oAdd (eC (.str "i")) (eCB cStrI (aC (eV 2) (aN))))) (
  sCo (sSet 6 (eLst (aC (eIx oIx (eV 1) (eC (.int 0))) (aC (eBin oAdd (eIx oIx (eV 1) (eC (.int 1))) (eLst (aC (eV 5) (aN)))) (aC (eIx oIx (eV 1) (eC (.int 2))) (aC (eIx oIx (eV 1) (eC (.int 3))) (aC (eBin oSub (eIx oIx (eV 1) (eC (.int 4))) (eC (.int 1))) (aN)))))))) (
  sRet (eTup (aC (eC (.str "loop")) (aC (eV 5) (aC (eBin oAdd (eC (.int 1)) (eCall (T__law_draw CS) (aC (eV 0) (aC (eC (.int 4)) (aN))))) (aC (eV 4) (aC (eCall (R 0) (aC (eV 0) (aC (eV 6) (aC (eBin oSub (eV 2) (eC (.int 1))) (aN))))) (aN)))))))))))) (sNo)) (
  sCo (sIf (tAnd (tCmp oLe (eV 3) (eC (.int 4))) (tCmp oGt (eCB cLen (aC (eIx oIx (eV 1) (eC (.int 3))) (aN))) (eC (.int 0)))) (sCo (sAsg (gTup 3 (gsC (gName 7) (gsC (gName 8) (gsC (gName 9) (gsN))))) (eCall (T__law_pick CS) (aC (eV 0) (aC (eIx oIx (eV 1) (eC (.int 3))) (aN))))) (
  sCo (sSet 10 (eLc false [12] (b1 12) (iR1 (eV 9)) (tYes) (eCall (T__law_expr CS) (aC (eV 0) (aC (eV 1) (aC (eC (.int 2)) (aN))))))) (
  sRet (eTup (aC (eC (.str "call")) (aC (eCall (T__law_pick CS) (aC (eV 0) (aC (eLst (aC (eC .non) (aC (eCall (T__law_place CS) (aC (eV 0) (aC (eV 1) (aN)))) (aN)))) (aN)))) (aC (eV 7) (aC (eV 8) (aC (eV 10) (aN)))))))))) (sNo)) (
  sCo (sIf (tAnd (tCmp oLe (eV 3) (eC (.int 6))) (tCmp oGt (eCB cLen (aC (eIx oIx (eV 1) (eC (.int 2))) (aN))) (eC (.int 0)))) (sCo (sAsg (gTup 2 (gsC (gName 11) (gsC (gName 5) (gsN)))) (eCall (T__law_pick CS) (aC (eV 0) (aC (eIx oIx (eV 1) (eC (.int 2))) (aN))))) (
  sCo (sIf (tCmp oEq (eV 11) (eC (.str "out"))) (sRet (eTup (aC (eC (.str "write")) (aC (eV 5) (aC (eCall (T__law_expr CS) (aC (eV 0) (aC (eV 1) (aC (eC (.int 3)) (aN))))) (aN)))))) (sNo)) (
  sRet (eTup (aC (eC (.str "read")) (aC (eCall (T__law_place CS) (aC (eV 0) (aC (eV 1) (aN)))) (aC (eV 5) (aN)))))))) (sNo)) (
  sRet (eTup (aC (eC (.str "set")) (aC (eCall (T__law_place CS) (aC (eV 0) (aC (eV 1) (aN)))) (aC (eCall (T__law_expr CS) (aC (eV 0) (aC (eV 1) (aC (eBin oAdd (eC (.int 1)) (eCall (T__law_draw CS) (aC (eV 0) (aC (eC (.int 3)) (aN))))) (aN))))) (aN)))))))))))
theorem ok__law_statement {f : Addr} {fd : FuncData} {CS : Nat → Addr} {lv : Nat} {R : Nat → FT} (hl : 13 ≤ lv) (F : Fun K "_law_statement" "_law_statement" s__law_statement f fd) (T : Txt K mg CS) (C__law_draw : CalX P w K mg base 1 "_law_draw" 2 (T__law_draw CS)) (C__law_expr : CalX P w K mg base 12 "_law_expr" 3 (T__law_expr CS)) (C__law_pick : CalX P w K mg base 2 "_law_pick" 2 (T__law_pick CS)) (C__law_place : CalX P w K mg base 13 "_law_place" 2 (T__law_place CS)) (C__law_body : CalX P w K mg base lv "_law_body" 3 (R 0)) : FnOk P w K mg base (L2.CX P w) (lv + 1) f fd ["_law_state_here", "_law_env", "_law_nested"] (spX K 3 (B__law_statement CS R)) :=
  okX F sc__law_statement rfl rfl (by decide) fun cdv A outer s H E hr =>
  cs_cons (c1_set sc__law_statement.nd rfl lo__law_statement__law_kind (cm_call C__law_draw (hr.mono (by omega)) g__law_statement__law_draw (ca_cons (cm_v (i := 0) rfl vs__law_statement__law_state_here nd__law_state_here.1 nd__law_state_here.2) (ca_cons (cm_int) (ca_nil) rfl) rfl) nd__law_draw.1 rfl rfl) rfl (.inl rfl))
  (cs_cons (c1_if (ct_pw (cpw_and (ct_cmp (cmo_eq hr) (cm_v (i := 3) rfl vs__law_statement__law_kind nd__law_kind.1 nd__law_kind.2) (cm_int) rfl) (cpw_and1 (ct_cmp cmo_gt (cm_v (i := 2) rfl vs__law_statement__law_nested nd__law_nested.1 nd__law_nested.2) (cm_int) rfl)))) (cs_cons (c1_set sc__law_statement.nd rfl lo__law_statement__law_test (cm_call C__law_expr (hr.mono (by omega)) g__law_statement__law_expr (ca_cons (cm_v (i := 0) rfl vs__law_statement__law_state_here nd__law_state_here.1 nd__law_state_here.2) (ca_cons (cm_v (i := 1) rfl vs__law_statement__law_env nd__law_env.1 nd__law_env.2) (ca_cons (cm_int) (ca_nil) rfl) rfl) rfl) nd__law_expr.1 rfl rfl) rfl (.inl rfl))
  (cs_one (c1_ret (cm_tup (ca_cons (cm_str) (ca_cons (cm_v (i := 4) rfl vs__law_statement__law_test nd__law_test.1 nd__law_test.2) (ca_cons (cm_call C__law_body (hr.mono (by omega)) g__law_statement__law_body (ca_cons (cm_v (i := 0) rfl vs__law_statement__law_state_here nd__law_state_here.1 nd__law_state_here.2) (ca_cons (cm_v (i := 1) rfl vs__law_statement__law_env nd__law_env.1 nd__law_env.2) (ca_cons (cm_bin cmo_sub (cm_v (i := 2) rfl vs__law_statement__law_nested nd__law_nested.1 nd__law_nested.2) (cm_int)) (ca_nil) rfl) rfl) rfl) nd__law_body.1 rfl rfl) (ca_cons (cm_call C__law_body (hr.mono (by omega)) g__law_statement__law_body (ca_cons (cm_v (i := 0) rfl vs__law_statement__law_state_here nd__law_state_here.1 nd__law_state_here.2) (ca_cons (cm_v (i := 1) rfl vs__law_statement__law_env nd__law_env.1 nd__law_env.2) (ca_cons (cm_bin cmo_sub (cm_v (i := 2) rfl vs__law_statement__law_nested nd__law_nested.1 nd__law_nested.2) (cm_int)) (ca_nil) rfl) rfl) rfl) nd__law_body.1 rfl rfl) (ca_nil) rfl) rfl) rfl) rfl) (by decide))))) (cs_nil))
  (cs_cons (c1_if (ct_pw (cpw_and (ct_cmp cmo_le (cm_v (i := 3) rfl vs__law_statement__law_kind nd__law_kind.1 nd__law_kind.2) (cm_int) rfl) (cpw_and (ct_cmp cmo_gt (cm_v (i := 2) rfl vs__law_statement__law_nested nd__law_nested.1 nd__law_nested.2) (cm_int) rfl) (cpw_and1 (ct_cmp cmo_gt (cm_ix cmi_ix (cm_v (i := 1) rfl vs__law_statement__law_env nd__law_env.1 nd__law_env.2) (cm_int) (fun _ _ => rfl)) (cm_int) rfl))))) (cs_cons (c1_set sc__law_statement.nd rfl lo__law_statement__law_test (cm_non) rfl (.inl rfl))
  (cs_cons (c1_if (ct_cmp (cmo_eq hr) (cm_v (i := 3) rfl vs__law_statement__law_kind nd__law_kind.1 nd__law_kind.2) (cm_int) rfl) (cs_one (c1_set sc__law_statement.nd rfl lo__law_statement__law_test (cm_call C__law_expr (hr.mono (by omega)) g__law_statement__law_expr (ca_cons (cm_v (i := 0) rfl vs__law_statement__law_state_here nd__law_state_here.1 nd__law_state_here.2) (ca_cons (cm_v (i := 1) rfl vs__law_statement__law_env nd__law_env.1 nd__law_env.2) (ca_cons (cm_int) (ca_nil) rfl) rfl) rfl) nd__law_expr.1 rfl rfl) rfl (.inl rfl))) (cs_nil))
  (cs_cons (c1_set sc__law_statement.nd rfl lo__law_statement__law_name (cm_bin cmo_add (cm_str) (cm_callTy cmc_strI bt_str T.b_str g__law_statement_str (ca_cons (cm_v (i := 2) rfl vs__law_statement__law_nested nd__law_nested.1 nd__law_nested.2) (ca_nil) rfl) nn_str nd_str.1 rfl rfl)) rfl (.inl rfl))
  (cs_cons (c1_set sc__law_statement.nd rfl lo__law_statement__law_inner (cm_lst (ca_cons (cm_ix cmi_ix (cm_v (i := 1) rfl vs__law_statement__law_env nd__law_env.1 nd__law_env.2) (cm_int) (fun _ _ => rfl)) (ca_cons (cm_bin cmo_add (cm_ix cmi_ix (cm_v (i := 1) rfl vs__law_statement__law_env nd__law_env.1 nd__law_env.2) (cm_int) (fun _ _ => rfl)) (cm_lst (ca_cons (cm_v (i := 5) rfl vs__law_statement__law_name nd__law_name.1 nd__law_name.2) (ca_nil) rfl) (by decide))) (ca_cons (cm_ix cmi_ix (cm_v (i := 1) rfl vs__law_statement__law_env nd__law_env.1 nd__law_env.2) (cm_int) (fun _ _ => rfl)) (ca_cons (cm_ix cmi_ix (cm_v (i := 1) rfl vs__law_statement__law_env nd__law_env.1 nd__law_env.2) (cm_int) (fun _ _ => rfl)) (ca_cons (cm_bin cmo_sub (cm_ix cmi_ix (cm_v (i := 1) rfl vs__law_statement__law_env nd__law_env.1 nd__law_env.2) (cm_int) (fun _ _ => rfl)) (cm_int)) (ca_nil) rfl) rfl) rfl) rfl) rfl) (by decide)) rfl (.inl rfl))
  (cs_one (c1_ret (cm_tup (ca_cons (cm_str) (ca_cons (cm_v (i := 5) rfl vs__law_statement__law_name nd__law_name.1 nd__law_name.2) (ca_cons (cm_bin cmo_add (cm_int) (cm_call C__law_draw (hr.mono (by omega)) g__law_statement__law_draw (ca_cons (cm_v (i := 0) rfl vs__law_statement__law_state_here nd__law_state_here.1 nd__law_state_here.2) (ca_cons (cm_int) (ca_nil) rfl) rfl) nd__law_draw.1 rfl rfl)) (ca_cons (cm_v (i := 4) rfl vs__law_statement__law_test nd__law_test.1 nd__law_test.2) (ca_cons (cm_call C__law_body (hr.mono (by omega)) g__law_statement__law_body (ca_cons (cm_v (i := 0) rfl vs__law_statement__law_state_here nd__law_state_here.1 nd__law_state_here.2) (ca_cons (cm_v (i := 6) rfl vs__law_statement__law_inner nd__law_inner.1 nd__law_inner.2) (ca_cons (cm_bin cmo_sub (cm_v (i := 2) rfl vs__law_statement__law_nested nd__law_nested.1 nd__law_nested.2) (cm_int)) (ca_nil) rfl) rfl) rfl) nd__law_body.1 rfl rfl) (ca_nil) rfl) rfl) rfl) rfl) rfl) (by decide)))))))) (cs_nil))
  (cs_cons (c1_if (ct_pw (cpw_and (ct_cmp cmo_le (cm_v (i := 3) rfl vs__law_statement__law_kind nd__law_kind.1 nd__law_kind.2) (cm_int) rfl) (cpw_and1 (ct_cmp cmo_gt (cm_callB cmc_len bb_len T.b_len g__law_statement_len (ca_cons (cm_ix cmi_ix (cm_v (i := 1) rfl vs__law_statement__law_env nd__law_env.1 nd__law_env.2) (cm_int) (fun _ _ => rfl)) (ca_nil) rfl) nn_len nd_len.1 rfl rfl) (cm_int) rfl)))) (cs_cons (c1_asg (cg_tup rfl (cgs_cons (cg_name sc__law_statement.nd rfl lo__law_statement__law_thing (.inl rfl)) (cgs_cons (cg_name sc__law_statement.nd rfl lo__law_statement__law_operation (.inl rfl)) (cgs_cons (cg_name sc__law_statement.nd rfl lo__law_statement__law_many (.inl rfl)) (cgs_nil) rfl) rfl) rfl) rfl rfl) (cm_call C__law_pick (hr.mono (by omega)) g__law_statement__law_pick (ca_cons (cm_v (i := 0) rfl vs__law_statement__law_state_here nd__law_state_here.1 nd__law_state_here.2) (ca_cons (cm_ix cmi_ix (cm_v (i := 1) rfl vs__law_statement__law_env nd__law_env.1 nd__law_env.2) (cm_int) (fun _ _ => rfl)) (ca_nil) rfl) rfl) nd__law_pick.1 rfl rfl) rfl rfl rfl)
  (cs_cons ((by first | exact c1_setLc (iy := 10) (own := [("_law_k", 12)]) rfl sc__law_statement.nd (blkOk_by (N := N__law_statement) (sc := defScope s__law_statement) (by decide +kernel)) (bind1 (by decide)) (fun _ _ _ _ _ => L2.pg_name sc__law_statement.nd (i := 12) rfl (.inl rfl) (.inr rfl)) (ci_range1 g__law_statement_range T.b_range (cm_v (i := 9) rfl vs__law_statement__law_many nd__law_many.1 nd__law_many.2) rfl) (fun _ _ _ _ _ => cts_nil) (fun _ _ _ _ _ => cm_call C__law_expr (hr.mono (by omega)) rfl (ca_cons (cm_v (i := 0) rfl (by first | exact Or.inl rfl | exact Or.inr (Or.inl rfl) | exact Or.inr (Or.inr rfl)) nd__law_state_here.1 nd__law_state_here.2) (ca_cons (cm_v (i := 1) rfl (by first | exact Or.inl rfl | exact Or.inr (Or.inl rfl) | exact Or.inr (Or.inr rfl)) nd__law_env.1 nd__law_env.2) (ca_cons (cm_int) (ca_nil) rfl) rfl) rfl) nd__law_expr.1 rfl rfl) rfl rfl (sw_true rfl rfl rfl (by decide +kernel)) (fun _ => rfl) | exact c1_set (i := 10) sc__law_statement.nd rfl lo__law_statement__law_args (cm_lc (own := [("_law_k", 12)]) rfl sc__law_statement.nd (blkOk_by (N := N__law_statement) (sc := defScope s__law_statement) (by decide +kernel)) (bind1 (by decide)) (fun _ _ _ _ _ => L2.pg_name sc__law_statement.nd (i := 12) rfl (.inl rfl) (.inr rfl)) (ci_range1 g__law_statement_range T.b_range (cm_v (i := 9) rfl vs__law_statement__law_many nd__law_many.1 nd__law_many.2) rfl) (fun _ _ _ _ _ => cts_nil) (fun _ _ _ _ _ => cm_call C__law_expr (hr.mono (by omega)) rfl (ca_cons (cm_v (i := 0) rfl (by first | exact Or.inl rfl | exact Or.inr (Or.inl rfl) | exact Or.inr (Or.inr rfl)) nd__law_state_here.1 nd__law_state_here.2) (ca_cons (cm_v (i := 1) rfl (by first | exact Or.inl rfl | exact Or.inr (Or.inl rfl) | exact Or.inr (Or.inr rfl)) nd__law_env.1 nd__law_env.2) (ca_cons (cm_int) (ca_nil) rfl) rfl) rfl) nd__law_expr.1 rfl rfl) (fun _ => rfl)) rfl (.inl rfl)))
  (cs_one (c1_ret (cm_tup (ca_cons (cm_str) (ca_cons (cm_call C__law_pick (hr.mono (by omega)) g__law_statement__law_pick (ca_cons (cm_v (i := 0) rfl vs__law_statement__law_state_here nd__law_state_here.1 nd__law_state_here.2) (ca_cons (cm_lst (ca_cons (cm_non) (ca_cons (cm_call C__law_place (hr.mono (by omega)) g__law_statement__law_place (ca_cons (cm_v (i := 0) rfl vs__law_statement__law_state_here nd__law_state_here.1 nd__law_state_here.2) (ca_cons (cm_v (i := 1) rfl vs__law_statement__law_env nd__law_env.1 nd__law_env.2) (ca_nil) rfl) rfl) nd__law_place.1 rfl rfl) (ca_nil) rfl) rfl) (by decide)) (ca_nil) rfl) rfl) nd__law_pick.1 rfl rfl) (ca_cons (cm_v (i := 7) rfl vs__law_statement__law_thing nd__law_thing.1 nd__law_thing.2) (ca_cons (cm_v (i := 8) rfl vs__law_statement__law_operation nd__law_operation.1 nd__law_operation.2) (ca_cons (cm_v (i := 10) rfl vs__law_statement__law_args nd__law_args.1 nd__law_args.2) (ca_nil) rfl) rfl) rfl) rfl) rfl) (by decide)))))) (cs_nil))
  (cs_cons (c1_if (ct_pw (cpw_and (ct_cmp cmo_le (cm_v (i := 3) rfl vs__law_statement__law_kind nd__law_kind.1 nd__law_kind.2) (cm_int) rfl) (cpw_and1 (ct_cmp cmo_gt (cm_callB cmc_len bb_len T.b_len g__law_statement_len (ca_cons (cm_ix cmi_ix (cm_v (i := 1) rfl vs__law_statement__law_env nd__law_env.1 nd__law_env.2) (cm_int) (fun _ _ => rfl)) (ca_nil) rfl) nn_len nd_len.1 rfl rfl) (cm_int) rfl)))) (cs_cons (c1_asg (cg_tup rfl (cgs_cons (cg_name sc__law_statement.nd rfl lo__law_statement__law_way (.inl rfl)) (cgs_cons (cg_name sc__law_statement.nd rfl lo__law_statement__law_name (.inl rfl)) (cgs_nil) rfl) rfl) rfl rfl) (cm_call C__law_pick (hr.mono (by omega)) g__law_statement__law_pick (ca_cons (cm_v (i := 0) rfl vs__law_statement__law_state_here nd__law_state_here.1 nd__law_state_here.2) (ca_cons (cm_ix cmi_ix (cm_v (i := 1) rfl vs__law_statement__law_env nd__law_env.1 nd__law_env.2) (cm_int) (fun _ _ => rfl)) (ca_nil) rfl) rfl) nd__law_pick.1 rfl rfl) rfl rfl rfl)
  (cs_cons (c1_if (ct_cmp (cmo_eq hr) (cm_v (i := 11) rfl vs__law_statement__law_way nd__law_way.1 nd__law_way.2) (cm_str) rfl) (cs_one (c1_ret (cm_tup (ca_cons (cm_str) (ca_cons (cm_v (i := 5) rfl vs__law_statement__law_name nd__law_name.1 nd__law_name.2) (ca_cons (cm_call C__law_expr (hr.mono (by omega)) g__law_statement__law_expr (ca_cons (cm_v (i := 0) rfl vs__law_statement__law_state_here nd__law_state_here.1 nd__law_state_here.2) (ca_cons (cm_v (i := 1) rfl vs__law_statement__law_env nd__law_env.1 nd__law_env.2) (ca_cons (cm_int) (ca_nil) rfl) rfl) rfl) nd__law_expr.1 rfl rfl) (ca_nil) rfl) rfl) rfl) (by decide)))) (cs_nil))
  (cs_one (c1_ret (cm_tup (ca_cons (cm_str) (ca_cons (cm_call C__law_place (hr.mono (by omega)) g__law_statement__law_place (ca_cons (cm_v (i := 0) rfl vs__law_statement__law_state_here nd__law_state_here.1 nd__law_state_here.2) (ca_cons (cm_v (i := 1) rfl vs__law_statement__law_env nd__law_env.1 nd__law_env.2) (ca_nil) rfl) rfl) nd__law_place.1 rfl rfl) (ca_cons (cm_v (i := 5) rfl vs__law_statement__law_name nd__law_name.1 nd__law_name.2) (ca_nil) rfl) rfl) rfl) (by decide)))))) (cs_nil))
  (cs_one (c1_ret (cm_tup (ca_cons (cm_str) (ca_cons (cm_call C__law_place (hr.mono (by omega)) g__law_statement__law_place (ca_cons (cm_v (i := 0) rfl vs__law_statement__law_state_here nd__law_state_here.1 nd__law_state_here.2) (ca_cons (cm_v (i := 1) rfl vs__law_statement__law_env nd__law_env.1 nd__law_env.2) (ca_nil) rfl) rfl) nd__law_place.1 rfl rfl) (ca_cons (cm_call C__law_expr (hr.mono (by omega)) g__law_statement__law_expr (ca_cons (cm_v (i := 0) rfl vs__law_statement__law_state_here nd__law_state_here.1 nd__law_state_here.2) (ca_cons (cm_v (i := 1) rfl vs__law_statement__law_env nd__law_env.1 nd__law_env.2) (ca_cons (cm_bin cmo_add (cm_int) (cm_call C__law_draw (hr.mono (by omega)) g__law_statement__law_draw (ca_cons (cm_v (i := 0) rfl vs__law_statement__law_state_here nd__law_state_here.1 nd__law_state_here.2) (ca_cons (cm_int) (ca_nil) rfl) rfl) nd__law_draw.1 rfl rfl)) (ca_nil) rfl) rfl) rfl) nd__law_expr.1 rfl rfl) (ca_nil) rfl) rfl) rfl) (by decide))))))))
def TS_1 (CS : Nat → Addr) : Nat → Nat → FT
  | 0 => fun _ => noT
  | n + 1 => fun i => match i with | 0 => B__law_body CS (TS_1 CS n) | _ => B__law_statement CS (TS_1 CS n)
def T__law_body (CS : Nat → Addr) : FT := TS_1 CS 10 0
def T__law_statement (CS : Nat → Addr) : FT := TS_1 CS 10 1
abbrev s__law_objects : Stmt := top 15
abbrev N__law_objects : List Str := ["_law_state_here", "_law_most", "_law_things", "_law_calls", "_law_j", "_law_fields", "_law_rows", "_law_k", "_law_params", "_law_own", "_law_cells", "_law_body_here", "_law_result", "_law_name", "_law_item"]
theorem sc__law_objects : FnScope N__law_objects ["_law_state_here", "_law_most"] (defScope s__law_objects) := ⟨rfl, rfl, rfl, by decide +kernel, rfl, by decide +kernel, by decide +kernel⟩
theorem lo__law_objects__law_state_here : Loc (defScope s__law_objects) "_law_state_here" := by first | exact .inl rfl | exact .inr rfl
theorem vs__law_objects__law_state_here : Vis (defScope s__law_objects) "_law_state_here" := lo__law_objects__law_state_here.elim .inl fun z => .inr (.inl z)
theorem lo__law_objects__law_most : Loc (defScope s__law_objects) "_law_most" := by first | exact .inl rfl | exact .inr rfl
theorem vs__law_objects__law_most : Vis (defScope s__law_objects) "_law_most" := lo__law_objects__law_most.elim .inl fun z => .inr (.inl z)
theorem lo__law_objects__law_things : Loc (defScope s__law_objects) "_law_things" := by first | exact .inl rfl | exact .inr rfl
theorem vs__law_objects__law_things : Vis (defScope s__law_objects) "_law_things" := lo__law_objects__law_things.elim .inl fun z => .inr (.inl z)
theorem lo__law_objects__law_calls : Loc (defScope s__law_objects) "_law_calls" := by first | exact .inl rfl | exact .inr rfl
theorem vs__law_objects__law_calls : Vis (defScope s__law_objects) "_law_calls" := lo__law_objects__law_calls.elim .inl fun z => .inr (.inl z)
theorem lo__law_objects__law_j : Loc (defScope s__law_objects) "_law_j" := by first | exact .inl rfl | exact .inr rfl
theorem vs__law_objects__law_j : Vis (defScope s__law_objects) "_law_j" := lo__law_objects__law_j.elim .inl fun z => .inr (.inl z)
theorem lo__law_objects__law_fields : Loc (defScope s__law_objects) "_law_fields" := by first | exact .inl rfl | exact .inr rfl
theorem vs__law_objects__law_fields : Vis (defScope s__law_objects) "_law_fields" := lo__law_objects__law_fields.elim .inl fun z => .inr (.inl z)
theorem lo__law_objects__law_rows : Loc (defScope s__law_objects) "_law_rows" := by first | exact .inl rfl | exact .inr rfl
theorem vs__law_objects__law_rows : Vis (defScope s__law_objects) "_law_rows" := lo__law_objects__law_rows.elim .inl fun z => .inr (.inl z)
theorem lo__law_objects__law_k : Loc (defScope s__law_objects) "_law_k" := by first | exact .inl rfl | exact .inr rfl
theorem vs__law_objects__law_k : Vis (defScope s__law_objects) "_law_k" := lo__law_objects__law_k.elim .inl fun z => .inr (.inl z)
theorem lo__law_objects__law_params : Loc (defScope s__law_objects) "_law_params" := by first | exact .inl rfl | exact .inr rfl
theorem vs__law_objects__law_params : Vis (defScope s__law_objects) "_law_params" := lo__law_objects__law_params.elim .inl fun z => .inr (.inl z)
theorem lo__law_objects__law_own : Loc (defScope s__law_objects) "_law_own" := by first | exact .inl rfl | exact .inr rfl
theorem vs__law_objects__law_own : Vis (defScope s__law_objects) "_law_own" := lo__law_objects__law_own.elim .inl fun z => .inr (.inl z)
theorem lo__law_objects__law_cells : Loc (defScope s__law_objects) "_law_cells" := by first | exact .inl rfl | exact .inr rfl
theorem vs__law_objects__law_cells : Vis (defScope s__law_objects) "_law_cells" := lo__law_objects__law_cells.elim .inl fun z => .inr (.inl z)
theorem lo__law_objects__law_body_here : Loc (defScope s__law_objects) "_law_body_here" := by first | exact .inl rfl | exact .inr rfl
theorem vs__law_objects__law_body_here : Vis (defScope s__law_objects) "_law_body_here" := lo__law_objects__law_body_here.elim .inl fun z => .inr (.inl z)
theorem lo__law_objects__law_result : Loc (defScope s__law_objects) "_law_result" := by first | exact .inl rfl | exact .inr rfl
theorem vs__law_objects__law_result : Vis (defScope s__law_objects) "_law_result" := lo__law_objects__law_result.elim .inl fun z => .inr (.inl z)
theorem g__law_objects_range : (defScope s__law_objects).names.lookup ("range" : Str) = some .globalImplicit := rfl
theorem g__law_objects__law_draw : (defScope s__law_objects).names.lookup ("_law_draw" : Str) = some .globalImplicit := rfl
theorem g__law_objects__law_pick : (defScope s__law_objects).names.lookup ("_law_pick" : Str) = some .globalImplicit := rfl
theorem g__law_objects__law_body : (defScope s__law_objects).names.lookup ("_law_body" : Str) = some .globalImplicit := rfl
theorem g__law_objects_list : (defScope s__law_objects).names.lookup ("list" : Str) = some .globalImplicit := rfl
theorem g__law_objects__law_expr : (defScope s__law_objects).names.lookup ("_law_expr" : Str) = some .globalImplicit := rfl
theorem g__law_objects_str : (defScope s__law_objects).names.lookup ("str" : Str) = some .globalImplicit := rfl
def T__law_objects (CS : Nat → Addr) : FT := fnT 15 (sCo (sSet 2 (eLst (aN))) (
  sCo (sSet 3 (eLst (aN))) (
  sCo (sFor (gName 4) (iR1 (eCall (T__law_draw CS) (aC (eV 0) (aC (eBin oAdd (eV 1) (eC (.int 1))) (aN))))) (sCo (sSet 5 (eLst (aC (eTup (aC (eC (.str "f")) (aC (eC (.int 0)) (aN)))) (aC (eTup (aC (eC (.str "g")) (aC (eCall (T__law_pick CS) (aC (eV 0) (aC (eLst (aC (eC (.int 0)) (aC (eC (.int 1)) (aC (eC (.int 3)) (aN))))) (aN)))) (aN)))) (aN))))) (
  sCo (sSet 6 (eLstO (aN))) (
  sCo (sFor (gName 7) (iR1 (eBin oAdd (eC (.int 1)) (eCall (T__law_draw CS) (aC (eV 0) (aC (eC (.int 2)) (aN)))))) (sCo (sSet 8 (eSl (eLst (aC (eC (.str "p")) (aC (eC (.str "q")) (aN)))) (pN) (pS (eCall (T__law_draw CS) (aC (eV 0) (aC (eC (.int 3)) (aN))))))) (
  sCo (sSet 9 (eLst (aC (eTup (aC (eC (.str "t")) (aC (eC (.int 0)) (aN)))) (aC (eTup (aC (eC (.str "u")) (aC (eCall (T__law_pick CS) (aC (eV 0) (aC (eLst (aC (eC (.int 0)) (aC (eC (.int 2)) (aN)))) (aN)))) (aN)))) (aN))))) (
  sCo (sSet 10 (eBin oAdd (eBin oAdd (eLc false [13] (b1 13) (iSeq (eV 8)) (tYes) (eTup (aC (eV 13) (aC (eC (.int 0)) (aN))))) (eV 5)) (eV 9))) (
  sCo (sSet 11 (eCall (T__law_body CS) (aC (eV 0) (aC (eLst (aC (eV 10) (aC (eLst (aN)) (aC (eLst (aN)) (aC (eCB cList (aC (eV 3) (aN))) (aC (eC (.int 1)) (aN))))))) (aC (eC (.int 1)) (aN)))))) (
  sCo (sSet 12 (eCall (T__law_pick CS) (aC (eV 0) (aC (eLst (aC (eC .non) (aC (eCall (T__law_expr CS) (aC (eV 0) (aC (eLst (aC (eV 10) (aC (eLst (aN)) (aC (eLst (aN)) (aC (eLst (aN)) (aC (eC (.int 0)) (aN))))))) (aC (eC (.int 2)) (aN))))) (aN)))) (aN))))) (
  sExpr (eApp (eV 6) (eTup (aC (eC (.str "operation")) (aC (eBin oAdd (eC (.str "do")) (eCB cStrI (aC (eV 7) (aN)))) (aC (eV 8) (aC (eV 9) (aC (eV 11) (aC (eV 12) (aN)))))))))))))))) (
  sCo (sSet 3 (eBin oAdd (eV 3) (eLc false [14] (b1 14) (iSeq (eV 6)) (tYes) (eTup (aC (eBin oAdd (eC (.str "o")) (eCB cStrI (aC (eV 4) (aN)))) (aC (eIx oIx (eV 14) (eC (.int 1))) (aC (eCB cLen (aC (eIx oIx (eV 14) (eC (.int 2))) (aN))) (aN)))))))) (
  sSet 2 (eBin oAdd (eLst (aC (eTup (aC (eC (.str "object")) (aC (eBin oAdd (eC (.str "o")) (eCB cStrI (aC (eV 4) (aN)))) (aC (eV 5) (aC (eFrz (eV 6)) (aN)))))) (aN))) (eV 2)))))))) (
  sRet (eLst (aC (eV 2) (aC (eV 3) (aN))))))))
theorem ok__law_objects {f : Addr} {fd : FuncData} {CS : Nat → Addr} (F : Fun K "_law_objects" "_law_objects" s__law_objects f fd) (T : Txt K mg CS) (C__law_draw : CalX P w K mg base 1 "_law_draw" 2 (T__law_draw CS)) (C__law_body : CalX P w K mg base 24 "_law_body" 3 (T__law_body CS)) (C__law_pick : CalX P w K mg base 2 "_law_pick" 2 (T__law_pick CS)) (C__law_expr : CalX P w K mg base 12 "_law_expr" 3 (T__law_expr CS)) : FnOk P w K mg base (L2.CX P w) 25 f fd ["_law_state_here", "_law_most"] (spX K 2 (T__law_objects CS)) :=
  okX F sc__law_objects rfl rfl (by decide) fun cdv A outer s H E hr =>
  cs_cons (c1_set sc__law_objects.nd rfl lo__law_objects__law_things (cm_lst (ca_nil) (by decide)) rfl (.inl rfl))
  (cs_cons (c1_set sc__law_objects.nd rfl lo__law_objects__law_calls (cm_lst (ca_nil) (by decide)) rfl (.inl rfl))
  (cs_cons (c1_for (cg_name sc__law_objects.nd rfl lo__law_objects__law_j (.inl rfl)) (ci_range1 g__law_objects_range T.b_range (cm_call C__law_draw (hr.mono (by decide)) g__law_objects__law_draw (ca_cons (cm_v (i := 0) rfl vs__law_objects__law_state_here nd__law_state_here.1 nd__law_state_here.2) (ca_cons (cm_bin cmo_add (cm_v (i := 1) rfl vs__law_objects__law_most nd__law_most.1 nd__law_most.2) (cm_int)) (ca_nil) rfl) rfl) nd__law_draw.1 rfl rfl) rfl) (cs_cons (c1_set sc__law_objects.nd rfl lo__law_objects__law_fields (cm_lst (ca_cons (cm_tup (ca_cons (cm_str) (ca_cons (cm_int) (ca_nil) rfl) rfl) (by decide)) (ca_cons (cm_tup (ca_cons (cm_str) (ca_cons (cm_call C__law_pick (hr.mono (by decide)) g__law_objects__law_pick (ca_cons (cm_v (i := 0) rfl vs__law_objects__law_state_here nd__law_state_here.1 nd__law_state_here.2) (ca_cons (cm_lst (ca_cons (cm_int) (ca_cons (cm_int) (ca_cons (cm_int) (ca_nil) rfl) rfl) rfl) (by decide)) (ca_nil) rfl) rfl) nd__law_pick.1 rfl rfl) (ca_nil) rfl) rfl) (by decide)) (ca_nil) rfl) rfl) (by decide)) rfl (.inl rfl))
  (cs_cons (c1_set sc__law_objects.nd rfl lo__law_objects__law_rows (cm_lstO (ca_nil) (by decide)) rfl (.inl rfl))
  (cs_cons (c1_for (cg_name sc__law_objects.nd rfl lo__law_objects__law_k (.inl rfl)) (ci_range1 g__law_objects_range T.b_range (cm_bin cmo_add (cm_int) (cm_call C__law_draw (hr.mono (by decide)) g__law_objects__law_draw (ca_cons (cm_v (i := 0) rfl vs__law_objects__law_state_here nd__law_state_here.1 nd__law_state_here.2) (ca_cons (cm_int) (ca_nil) rfl) rfl) nd__law_draw.1 rfl rfl)) rfl) (cs_cons (c1_set sc__law_objects.nd rfl lo__law_objects__law_params (cm_sl (cm_lst (ca_cons (cm_str) (ca_cons (cm_str) (ca_nil) rfl) rfl) (by decide)) (cp_none) (cp_some (cm_call C__law_draw (hr.mono (by decide)) g__law_objects__law_draw (ca_cons (cm_v (i := 0) rfl vs__law_objects__law_state_here nd__law_state_here.1 nd__law_state_here.2) (ca_cons (cm_int) (ca_nil) rfl) rfl) nd__law_draw.1 rfl rfl))) rfl (.inl rfl))
  (cs_cons (c1_set sc__law_objects.nd rfl lo__law_objects__law_own (cm_lst (ca_cons (cm_tup (ca_cons (cm_str) (ca_cons (cm_int) (ca_nil) rfl) rfl) (by decide)) (ca_cons (cm_tup (ca_cons (cm_str) (ca_cons (cm_call C__law_pick (hr.mono (by decide)) g__law_objects__law_pick (ca_cons (cm_v (i := 0) rfl vs__law_objects__law_state_here nd__law_state_here.1 nd__law_state_here.2) (ca_cons (cm_lst (ca_cons (cm_int) (ca_cons (cm_int) (ca_nil) rfl) rfl) (by decide)) (ca_nil) rfl) rfl) nd__law_pick.1 rfl rfl) (ca_nil) rfl) rfl) (by decide)) (ca_nil) rfl) rfl) (by decide)) rfl (.inl rfl))
  (cs_cons (c1_set sc__law_objects.nd rfl lo__law_objects__law_cells (cm_bin cmo_add (cm_bin cmo_add (cm_lc (own := [("_law_name", 13)]) rfl sc__law_objects.nd (blkOk_by (N := N__law_objects) (sc := defScope s__law_objects) (by decide +kernel)) (bind1 (by decide)) (fun _ _ _ _ _ => L2.pg_name sc__law_objects.nd (i := 13) rfl (.inl rfl) (.inr rfl)) (ci_seq (cm_v (i := 8) rfl vs__law_objects__law_params nd__law_params.1 nd__law_params.2)) (fun _ _ _ _ _ => cts_nil) (fun _ _ _ _ _ => cm_tup (ca_cons (cm_v (i := 13) rfl (by first | exact Or.inl rfl | exact Or.inr (Or.inl rfl) | exact Or.inr (Or.inr rfl)) nd__law_name.1 nd__law_name.2) (ca_cons (cm_int) (ca_nil) rfl) rfl) (by decide)) (fun _ => rfl)) (cm_v (i := 5) rfl vs__law_objects__law_fields nd__law_fields.1 nd__law_fields.2)) (cm_v (i := 9) rfl vs__law_objects__law_own nd__law_own.1 nd__law_own.2)) rfl (.inl rfl))
  (cs_cons (c1_set sc__law_objects.nd rfl lo__law_objects__law_body_here (cm_call C__law_body (hr.mono (by decide)) g__law_objects__law_body (ca_cons (cm_v (i := 0) rfl vs__law_objects__law_state_here nd__law_state_here.1 nd__law_state_here.2) (ca_cons (cm_lst (ca_cons (cm_v (i := 10) rfl vs__law_objects__law_cells nd__law_cells.1 nd__law_cells.2) (ca_cons (cm_lst (ca_nil) (by decide)) (ca_cons (cm_lst (ca_nil) (by decide)) (ca_cons (cm_callTy cmc_list bt_list T.b_list g__law_objects_list (ca_cons (cm_v (i := 3) rfl vs__law_objects__law_calls nd__law_calls.1 nd__law_calls.2) (ca_nil) rfl) nn_list nd_list.1 rfl rfl) (ca_cons (cm_int) (ca_nil) rfl) rfl) rfl) rfl) rfl) (by decide)) (ca_cons (cm_int) (ca_nil) rfl) rfl) rfl) nd__law_body.1 rfl rfl) rfl (.inl rfl))
  (cs_cons (c1_set sc__law_objects.nd rfl lo__law_objects__law_result (cm_call C__law_pick (hr.mono (by decide)) g__law_objects__law_pick (ca_cons (cm_v (i := 0) rfl vs__law_objects__law_state_here nd__law_state_here.1 nd__law_state_here.2) (ca_cons (cm_lst (ca_cons (cm_non) (ca_cons (cm_call C__law_expr (hr.mono (by decide)) g__law_objects__law_expr (ca_cons (cm_v (i := 0) rfl vs__law_objects__law_state_here nd__law_state_here.1 nd__law_state_here.2) (ca_cons (cm_lst (ca_cons (cm_v (i := 10) rfl vs__law_objects__law_cells nd__law_cells.1 nd__law_cells.2) (ca_cons (cm_lst (ca_nil) (by decide)) (ca_cons (cm_lst (ca_nil) (by decide)) (ca_cons (cm_lst (ca_nil) (by decide)) (ca_cons (cm_int) (ca_nil) rfl) rfl) rfl) rfl) rfl) (by decide)) (ca_cons (cm_int) (ca_nil) rfl) rfl) rfl) nd__law_expr.1 rfl rfl) (ca_nil) rfl) rfl) (by decide)) (ca_nil) rfl) rfl) nd__law_pick.1 rfl rfl) rfl (.inl rfl))
  (cs_one (c1_expr (cm_app (cm_v (i := 6) rfl vs__law_objects__law_rows nd__law_rows.1 nd__law_rows.2) (cm_tup (ca_cons (cm_str) (ca_cons (cm_bin cmo_add (cm_str) (cm_callTy cmc_strI bt_str T.b_str g__law_objects_str (ca_cons (cm_v (i := 7) rfl vs__law_objects__law_k nd__law_k.1 nd__law_k.2) (ca_nil) rfl) nn_str nd_str.1 rfl rfl)) (ca_cons (cm_v (i := 8) rfl vs__law_objects__law_params nd__law_params.1 nd__law_params.2) (ca_cons (cm_v (i := 9) rfl vs__law_objects__law_own nd__law_own.1 nd__law_own.2) (ca_cons (cm_v (i := 11) rfl vs__law_objects__law_body_here nd__law_body_here.1 nd__law_body_here.2) (ca_cons (cm_v (i := 12) rfl vs__law_objects__law_result nd__law_result.1 nd__law_result.2) (ca_nil) rfl) rfl) rfl) rfl) rfl) rfl) (by decide)) rfl rfl rfl rfl) rfl))))))) rfl pass_cx (fun _ => rfl))
  (cs_cons (c1_set sc__law_objects.nd rfl lo__law_objects__law_calls (cm_bin cmo_add (cm_v (i := 3) rfl vs__law_objects__law_calls nd__law_calls.1 nd__law_calls.2) (cm_lc (own := [("_law_item", 14)]) rfl sc__law_objects.nd (blkOk_by (N := N__law_objects) (sc := defScope s__law_objects) (by decide +kernel)) (bind1 (by decide)) (fun _ _ _ _ _ => L2.pg_name sc__law_objects.nd (i := 14) rfl (.inl rfl) (.inr rfl)) (ci_seq (cm_v (i := 6) rfl vs__law_objects__law_rows nd__law_rows.1 nd__law_rows.2)) (fun _ _ _ _ _ => cts_nil) (fun _ _ _ _ _ => cm_tup (ca_cons (cm_bin cmo_add (cm_str) (cm_callTy cmc_strI bt_str T.b_str rfl (ca_cons (cm_v (i := 4) rfl (by first | exact Or.inl rfl | exact Or.inr (Or.inl rfl) | exact Or.inr (Or.inr rfl)) nd__law_j.1 nd__law_j.2) (ca_nil) rfl) nn_str nd_str.1 rfl rfl)) (ca_cons (cm_ix cmi_ix (cm_v (i := 14) rfl (by first | exact Or.inl rfl | exact Or.inr (Or.inl rfl) | exact Or.inr (Or.inr rfl)) nd__law_item.1 nd__law_item.2) (cm_int) (fun _ _ => rfl)) (ca_cons (cm_callB cmc_len bb_len T.b_len rfl (ca_cons (cm_ix cmi_ix (cm_v (i := 14) rfl (by first | exact Or.inl rfl | exact Or.inr (Or.inl rfl) | exact Or.inr (Or.inr rfl)) nd__law_item.1 nd__law_item.2) (cm_int) (fun _ _ => rfl)) (ca_nil) rfl) nn_len nd_len.1 rfl rfl) (ca_nil) rfl) rfl) rfl) (by decide)) (fun _ => rfl))) rfl (.inl rfl))
  (cs_one (c1_set sc__law_objects.nd rfl lo__law_objects__law_things (cm_bin cmo_add (cm_lst (ca_cons (cm_tup (ca_cons (cm_str) (ca_cons (cm_bin cmo_add (cm_str) (cm_callTy cmc_strI bt_str T.b_str g__law_objects_str (ca_cons (cm_v (i := 4) rfl vs__law_objects__law_j nd__law_j.1 nd__law_j.2) (ca_nil) rfl) nn_str nd_str.1 rfl rfl)) (ca_cons (cm_v (i := 5) rfl vs__law_objects__law_fields nd__law_fields.1 nd__law_fields.2) (ca_cons (cm_frz (cm_v (i := 6) rfl vs__law_objects__law_rows nd__law_rows.1 nd__law_rows.2)) (ca_nil) rfl) rfl) rfl) rfl) (by decide)) (ca_nil) rfl) (by decide)) (cm_v (i := 2) rfl vs__law_objects__law_things nd__law_things.1 nd__law_things.2)) rfl (.inl rfl))))))) rfl pass_cx (fun _ => rfl))
  (cs_one (c1_ret (cm_lst (ca_cons (cm_v (i := 2) rfl vs__law_objects__law_things nd__law_things.1 nd__law_things.2) (ca_cons (cm_v (i := 3) rfl vs__law_objects__law_calls nd__law_calls.1 nd__law_calls.2) (ca_nil) rfl) rfl) (by decide))))))
abbrev s__law_program : Stmt := top 16
abbrev N__law_program : List Str := ["_law_state_here", "_law_most_tasks", "_law_most_objects", "_law_ports", "_law_things", "_law_calls", "_law_tasks", "_law_k", "_law_cells", "_law_body_here", "_law_within", "_law_rest", "_law_thing", "_law_operation", "_law_many", "_law_args"]
theorem sc__law_program : FnScope N__law_program ["_law_state_here", "_law_most_tasks", "_law_most_objects"] (defScope s__law_program) := ⟨rfl, rfl, rfl, by decide +kernel, rfl, by decide +kernel, by decide +kernel⟩
theorem lo__law_program__law_state_here : Loc (defScope s__law_program) "_law_state_here" := by first | exact .inl rfl | exact .inr rfl
theorem vs__law_program__law_state_here : Vis (defScope s__law_program) "_law_state_here" := lo__law_program__law_state_here.elim .inl fun z => .inr (.inl z)
theorem lo__law_program__law_most_tasks : Loc (defScope s__law_program) "_law_most_tasks" := by first | exact .inl rfl | exact .inr rfl
theorem vs__law_program__law_most_tasks : Vis (defScope s__law_program) "_law_most_tasks" := lo__law_program__law_most_tasks.elim .inl fun z => .inr (.inl z)
theorem lo__law_program__law_most_objects : Loc (defScope s__law_program) "_law_most_objects" := by first | exact .inl rfl | exact .inr rfl
theorem vs__law_program__law_most_objects : Vis (defScope s__law_program) "_law_most_objects" := lo__law_program__law_most_objects.elim .inl fun z => .inr (.inl z)
theorem lo__law_program__law_ports : Loc (defScope s__law_program) "_law_ports" := by first | exact .inl rfl | exact .inr rfl
theorem vs__law_program__law_ports : Vis (defScope s__law_program) "_law_ports" := lo__law_program__law_ports.elim .inl fun z => .inr (.inl z)
theorem lo__law_program__law_things : Loc (defScope s__law_program) "_law_things" := by first | exact .inl rfl | exact .inr rfl
theorem vs__law_program__law_things : Vis (defScope s__law_program) "_law_things" := lo__law_program__law_things.elim .inl fun z => .inr (.inl z)
theorem lo__law_program__law_calls : Loc (defScope s__law_program) "_law_calls" := by first | exact .inl rfl | exact .inr rfl
theorem vs__law_program__law_calls : Vis (defScope s__law_program) "_law_calls" := lo__law_program__law_calls.elim .inl fun z => .inr (.inl z)
theorem lo__law_program__law_tasks : Loc (defScope s__law_program) "_law_tasks" := by first | exact .inl rfl | exact .inr rfl
theorem vs__law_program__law_tasks : Vis (defScope s__law_program) "_law_tasks" := lo__law_program__law_tasks.elim .inl fun z => .inr (.inl z)
theorem lo__law_program__law_k : Loc (defScope s__law_program) "_law_k" := by first | exact .inl rfl | exact .inr rfl
theorem vs__law_program__law_k : Vis (defScope s__law_program) "_law_k" := lo__law_program__law_k.elim .inl fun z => .inr (.inl z)
theorem lo__law_program__law_cells : Loc (defScope s__law_program) "_law_cells" := by first | exact .inl rfl | exact .inr rfl
theorem vs__law_program__law_cells : Vis (defScope s__law_program) "_law_cells" := lo__law_program__law_cells.elim .inl fun z => .inr (.inl z)
theorem lo__law_program__law_body_here : Loc (defScope s__law_program) "_law_body_here" := by first | exact .inl rfl | exact .inr rfl
theorem vs__law_program__law_body_here : Vis (defScope s__law_program) "_law_body_here" := lo__law_program__law_body_here.elim .inl fun z => .inr (.inl z)
theorem lo__law_program__law_within : Loc (defScope s__law_program) "_law_within" := by first | exact .inl rfl | exact .inr rfl
theorem vs__law_program__law_within : Vis (defScope s__law_program) "_law_within" := lo__law_program__law_within.elim .inl fun z => .inr (.inl z)
theorem lo__law_program__law_rest : Loc (defScope s__law_program) "_law_rest" := by first | exact .inl rfl | exact .inr rfl
theorem vs__law_program__law_rest : Vis (defScope s__law_program) "_law_rest" := lo__law_program__law_rest.elim .inl fun z => .inr (.inl z)
theorem lo__law_program__law_thing : Loc (defScope s__law_program) "_law_thing" := by first | exact .inl rfl | exact .inr rfl
theorem vs__law_program__law_thing : Vis (defScope s__law_program) "_law_thing" := lo__law_program__law_thing.elim .inl fun z => .inr (.inl z)
theorem lo__law_program__law_operation : Loc (defScope s__law_program) "_law_operation" := by first | exact .inl rfl | exact .inr rfl
theorem vs__law_program__law_operation : Vis (defScope s__law_program) "_law_operation" := lo__law_program__law_operation.elim .inl fun z => .inr (.inl z)
theorem lo__law_program__law_many : Loc (defScope s__law_program) "_law_many" := by first | exact .inl rfl | exact .inr rfl
theorem vs__law_program__law_many : Vis (defScope s__law_program) "_law_many" := lo__law_program__law_many.elim .inl fun z => .inr (.inl z)
theorem lo__law_program__law_args : Loc (defScope s__law_program) "_law_args" := by first | exact .inl rfl | exact .inr rfl
theorem vs__law_program__law_args : Vis (defScope s__law_program) "_law_args" := lo__law_program__law_args.elim .inl fun z => .inr (.inl z)
theorem g__law_program_range : (defScope s__law_program).names.lookup ("range" : Str) = some .globalImplicit := rfl
theorem g__law_program__law_draw : (defScope s__law_program).names.lookup ("_law_draw" : Str) = some .globalImplicit := rfl
theorem g__law_program__law_pick : (defScope s__law_program).names.lookup ("_law_pick" : Str) = some .globalImplicit := rfl
theorem g__law_program_str : (defScope s__law_program).names.lookup ("str" : Str) = some .globalImplicit := rfl
theorem g__law_program__law_objects : (defScope s__law_program).names.lookup ("_law_objects" : Str) = some .globalImplicit := rfl
theorem g__law_program__law_body : (defScope s__law_program).names.lookup ("_law_body" : Str) = some .globalImplicit := rfl
theorem g__law_program_len : (defScope s__law_program).names.lookup ("len" : Str) = some .globalImplicit := rfl
def T__law_program (CS : Nat → Addr) : FT := fnT 16 (sCo (sSet 3 (eLc false [7] (b1 7) (iR1 (eCall (T__law_draw CS) (aC (eV 0) (aC (eC (.int 4)) (aN))))) (tYes) (eTup (aC (eCall (T__law_pick CS) (aC (eV 0) (aC (eLst (aC (eC (.str "in")) (aC (eC (.str "out")) (aN)))) (aN)))) (aC (eBin oAdd (eC (.str "p")) (eCB cStrI (aC (eV 7) (aN)))) (aN)))))) (
  sCo (sAsg (gTup 2 (gsC (gName 4) (gsC (gName 5) (gsN)))) (eCall (T__law_objects CS) (aC (eV 0) (aC (eV 2) (aN))))) (
  sCo (sSet 6 (eLstO (aN))) (
  sCo (sFor (gName 7) (iR1 (eBin oAdd (eC (.int 1)) (eCall (T__law_draw CS) (aC (eV 0) (aC (eV 1) (aN)))))) (sCo (sSet 8 (eLst (aC (eTup (aC (eC (.str "a")) (aC (eC (.int 0)) (aN)))) (aC (eTup (aC (eC (.str "b")) (aC (eCall (T__law_pick CS) (aC (eV 0) (aC (eLst (aC (eC (.int 0)) (aC (eC (.int 0)) (aC (eC (.int 2)) (aC (eC (.int 5)) (aN)))))) (aN)))) (aN)))) (aN))))) (
  sCo (sSet 9 (eCall (T__law_body CS) (aC (eV 0) (aC (eLst (aC (eV 8) (aC (eLst (aN)) (aC (eV 3) (aC (eV 5) (aC (eC (.int 2)) (aN))))))) (aC (eC (.int 2)) (aN)))))) (
  sCo (sSet 10 (eBin oAdd (eC (.int 1)) (eCall (T__law_draw CS) (aC (eV 0) (aC (eCall (T__law_pick CS) (aC (eV 0) (aC (eLst (aC (eC (.int 300)) (aC (eC (.int 3000)) (aN)))) (aN)))) (aN)))))) (
  sExpr (eApp (eV 6) (eTup (aC (eC (.str "task")) (aC (eBin oAdd (eC (.str "t")) (eCB cStrI (aC (eV 7) (aN)))) (aC (eBin oAdd (eV 10) (eCall (T__law_draw CS) (aC (eV 0) (aC (eC (.int 900)) (aN))))) (aC (eV 10) (aC (eV 8) (aC (eV 9) (aN)))))))))))))) (
  sCo (sSet 11 (eLstO (aN))) (
  sCo (sIf (tAnd (tCmp oGt (eCB cLen (aC (eV 5) (aN))) (eC (.int 0))) (tCmp oEq (eCall (T__law_draw CS) (aC (eV 0) (aC (eC (.int 2)) (aN)))) (eC (.int 0)))) (sCo (sAsg (gTup 3 (gsC (gName 12) (gsC (gName 13) (gsC (gName 14) (gsN))))) (eCall (T__law_pick CS) (aC (eV 0) (aC (eV 5) (aN))))) (
  sCo (sSet 10 (eBin oAdd (eC (.int 1)) (eCall (T__law_draw CS) (aC (eV 0) (aC (eC (.int 900)) (aN)))))) (
  sCo (sSet 15 (eLc false [7] (b1 7) (iR1 (eV 14)) (tYes) (eCall (T__law_word CS) (aC (eV 0) (aN))))) (
  sExpr (eApp (eV 11) (eTup (aC (eC (.str "interrupt")) (aC (eC (.str "alarm")) (aC (eBin oAdd (eV 10) (eCall (T__law_draw CS) (aC (eV 0) (aC (eC (.int 900)) (aN))))) (aC (eV 10) (aC (eV 12) (aC (eV 13) (aC (eV 15) (aN)))))))))))))) (sNo)) (
  sRet (eTup (aC (eC (.str "system")) (aC (eC (.str "s")) (aC (eV 3) (aC (eV 4) (aC (eFrz (eV 6)) (aC (eFrz (eV 11)) (aN)))))))))))))))
theorem ok__law_program {f : Addr} {fd : FuncData} {CS : Nat → Addr} (F : Fun K "_law_program" "_law_program" s__law_program f fd) (T : Txt K mg CS) (C__law_objects : CalX P w K mg base 25 "_law_objects" 2 (T__law_objects CS)) (C__law_body : CalX P w K mg base 24 "_law_body" 3 (T__law_body CS)) (C__law_pick : CalX P w K mg base 2 "_law_pick" 2 (T__law_pick CS)) (C__law_draw : CalX P w K mg base 1 "_law_draw" 2 (T__law_draw CS)) (C__law_word : CalX P w K mg base 3 "_law_word" 1 (T__law_word CS)) : FnOk P w K mg base (L2.CX P w) 26 f fd ["_law_state_here", "_law_most_tasks", "_law_most_objects"] (spX K 3 (T__law_program CS)) :=
  okX F sc__law_program rfl rfl (by decide) fun cdv A outer s H E hr =>
  cs_cons ((by first | exact c1_setLc (iy := 3) (own := [("_law_k", 7)]) rfl sc__law_program.nd (blkOk_by (N := N__law_program) (sc := defScope s__law_program) (by decide +kernel)) (bind1 (by decide)) (fun _ _ _ _ _ => L2.pg_name sc__law_program.nd (i := 7) rfl (.inl rfl) (.inr rfl)) (ci_range1 g__law_program_range T.b_range (cm_call C__law_draw (hr.mono (by decide)) g__law_program__law_draw (ca_cons (cm_v (i := 0) rfl vs__law_program__law_state_here nd__law_state_here.1 nd__law_state_here.2) (ca_cons (cm_int) (ca_nil) rfl) rfl) nd__law_draw.1 rfl rfl) rfl) (fun _ _ _ _ _ => cts_nil) (fun _ _ _ _ _ => cm_tup (ca_cons (cm_call C__law_pick (hr.mono (by decide)) rfl (ca_cons (cm_v (i := 0) rfl (by first | exact Or.inl rfl | exact Or.inr (Or.inl rfl) | exact Or.inr (Or.inr rfl)) nd__law_state_here.1 nd__law_state_here.2) (ca_cons (cm_lst (ca_cons (cm_str) (ca_cons (cm_str) (ca_nil) rfl) rfl) (by decide)) (ca_nil) rfl) rfl) nd__law_pick.1 rfl rfl) (ca_cons (cm_bin cmo_add (cm_str) (cm_callTy cmc_strI bt_str T.b_str rfl (ca_cons (cm_v (i := 7) rfl (by first | exact Or.inl rfl | exact Or.inr (Or.inl rfl) | exact Or.inr (Or.inr rfl)) nd__law_k.1 nd__law_k.2) (ca_nil) rfl) nn_str nd_str.1 rfl rfl)) (ca_nil) rfl) rfl) (by decide)) rfl rfl (sw_true rfl rfl rfl (by decide +kernel)) (fun _ => rfl) | exact c1_set (i := 3) sc__law_program.nd rfl lo__law_program__law_ports (cm_lc (own := [("_law_k", 7)]) rfl sc__law_program.nd (blkOk_by (N := N__law_program) (sc := defScope s__law_program) (by decide +kernel)) (bind1 (by decide)) (fun _ _ _ _ _ => L2.pg_name sc__law_program.nd (i := 7) rfl (.inl rfl) (.inr rfl)) (ci_range1 g__law_program_range T.b_range (cm_call C__law_draw (hr.mono (by decide)) g__law_program__law_draw (ca_cons (cm_v (i := 0) rfl vs__law_program__law_state_here nd__law_state_here.1 nd__law_state_here.2) (ca_cons (cm_int) (ca_nil) rfl) rfl) nd__law_draw.1 rfl rfl) rfl) (fun _ _ _ _ _ => cts_nil) (fun _ _ _ _ _ => cm_tup (ca_cons (cm_call C__law_pick (hr.mono (by decide)) rfl (ca_cons (cm_v (i := 0) rfl (by first | exact Or.inl rfl | exact Or.inr (Or.inl rfl) | exact Or.inr (Or.inr rfl)) nd__law_state_here.1 nd__law_state_here.2) (ca_cons (cm_lst (ca_cons (cm_str) (ca_cons (cm_str) (ca_nil) rfl) rfl) (by decide)) (ca_nil) rfl) rfl) nd__law_pick.1 rfl rfl) (ca_cons (cm_bin cmo_add (cm_str) (cm_callTy cmc_strI bt_str T.b_str rfl (ca_cons (cm_v (i := 7) rfl (by first | exact Or.inl rfl | exact Or.inr (Or.inl rfl) | exact Or.inr (Or.inr rfl)) nd__law_k.1 nd__law_k.2) (ca_nil) rfl) nn_str nd_str.1 rfl rfl)) (ca_nil) rfl) rfl) (by decide)) (fun _ => rfl)) rfl (.inl rfl)))
  (cs_cons (c1_asg (cg_tup rfl (cgs_cons (cg_name sc__law_program.nd rfl lo__law_program__law_things (.inl rfl)) (cgs_cons (cg_name sc__law_program.nd rfl lo__law_program__law_calls (.inl rfl)) (cgs_nil) rfl) rfl) rfl rfl) (cm_call C__law_objects (hr.mono (by decide)) g__law_program__law_objects (ca_cons (cm_v (i := 0) rfl vs__law_program__law_state_here nd__law_state_here.1 nd__law_state_here.2) (ca_cons (cm_v (i := 2) rfl vs__law_program__law_most_objects nd__law_most_objects.1 nd__law_most_objects.2) (ca_nil) rfl) rfl) nd__law_objects.1 rfl rfl) rfl rfl rfl)
  (cs_cons (c1_set sc__law_program.nd rfl lo__law_program__law_tasks (cm_lstO (ca_nil) (by decide)) rfl (.inl rfl))
  (cs_cons (c1_for (cg_name sc__law_program.nd rfl lo__law_program__law_k (.inl rfl)) (ci_range1 g__law_program_range T.b_range (cm_bin cmo_add (cm_int) (cm_call C__law_draw (hr.mono (by decide)) g__law_program__law_draw (ca_cons (cm_v (i := 0) rfl vs__law_program__law_state_here nd__law_state_here.1 nd__law_state_here.2) (ca_cons (cm_v (i := 1) rfl vs__law_program__law_most_tasks nd__law_most_tasks.1 nd__law_most_tasks.2) (ca_nil) rfl) rfl) nd__law_draw.1 rfl rfl)) rfl) (cs_cons (c1_set sc__law_program.nd rfl lo__law_program__law_cells (cm_lst (ca_cons (cm_tup (ca_cons (cm_str) (ca_cons (cm_int) (ca_nil) rfl) rfl) (by decide)) (ca_cons (cm_tup (ca_cons (cm_str) (ca_cons (cm_call C__law_pick (hr.mono (by decide)) g__law_program__law_pick (ca_cons (cm_v (i := 0) rfl vs__law_program__law_state_here nd__law_state_here.1 nd__law_state_here.2) (ca_cons (cm_lst (ca_cons (cm_int) (ca_cons (cm_int) (ca_cons (cm_int) (ca_cons (cm_int) (ca_nil) rfl) rfl) rfl) rfl) (by decide)) (ca_nil) rfl) rfl) nd__law_pick.1 rfl rfl) (ca_nil) rfl) rfl) (by decide)) (ca_nil) rfl) rfl) (by decide)) rfl (.inl rfl))
  (cs_cons (c1_set sc__law_program.nd rfl lo__law_program__law_body_here (cm_call C__law_body (hr.mono (by decide)) g__law_program__law_body (ca_cons (cm_v (i := 0) rfl vs__law_program__law_state_here nd__law_state_here.1 nd__law_state_here.2) (ca_cons (cm_lst (ca_cons (cm_v (i := 8) rfl vs__law_program__law_cells nd__law_cells.1 nd__law_cells.2) (ca_cons (cm_lst (ca_nil) (by decide)) (ca_cons (cm_v (i := 3) rfl vs__law_program__law_ports nd__law_ports.1 nd__law_ports.2) (ca_cons (cm_v (i := 5) rfl vs__law_program__law_calls nd__law_calls.1 nd__law_calls.2) (ca_cons (cm_int) (ca_nil) rfl) rfl) rfl) rfl) rfl) (by decide)) (ca_cons (cm_int) (ca_nil) rfl) rfl) rfl) nd__law_body.1 rfl rfl) rfl (.inl rfl))
  (cs_cons (c1_set sc__law_program.nd rfl lo__law_program__law_within (cm_bin cmo_add (cm_int) (cm_call C__law_draw (hr.mono (by decide)) g__law_program__law_draw (ca_cons (cm_v (i := 0) rfl vs__law_program__law_state_here nd__law_state_here.1 nd__law_state_here.2) (ca_cons (cm_call C__law_pick (hr.mono (by decide)) g__law_program__law_pick (ca_cons (cm_v (i := 0) rfl vs__law_program__law_state_here nd__law_state_here.1 nd__law_state_here.2) (ca_cons (cm_lst (ca_cons (cm_int) (ca_cons (cm_int) (ca_nil) rfl) rfl) (by decide)) (ca_nil) rfl) rfl) nd__law_pick.1 rfl rfl) (ca_nil) rfl) rfl) nd__law_draw.1 rfl rfl)) rfl (.inl rfl))
  (cs_one (c1_expr (cm_app (cm_v (i := 6) rfl vs__law_program__law_tasks nd__law_tasks.1 nd__law_tasks.2) (cm_tup (ca_cons (cm_str) (ca_cons (cm_bin cmo_add (cm_str) (cm_callTy cmc_strI bt_str T.b_str g__law_program_str (ca_cons (cm_v (i := 7) rfl vs__law_program__law_k nd__law_k.1 nd__law_k.2) (ca_nil) rfl) nn_str nd_str.1 rfl rfl)) (ca_cons (cm_bin cmo_add (cm_v (i := 10) rfl vs__law_program__law_within nd__law_within.1 nd__law_within.2) (cm_call C__law_draw (hr.mono (by decide)) g__law_program__law_draw (ca_cons (cm_v (i := 0) rfl vs__law_program__law_state_here nd__law_state_here.1 nd__law_state_here.2) (ca_cons (cm_int) (ca_nil) rfl) rfl) nd__law_draw.1 rfl rfl)) (ca_cons (cm_v (i := 10) rfl vs__law_program__law_within nd__law_within.1 nd__law_within.2) (ca_cons (cm_v (i := 8) rfl vs__law_program__law_cells nd__law_cells.1 nd__law_cells.2) (ca_cons (cm_v (i := 9) rfl vs__law_program__law_body_here nd__law_body_here.1 nd__law_body_here.2) (ca_nil) rfl) rfl) rfl) rfl) rfl) rfl) (by decide)) rfl rfl rfl rfl) rfl))))) rfl pass_cx (fun _ => rfl))
  (cs_cons (c1_set sc__law_program.nd rfl lo__law_program__law_rest (cm_lstO (ca_nil) (by decide)) rfl (.inl rfl))
  (cs_cons (c1_if (ct_pw (cpw_and (ct_cmp cmo_gt (cm_callB cmc_len bb_len T.b_len g__law_program_len (ca_cons (cm_v (i := 5) rfl vs__law_program__law_calls nd__law_calls.1 nd__law_calls.2) (ca_nil) rfl) nn_len nd_len.1 rfl rfl) (cm_int) rfl) (cpw_and1 (ct_cmp (cmo_eq hr) (cm_call C__law_draw (hr.mono (by decide)) g__law_program__law_draw (ca_cons (cm_v (i := 0) rfl vs__law_program__law_state_here nd__law_state_here.1 nd__law_state_here.2) (ca_cons (cm_int) (ca_nil) rfl) rfl) nd__law_draw.1 rfl rfl) (cm_int) rfl)))) (cs_cons (c1_asg (cg_tup rfl (cgs_cons (cg_name sc__law_program.nd rfl lo__law_program__law_thing (.inl rfl)) (cgs_cons (cg_name sc__law_program.nd rfl lo__law_program__law_operation (.inl rfl)) (cgs_cons (cg_name sc__law_program.nd rfl lo__law_program__law_many (.inl rfl)) (cgs_nil) rfl) rfl) rfl) rfl rfl) (cm_call C__law_pick (hr.mono (by decide)) g__law_program__law_pick (ca_cons (cm_v (i := 0) rfl vs__law_program__law_state_here nd__law_state_here.1 nd__law_state_here.2) (ca_cons (cm_v (i := 5) rfl vs__law_program__law_calls nd__law_calls.1 nd__law_calls.2) (ca_nil) rfl) rfl) nd__law_pick.1 rfl rfl) rfl rfl rfl)
  (cs_cons (c1_set sc__law_program.nd rfl lo__law_program__law_within (cm_bin cmo_add (cm_int) (cm_call C__law_draw (hr.mono (by decide)) g__law_program__law_draw (ca_cons (cm_v (i := 0) rfl vs__law_program__law_state_here nd__law_state_here.1 nd__law_state_here.2) (ca_cons (cm_int) (ca_nil) rfl) rfl) nd__law_draw.1 rfl rfl)) rfl (.inl rfl))
  (cs_cons ((by first | exact c1_setLc (iy := 15) (own := [("_law_k", 7)]) rfl sc__law_program.nd (blkOk_by (N := N__law_program) (sc := defScope s__law_program) (by decide +kernel)) (bind1 (by decide)) (fun _ _ _ _ _ => L2.pg_name sc__law_program.nd (i := 7) rfl (.inl rfl) (.inr rfl)) (ci_range1 g__law_program_range T.b_range (cm_v (i := 14) rfl vs__law_program__law_many nd__law_many.1 nd__law_many.2) rfl) (fun _ _ _ _ _ => cts_nil) (fun _ _ _ _ _ => cm_call C__law_word (hr.mono (by decide)) rfl (ca_cons (cm_v (i := 0) rfl (by first | exact Or.inl rfl | exact Or.inr (Or.inl rfl) | exact Or.inr (Or.inr rfl)) nd__law_state_here.1 nd__law_state_here.2) (ca_nil) rfl) nd__law_word.1 rfl rfl) rfl rfl (sw_true rfl rfl rfl (by decide +kernel)) (fun _ => rfl) | exact c1_set (i := 15) sc__law_program.nd rfl lo__law_program__law_args (cm_lc (own := [("_law_k", 7)]) rfl sc__law_program.nd (blkOk_by (N := N__law_program) (sc := defScope s__law_program) (by decide +kernel)) (bind1 (by decide)) (fun _ _ _ _ _ => L2.pg_name sc__law_program.nd (i := 7) rfl (.inl rfl) (.inr rfl)) (ci_range1 g__law_program_range T.b_range (cm_v (i := 14) rfl vs__law_program__law_many nd__law_many.1 nd__law_many.2) rfl) (fun _ _ _ _ _ => cts_nil) (fun _ _ _ _ _ => cm_call C__law_word (hr.mono (by decide)) rfl (ca_cons (cm_v (i := 0) rfl (by first | exact Or.inl rfl | exact Or.inr (Or.inl rfl) | exact Or.inr (Or.inr rfl)) nd__law_state_here.1 nd__law_state_here.2) (ca_nil) rfl) nd__law_word.1 rfl rfl) (fun _ => rfl)) rfl (.inl rfl)))
  (cs_one (c1_expr (cm_app (cm_v (i := 11) rfl vs__law_program__law_rest nd__law_rest.1 nd__law_rest.2) (cm_tup (ca_cons (cm_str) (ca_cons (cm_str) (ca_cons (cm_bin cmo_add (cm_v (i := 10) rfl vs__law_program__law_within nd__law_within.1 nd__law_within.2) (cm_call C__law_draw (hr.mono (by decide)) g__law_program__law_draw (ca_cons (cm_v (i := 0) rfl vs__law_program__law_state_here nd__law_state_here.1 nd__law_state_here.2) (ca_cons (cm_int) (ca_nil) rfl) rfl) nd__law_draw.1 rfl rfl)) (ca_cons (cm_v (i := 10) rfl vs__law_program__law_within nd__law_within.1 nd__law_within.2) (ca_cons (cm_v (i := 12) rfl vs__law_program__law_thing nd__law_thing.1 nd__law_thing.2) (ca_cons (cm_v (i := 13) rfl vs__law_program__law_operation nd__law_operation.1 nd__law_operation.2) (ca_cons (cm_v (i := 15) rfl vs__law_program__law_args nd__law_args.1 nd__law_args.2) (ca_nil) rfl) rfl) rfl) rfl) rfl) rfl) rfl) (by decide)) rfl rfl rfl rfl) rfl))))) (cs_nil))
  (cs_one (c1_ret (cm_tup (ca_cons (cm_str) (ca_cons (cm_str) (ca_cons (cm_v (i := 3) rfl vs__law_program__law_ports nd__law_ports.1 nd__law_ports.2) (ca_cons (cm_v (i := 4) rfl vs__law_program__law_things nd__law_things.1 nd__law_things.2) (ca_cons (cm_frz (cm_v (i := 6) rfl vs__law_program__law_tasks nd__law_tasks.1 nd__law_tasks.2)) (ca_cons (cm_frz (cm_v (i := 11) rfl vs__law_program__law_rest nd__law_rest.1 nd__law_rest.2)) (ca_nil) rfl) rfl) rfl) rfl) rfl) rfl) (by decide)))))))))
abbrev s__law_names : Stmt := top 17
abbrev N__law_names : List Str := ["_law_body_here", "_law_names_here", "_law_statement_here"]
theorem sc__law_names : FnScope N__law_names ["_law_body_here"] (defScope s__law_names) := ⟨rfl, rfl, rfl, by decide +kernel, rfl, by decide +kernel, by decide +kernel⟩
theorem lo__law_names__law_body_here : Loc (defScope s__law_names) "_law_body_here" := by first | exact .inl rfl | exact .inr rfl
theorem vs__law_names__law_body_here : Vis (defScope s__law_names) "_law_body_here" := lo__law_names__law_body_here.elim .inl fun z => .inr (.inl z)
theorem lo__law_names__law_names_here : Loc (defScope s__law_names) "_law_names_here" := by first | exact .inl rfl | exact .inr rfl
theorem vs__law_names__law_names_here : Vis (defScope s__law_names) "_law_names_here" := lo__law_names__law_names_here.elim .inl fun z => .inr (.inl z)
theorem lo__law_names__law_statement_here : Loc (defScope s__law_names) "_law_statement_here" := by first | exact .inl rfl | exact .inr rfl
theorem vs__law_names__law_statement_here : Vis (defScope s__law_names) "_law_statement_here" := lo__law_names__law_statement_here.elim .inl fun z => .inr (.inl z)
theorem g__law_names__law_names : (defScope s__law_names).names.lookup ("_law_names" : Str) = some .globalImplicit := rfl
def B__law_names (CS : Nat → Addr) (R : Nat → FT) : FT := fnT 3 (sCo (sSet 1 (eLstO (aN))) (
  sCo (sFor (gName 2) (iSeq (eV 0)) (sCo (sIf (tCmp oEq (eIx oIx (eV 2) (eC (.int 0))) (eC (.str "call"))) (sExpr (eApp (eV 1) (eIx oIx (eV 2) (eC (.int 2))))) (sNo)) (
  sCo (sIf (tCmp oEq (eIx oIx (eV 2) (eC (.int 0))) (eC (.str "if"))) (sSet 1 (eBin oAddO (eBin oAdd (eV 1) (eCall (R 0) (aC (eIx oIx (eV 2) (eC (.int 2))) (aN)))) (eCall (R 0) (aC (eIx oIx (eV 2) (eC (.int 3))) (aN))))) (sNo)) (
  sIf (tCmp oEq (eIx oIx (eV 2) (eC (.int 0))) (eC (.str "loop"))) (sSet 1 (eBin oAddO (eV 1) (eCall (R 0) (aC (eIx oIx (eV 2) (eC (.int 4))) (aN))))) (sNo))))) (
  sRet (eFrz (eV 1)))))
theorem ok__law_names {f : Addr} {fd : FuncData} {CS : Nat → Addr} {lv : Nat} {R : Nat → FT} (hl : 0 ≤ lv) (F : Fun K "_law_names" "_law_names" s__law_names f fd) (T : Txt K mg CS) (C__law_names : CalX P w K mg base lv "_law_names" 1 (R 0)) : FnOk P w K mg base (L2.CX P w) (lv + 1) f fd ["_law_body_here"] (spX K 1 (B__law_names CS R)) :=
  okX F sc__law_names rfl rfl (by decide) fun cdv A outer s H E hr =>
  cs_cons (c1_set sc__law_names.nd rfl lo__law_names__law_names_here (cm_lstO (ca_nil) (by decide)) rfl (.inl rfl))
  (cs_cons (c1_for (cg_name sc__law_names.nd rfl lo__law_names__law_statement_here (.inl rfl)) (ci_seq (cm_v (i := 0) rfl vs__law_names__law_body_here nd__law_body_here.1 nd__law_body_here.2)) (cs_cons (c1_if (ct_cmp (cmo_eq hr) (cm_ix cmi_ix (cm_v (i := 2) rfl vs__law_names__law_statement_here nd__law_statement_here.1 nd__law_statement_here.2) (cm_int) (fun _ _ => rfl)) (cm_str) rfl) (cs_one (c1_expr (cm_app (cm_v (i := 1) rfl vs__law_names__law_names_here nd__law_names_here.1 nd__law_names_here.2) (cm_ix cmi_ix (cm_v (i := 2) rfl vs__law_names__law_statement_here nd__law_statement_here.1 nd__law_statement_here.2) (cm_int) (fun _ _ => rfl)) rfl rfl rfl rfl) rfl)) (cs_nil))
  (cs_cons (c1_if (ct_cmp (cmo_eq hr) (cm_ix cmi_ix (cm_v (i := 2) rfl vs__law_names__law_statement_here nd__law_statement_here.1 nd__law_statement_here.2) (cm_int) (fun _ _ => rfl)) (cm_str) rfl) (cs_one (c1_set sc__law_names.nd rfl lo__law_names__law_names_here (cm_bin cmo_addO (cm_bin cmo_add (cm_v (i := 1) rfl vs__law_names__law_names_here nd__law_names_here.1 nd__law_names_here.2) (cm_call C__law_names (hr.mono (by omega)) g__law_names__law_names (ca_cons (cm_ix cmi_ix (cm_v (i := 2) rfl vs__law_names__law_statement_here nd__law_statement_here.1 nd__law_statement_here.2) (cm_int) (fun _ _ => rfl)) (ca_nil) rfl) nd__law_names.1 rfl rfl)) (cm_call C__law_names (hr.mono (by omega)) g__law_names__law_names (ca_cons (cm_ix cmi_ix (cm_v (i := 2) rfl vs__law_names__law_statement_here nd__law_statement_here.1 nd__law_statement_here.2) (cm_int) (fun _ _ => rfl)) (ca_nil) rfl) nd__law_names.1 rfl rfl)) rfl (.inl rfl))) (cs_nil))
  (cs_one (c1_if (ct_cmp (cmo_eq hr) (cm_ix cmi_ix (cm_v (i := 2) rfl vs__law_names__law_statement_here nd__law_statement_here.1 nd__law_statement_here.2) (cm_int) (fun _ _ => rfl)) (cm_str) rfl) (cs_one (c1_set sc__law_names.nd rfl lo__law_names__law_names_here (cm_bin cmo_addO (cm_v (i := 1) rfl vs__law_names__law_names_here nd__law_names_here.1 nd__law_names_here.2) (cm_call C__law_names (hr.mono (by omega)) g__law_names__law_names (ca_cons (cm_ix cmi_ix (cm_v (i := 2) rfl vs__law_names__law_statement_here nd__law_statement_here.1 nd__law_statement_here.2) (cm_int) (fun _ _ => rfl)) (ca_nil) rfl) nd__law_names.1 rfl rfl)) rfl (.inl rfl))) (cs_nil))))) rfl pass_cx (fun _ => rfl))
  (cs_one (c1_ret (cm_frz (cm_v (i := 1) rfl vs__law_names__law_names_here nd__law_names_here.1 nd__law_names_here.2)))))
def TS_2 (CS : Nat → Addr) : Nat → Nat → FT
  | 0 => fun _ => noT
  | n + 1 => fun i => match i with | _ => B__law_names CS (TS_2 CS n)
def T__law_names (CS : Nat → Addr) : FT := TS_2 CS 10 0
abbrev s__law_grow : Stmt := top 18
abbrev N__law_grow : List Str := ["_law_program_here", "_law_found", "_law_k", "_law_at", "_law_item", "_law_name", "_law_other"]
theorem sc__law_grow : FnScope N__law_grow ["_law_program_here", "_law_found"] (defScope s__law_grow) := ⟨rfl, rfl, rfl, by decide +kernel, rfl, by decide +kernel, by decide +kernel⟩
theorem lo__law_grow__law_program_here : Loc (defScope s__law_grow) "_law_program_here" := by first | exact .inl rfl | exact .inr rfl
theorem vs__law_grow__law_program_here : Vis (defScope s__law_grow) "_law_program_here" := lo__law_grow__law_program_here.elim .inl fun z => .inr (.inl z)
theorem lo__law_grow__law_found : Loc (defScope s__law_grow) "_law_found" := by first | exact .inl rfl | exact .inr rfl
theorem vs__law_grow__law_found : Vis (defScope s__law_grow) "_law_found" := lo__law_grow__law_found.elim .inl fun z => .inr (.inl z)
theorem lo__law_grow__law_k : Loc (defScope s__law_grow) "_law_k" := by first | exact .inl rfl | exact .inr rfl
theorem vs__law_grow__law_k : Vis (defScope s__law_grow) "_law_k" := lo__law_grow__law_k.elim .inl fun z => .inr (.inl z)
theorem lo__law_grow__law_at : Loc (defScope s__law_grow) "_law_at" := by first | exact .inl rfl | exact .inr rfl
theorem vs__law_grow__law_at : Vis (defScope s__law_grow) "_law_at" := lo__law_grow__law_at.elim .inl fun z => .inr (.inl z)
theorem lo__law_grow__law_item : Loc (defScope s__law_grow) "_law_item" := by first | exact .inl rfl | exact .inr rfl
theorem vs__law_grow__law_item : Vis (defScope s__law_grow) "_law_item" := lo__law_grow__law_item.elim .inl fun z => .inr (.inl z)
theorem lo__law_grow__law_name : Loc (defScope s__law_grow) "_law_name" := by first | exact .inl rfl | exact .inr rfl
theorem vs__law_grow__law_name : Vis (defScope s__law_grow) "_law_name" := lo__law_grow__law_name.elim .inl fun z => .inr (.inl z)
theorem lo__law_grow__law_other : Loc (defScope s__law_grow) "_law_other" := by first | exact .inl rfl | exact .inr rfl
theorem vs__law_grow__law_other : Vis (defScope s__law_grow) "_law_other" := lo__law_grow__law_other.elim .inl fun z => .inr (.inl z)
theorem g__law_grow_range : (defScope s__law_grow).names.lookup ("range" : Str) = some .globalImplicit := rfl
theorem g__law_grow_len : (defScope s__law_grow).names.lookup ("len" : Str) = some .globalImplicit := rfl
theorem g__law_grow__law_names : (defScope s__law_grow).names.lookup ("_law_names" : Str) = some .globalImplicit := rfl
theorem g__law_grow_sorted : (defScope s__law_grow).names.lookup ("sorted" : Str) = some .globalImplicit := rfl
def T__law_grow (CS : Nat → Addr) : FT := fnT 7 (sCo (sFor (gName 2) (iR1 (eC (.int 4))) (sFor (gName 3) (iR1 (eCB cLen (aC (eIx oIx (eV 0) (eC (.int 3))) (aN)))) (sIf (tCmp oIn (eV 3) (eV 1)) (sFor (gName 4) (iSeq (eIx oIx (eIx oIx (eIx oIx (eV 0) (eC (.int 3))) (eV 3)) (eC (.int 3)))) (sFor (gName 5) (iSeq (eCall (T__law_names CS) (aC (eIx oIx (eV 4) (eC (.int 4))) (aN)))) (sFor (gName 6) (iR1 (eCB cLen (aC (eIx oIx (eV 0) (eC (.int 3))) (aN)))) (sIf (tAnd (tCmp oEq (eIx oIx (eIx oIx (eIx oIx (eV 0) (eC (.int 3))) (eV 6)) (eC (.int 1))) (eV 5)) (tCmp oNotIn (eV 6) (eV 1))) (sExpr (eApp (eV 1) (eV 6))) (sNo))))) (sNo)))) (
  sRet (eCB cSortI (aC (eV 1) (aN)))))
theorem ok__law_grow {f : Addr} {fd : FuncData} {CS : Nat → Addr} (F : Fun K "_law_grow" "_law_grow" s__law_grow f fd) (T : Txt K mg CS) (C__law_names : CalX P w K mg base 11 "_law_names" 1 (T__law_names CS)) : FnOk P w K mg base (L2.CX P w) 12 f fd ["_law_program_here", "_law_found"] (spX K 2 (T__law_grow CS)) :=
  okX F sc__law_grow rfl rfl (by decide) fun cdv A outer s H E hr =>
  cs_cons (c1_for (cg_name sc__law_grow.nd rfl lo__law_grow__law_k (.inl rfl)) (ci_range1 g__law_grow_range T.b_range (cm_int) rfl) (cs_one (c1_for (cg_name sc__law_grow.nd rfl lo__law_grow__law_at (.inl rfl)) (ci_range1 g__law_grow_range T.b_range (cm_callB cmc_len bb_len T.b_len g__law_grow_len (ca_cons (cm_ix cmi_ix (cm_v (i := 0) rfl vs__law_grow__law_program_here nd__law_program_here.1 nd__law_program_here.2) (cm_int) (fun _ _ => rfl)) (ca_nil) rfl) nn_len nd_len.1 rfl rfl) rfl) (cs_one (c1_if (ct_cmp cmo_in (cm_v (i := 3) rfl vs__law_grow__law_at nd__law_at.1 nd__law_at.2) (cm_v (i := 1) rfl vs__law_grow__law_found nd__law_found.1 nd__law_found.2) rfl) (cs_one (c1_for (cg_name sc__law_grow.nd rfl lo__law_grow__law_item (.inl rfl)) (ci_seq (cm_ix cmi_ix (cm_ix cmi_ix (cm_ix cmi_ix (cm_v (i := 0) rfl vs__law_grow__law_program_here nd__law_program_here.1 nd__law_program_here.2) (cm_int) (fun _ _ => rfl)) (cm_v (i := 3) rfl vs__law_grow__law_at nd__law_at.1 nd__law_at.2) (fun _ _ => rfl)) (cm_int) (fun _ _ => rfl))) (cs_one (c1_for (cg_name sc__law_grow.nd rfl lo__law_grow__law_name (.inl rfl)) (ci_seq (cm_call C__law_names (hr.mono (by decide)) g__law_grow__law_names (ca_cons (cm_ix cmi_ix (cm_v (i := 4) rfl vs__law_grow__law_item nd__law_item.1 nd__law_item.2) (cm_int) (fun _ _ => rfl)) (ca_nil) rfl) nd__law_names.1 rfl rfl)) (cs_one (c1_for (cg_name sc__law_grow.nd rfl lo__law_grow__law_other (.inl rfl)) (ci_range1 g__law_grow_range T.b_range (cm_callB cmc_len bb_len T.b_len g__law_grow_len (ca_cons (cm_ix cmi_ix (cm_v (i := 0) rfl vs__law_grow__law_program_here nd__law_program_here.1 nd__law_program_here.2) (cm_int) (fun _ _ => rfl)) (ca_nil) rfl) nn_len nd_len.1 rfl rfl) rfl) (cs_one (c1_if (ct_pw (cpw_and (ct_cmp (cmo_eq hr) (cm_ix cmi_ix (cm_ix cmi_ix (cm_ix cmi_ix (cm_v (i := 0) rfl vs__law_grow__law_program_here nd__law_program_here.1 nd__law_program_here.2) (cm_int) (fun _ _ => rfl)) (cm_v (i := 6) rfl vs__law_grow__law_other nd__law_other.1 nd__law_other.2) (fun _ _ => rfl)) (cm_int) (fun _ _ => rfl)) (cm_v (i := 5) rfl vs__law_grow__law_name nd__law_name.1 nd__law_name.2) rfl) (cpw_and1 (ct_cmp cmo_notIn (cm_v (i := 6) rfl vs__law_grow__law_other nd__law_other.1 nd__law_other.2) (cm_v (i := 1) rfl vs__law_grow__law_found nd__law_found.1 nd__law_found.2) rfl)))) (cs_one (c1_expr (cm_app (cm_v (i := 1) rfl vs__law_grow__law_found nd__law_found.1 nd__law_found.2) (cm_v (i := 6) rfl vs__law_grow__law_other nd__law_other.1 nd__law_other.2) rfl rfl rfl rfl) rfl)) (cs_nil))) rfl pass_cx (fun _ => rfl))) rfl pass_cx (fun _ => rfl))) rfl pass_cx (fun _ => rfl))) (cs_nil))) rfl pass_cx (fun _ => rfl))) rfl pass_cx (fun _ => rfl))
  (cs_one (c1_ret (cm_callB cmc_sortI bb_sorted T.b_sorted g__law_grow_sorted (ca_cons (cm_v (i := 1) rfl vs__law_grow__law_found nd__law_found.1 nd__law_found.2) (ca_nil) rfl) nn_sorted nd_sorted.1 rfl rfl)))
abbrev s__law_start : Stmt := top 19
abbrev N__law_start : List Str := ["_law_program_here", "_law_names_here", "_law_at"]
theorem sc__law_start : FnScope N__law_start ["_law_program_here", "_law_names_here"] (defScope s__law_start) := ⟨rfl, rfl, rfl, by decide +kernel, rfl, by decide +kernel, by decide +kernel⟩
theorem lo__law_start__law_program_here : Loc (defScope s__law_start) "_law_program_here" := by first | exact .inl rfl | exact .inr rfl
theorem vs__law_start__law_program_here : Vis (defScope s__law_start) "_law_program_here" := lo__law_start__law_program_here.elim .inl fun z => .inr (.inl z)
theorem lo__law_start__law_names_here : Loc (defScope s__law_start) "_law_names_here" := by first | exact .inl rfl | exact .inr rfl
theorem vs__law_start__law_names_here : Vis (defScope s__law_start) "_law_names_here" := lo__law_start__law_names_here.elim .inl fun z => .inr (.inl z)
theorem g__law_start__law_grow : (defScope s__law_start).names.lookup ("_law_grow" : Str) = some .globalImplicit := rfl
theorem g__law_start_range : (defScope s__law_start).names.lookup ("range" : Str) = some .globalImplicit := rfl
theorem g__law_start_len : (defScope s__law_start).names.lookup ("len" : Str) = some .globalImplicit := rfl
def T__law_start (CS : Nat → Addr) : FT := fnT 3 (sRet (eCall (T__law_grow CS) (aC (eV 0) (aC (eLc true [2] (b1 2) (iR1 (eCB cLen (aC (eIx oIx (eV 0) (eC (.int 3))) (aN)))) (tCmp oIn (eIx oIx (eIx oIx (eIx oIx (eV 0) (eC (.int 3))) (eV 2)) (eC (.int 1))) (eV 1)) (eV 2)) (aN)))))
theorem ok__law_start {f : Addr} {fd : FuncData} {CS : Nat → Addr} (F : Fun K "_law_start" "_law_start" s__law_start f fd) (T : Txt K mg CS) (C__law_grow : CalX P w K mg base 12 "_law_grow" 2 (T__law_grow CS)) : FnOk P w K mg base (L2.CX P w) 13 f fd ["_law_program_here", "_law_names_here"] (spX K 2 (T__law_start CS)) :=
  okX F sc__law_start rfl rfl (by decide) fun cdv A outer s H E hr =>
  cs_one (c1_ret (cm_call C__law_grow (hr.mono (by decide)) g__law_start__law_grow (ca_cons (cm_v (i := 0) rfl vs__law_start__law_program_here nd__law_program_here.1 nd__law_program_here.2) (ca_cons (cm_lc (own := [("_law_at", 2)]) rfl sc__law_start.nd (blkOk_by (N := N__law_start) (sc := defScope s__law_start) (by decide +kernel)) (bind1 (by decide)) (fun _ _ _ _ _ => L2.pg_name sc__law_start.nd (i := 2) rfl (.inl rfl) (.inr rfl)) (ci_range1 g__law_start_range T.b_range (cm_callB cmc_len bb_len T.b_len g__law_start_len (ca_cons (cm_ix cmi_ix (cm_v (i := 0) rfl vs__law_start__law_program_here nd__law_program_here.1 nd__law_program_here.2) (cm_int) (fun _ _ => rfl)) (ca_nil) rfl) nn_len nd_len.1 rfl rfl) rfl) (fun _ _ _ _ _ => cts_one (ct_cmp cmo_in (cm_ix cmi_ix (cm_ix cmi_ix (cm_ix cmi_ix (cm_v (i := 0) rfl (by first | exact Or.inl rfl | exact Or.inr (Or.inl rfl) | exact Or.inr (Or.inr rfl)) nd__law_program_here.1 nd__law_program_here.2) (cm_int) (fun _ _ => rfl)) (cm_v (i := 2) rfl (by first | exact Or.inl rfl | exact Or.inr (Or.inl rfl) | exact Or.inr (Or.inr rfl)) nd__law_at.1 nd__law_at.2) (fun _ _ => rfl)) (cm_int) (fun _ _ => rfl)) (cm_v (i := 1) rfl (by first | exact Or.inl rfl | exact Or.inr (Or.inl rfl) | exact Or.inr (Or.inr rfl)) nd__law_names_here.1 nd__law_names_here.2) rfl)) (fun _ _ _ _ _ => cm_v (i := 2) rfl (by first | exact Or.inl rfl | exact Or.inr (Or.inl rfl) | exact Or.inr (Or.inr rfl)) nd__law_at.1 nd__law_at.2) (fun _ => rfl)) (ca_nil) rfl) rfl) nd__law_grow.1 rfl rfl))
abbrev s__called : Stmt := top 2
abbrev N__called : List Str := ["body", "names", "statement"]
theorem sc__called : FnScope N__called ["body"] (defScope s__called) := ⟨rfl, rfl, rfl, by decide +kernel, rfl, by decide +kernel, by decide +kernel⟩
theorem lo__called_body : Loc (defScope s__called) "body" := by first | exact .inl rfl | exact .inr rfl
theorem vs__called_body : Vis (defScope s__called) "body" := lo__called_body.elim .inl fun z => .inr (.inl z)
theorem lo__called_names : Loc (defScope s__called) "names" := by first | exact .inl rfl | exact .inr rfl
theorem vs__called_names : Vis (defScope s__called) "names" := lo__called_names.elim .inl fun z => .inr (.inl z)
theorem lo__called_statement : Loc (defScope s__called) "statement" := by first | exact .inl rfl | exact .inr rfl
theorem vs__called_statement : Vis (defScope s__called) "statement" := lo__called_statement.elim .inl fun z => .inr (.inl z)
theorem g__called__called : (defScope s__called).names.lookup ("_called" : Str) = some .globalImplicit := rfl
def B__called (CS : Nat → Addr) (R : Nat → FT) : FT := fnT 3 (sCo (sSet 1 (eLstO (aN))) (
  sCo (sFor (gName 2) (iSeq (eV 0)) (sIf (tCmp oEq (eIx oIx (eV 2) (eC (.int 0))) (eC (.str "call"))) (sExpr (eApp (eV 1) (eIx oIx (eV 2) (eC (.int 2))))) (sIf (tCmp oEq (eIx oIx (eV 2) (eC (.int 0))) (eC (.str "if"))) (sCo (sExpr (eExt (eV 1) (eCall (R 0) (aC (eIx oIx (eV 2) (eC (.int 2))) (aN))))) (
  sExpr (eExt (eV 1) (eCall (R 0) (aC (eIx oIx (eV 2) (eC (.int 3))) (aN)))))) (sIf (tCmp oEq (eIx oIx (eV 2) (eC (.int 0))) (eC (.str "loop"))) (sExpr (eExt (eV 1) (eCall (R 0) (aC (eIx oIx (eV 2) (eC (.int 4))) (aN))))) (sNo))))) (
  sRet (eFrz (eV 1)))))
theorem ok__called {f : Addr} {fd : FuncData} {CS : Nat → Addr} {lv : Nat} {R : Nat → FT} (hl : 0 ≤ lv) (F : Fun K "_called" "_called" s__called f fd) (T : Txt K mg CS) (C__called : CalX P w K mg base lv "_called" 1 (R 0)) : FnOk P w K mg base (L2.CX P w) (lv + 1) f fd ["body"] (spX K 1 (B__called CS R)) :=
  okX F sc__called rfl rfl (by decide) fun cdv A outer s H E hr =>
  cs_cons (c1_set sc__called.nd rfl lo__called_names (cm_lstO (ca_nil) (by decide)) rfl (.inl rfl))
  (cs_cons (c1_for (cg_name sc__called.nd rfl lo__called_statement (.inl rfl)) (ci_seq (cm_v (i := 0) rfl vs__called_body nd_body.1 nd_body.2)) (cs_one (c1_if (ct_cmp (cmo_eq hr) (cm_ix cmi_ix (cm_v (i := 2) rfl vs__called_statement nd_statement.1 nd_statement.2) (cm_int) (fun _ _ => rfl)) (cm_str) rfl) (cs_one (c1_expr (cm_app (cm_v (i := 1) rfl vs__called_names nd_names.1 nd_names.2) (cm_ix cmi_ix (cm_v (i := 2) rfl vs__called_statement nd_statement.1 nd_statement.2) (cm_int) (fun _ _ => rfl)) rfl rfl rfl rfl) rfl)) (cs_one (c1_if (ct_cmp (cmo_eq hr) (cm_ix cmi_ix (cm_v (i := 2) rfl vs__called_statement nd_statement.1 nd_statement.2) (cm_int) (fun _ _ => rfl)) (cm_str) rfl) (cs_cons (c1_expr (cm_ext (cm_v (i := 1) rfl vs__called_names nd_names.1 nd_names.2) (cm_call C__called (hr.mono (by omega)) g__called__called (ca_cons (cm_ix cmi_ix (cm_v (i := 2) rfl vs__called_statement nd_statement.1 nd_statement.2) (cm_int) (fun _ _ => rfl)) (ca_nil) rfl) nd__called.1 rfl rfl) rfl rfl rfl rfl) rfl)
  (cs_one (c1_expr (cm_ext (cm_v (i := 1) rfl vs__called_names nd_names.1 nd_names.2) (cm_call C__called (hr.mono (by omega)) g__called__called (ca_cons (cm_ix cmi_ix (cm_v (i := 2) rfl vs__called_statement nd_statement.1 nd_statement.2) (cm_int) (fun _ _ => rfl)) (ca_nil) rfl) nd__called.1 rfl rfl) rfl rfl rfl rfl) rfl))) (cs_one (c1_if (ct_cmp (cmo_eq hr) (cm_ix cmi_ix (cm_v (i := 2) rfl vs__called_statement nd_statement.1 nd_statement.2) (cm_int) (fun _ _ => rfl)) (cm_str) rfl) (cs_one (c1_expr (cm_ext (cm_v (i := 1) rfl vs__called_names nd_names.1 nd_names.2) (cm_call C__called (hr.mono (by omega)) g__called__called (ca_cons (cm_ix cmi_ix (cm_v (i := 2) rfl vs__called_statement nd_statement.1 nd_statement.2) (cm_int) (fun _ _ => rfl)) (ca_nil) rfl) nd__called.1 rfl rfl) rfl rfl rfl rfl) rfl)) (cs_nil))))))) rfl pass_cx (fun _ => rfl))
  (cs_one (c1_ret (cm_frz (cm_v (i := 1) rfl vs__called_names nd_names.1 nd_names.2)))))
def TS_3 (CS : Nat → Addr) : Nat → Nat → FT
  | 0 => fun _ => noT
  | n + 1 => fun i => match i with | _ => B__called CS (TS_3 CS n)
def T__called (CS : Nat → Addr) : FT := TS_3 CS 10 0
abbrev s_find : Stmt := top 1
abbrev N_find : List Str := ["rows", "name", "k", "row"]
theorem sc_find : FnScope N_find ["rows", "name"] (defScope s_find) := ⟨rfl, rfl, rfl, by decide +kernel, rfl, by decide +kernel, by decide +kernel⟩
theorem lo_find_rows : Loc (defScope s_find) "rows" := by first | exact .inl rfl | exact .inr rfl
theorem vs_find_rows : Vis (defScope s_find) "rows" := lo_find_rows.elim .inl fun z => .inr (.inl z)
theorem lo_find_name : Loc (defScope s_find) "name" := by first | exact .inl rfl | exact .inr rfl
theorem vs_find_name : Vis (defScope s_find) "name" := lo_find_name.elim .inl fun z => .inr (.inl z)
theorem lo_find_k : Loc (defScope s_find) "k" := by first | exact .inl rfl | exact .inr rfl
theorem vs_find_k : Vis (defScope s_find) "k" := lo_find_k.elim .inl fun z => .inr (.inl z)
theorem lo_find_row : Loc (defScope s_find) "row" := by first | exact .inl rfl | exact .inr rfl
theorem vs_find_row : Vis (defScope s_find) "row" := lo_find_row.elim .inl fun z => .inr (.inl z)
theorem g_find_enumerate : (defScope s_find).names.lookup ("enumerate" : Str) = some .globalImplicit := rfl
def T_find (CS : Nat → Addr) : FT := fnT 4 (sCo (sFor (gTup 2 (gsC (gName 2) (gsC (gName 3) (gsN)))) (iEnA (eV 0)) (sIf (tCmp oEq (eIx oIx (eV 3) (eC (.int 1))) (eV 1)) (sRet (eV 2)) (sNo))) (
  sRet (eNeg (eC (.int 1)))))
theorem ok_find {f : Addr} {fd : FuncData} {CS : Nat → Addr} (F : Fun K "find" "find" s_find f fd) (T : Txt K mg CS) : FnOk P w K mg base (L2.CX P w) 1 f fd ["rows", "name"] (spX K 2 (T_find CS)) :=
  okX F sc_find rfl rfl (by decide) fun cdv A outer s H E hr =>
  cs_cons (c1_for (cg_tup rfl (cgs_cons (cg_name sc_find.nd rfl lo_find_k (.inl rfl)) (cgs_cons (cg_name sc_find.nd rfl lo_find_row (.inl rfl)) (cgs_nil) rfl) rfl) rfl rfl) (ci_enA g_find_enumerate T.b_enumerate (cm_v (i := 0) rfl vs_find_rows nd_rows.1 nd_rows.2) rfl) (cs_one (c1_if (ct_cmp (cmo_eq hr) (cm_ix cmi_ix (cm_v (i := 3) rfl vs_find_row nd_row.1 nd_row.2) (cm_int) (fun _ _ => rfl)) (cm_v (i := 1) rfl vs_find_name nd_name.1 nd_name.2) rfl) (cs_one (c1_ret (cm_v (i := 2) rfl vs_find_k nd_k.1 nd_k.2))) (cs_nil))) rfl pass_cx (fun _ => rfl))
  (cs_one (c1_ret (cm_neg (cm_int))))
abbrev s__closure : Stmt := top 3
abbrev N__closure : List Str := ["objects", "names", "reach", "found", "name", "at"]
theorem sc__closure : FnScope N__closure ["objects", "names", "reach"] (defScope s__closure) := ⟨rfl, rfl, rfl, by decide +kernel, rfl, by decide +kernel, by decide +kernel⟩
theorem lo__closure_objects : Loc (defScope s__closure) "objects" := by first | exact .inl rfl | exact .inr rfl
theorem vs__closure_objects : Vis (defScope s__closure) "objects" := lo__closure_objects.elim .inl fun z => .inr (.inl z)
theorem lo__closure_names : Loc (defScope s__closure) "names" := by first | exact .inl rfl | exact .inr rfl
theorem vs__closure_names : Vis (defScope s__closure) "names" := lo__closure_names.elim .inl fun z => .inr (.inl z)
theorem lo__closure_reach : Loc (defScope s__closure) "reach" := by first | exact .inl rfl | exact .inr rfl
theorem vs__closure_reach : Vis (defScope s__closure) "reach" := lo__closure_reach.elim .inl fun z => .inr (.inl z)
theorem lo__closure_found : Loc (defScope s__closure) "found" := by first | exact .inl rfl | exact .inr rfl
theorem vs__closure_found : Vis (defScope s__closure) "found" := lo__closure_found.elim .inl fun z => .inr (.inl z)
theorem lo__closure_name : Loc (defScope s__closure) "name" := by first | exact .inl rfl | exact .inr rfl
theorem vs__closure_name : Vis (defScope s__closure) "name" := lo__closure_name.elim .inl fun z => .inr (.inl z)
theorem lo__closure_at : Loc (defScope s__closure) "at" := by first | exact .inl rfl | exact .inr rfl
theorem vs__closure_at : Vis (defScope s__closure) "at" := lo__closure_at.elim .inl fun z => .inr (.inl z)
theorem g__closure_find : (defScope s__closure).names.lookup ("find" : Str) = some .globalImplicit := rfl
theorem g__closure_sorted : (defScope s__closure).names.lookup ("sorted" : Str) = some .globalImplicit := rfl
def T__closure (CS : Nat → Addr) : FT := fnT 6 (sCo (sSet 3 (eDNew)) (
  sCo (sFor (gName 4) (iSeq (eV 1)) (sFor (gName 5) (iSeq (eIx oIx (eV 2) (eCall (T_find CS) (aC (eV 0) (aC (eV 4) (aN)))))) (sDPut (eV 3) (eV 5) (eC (.bl true))))) (
  sRet (eCB cSortDIO (aC (eV 3) (aN))))))
theorem ok__closure {f : Addr} {fd : FuncData} {CS : Nat → Addr} (F : Fun K "_closure" "_closure" s__closure f fd) (T : Txt K mg CS) (C_find : CalX P w K mg base 1 "find" 2 (T_find CS)) : FnOk P w K mg base (L2.CX P w) 2 f fd ["objects", "names", "reach"] (spX K 3 (T__closure CS)) :=
  okX F sc__closure rfl rfl (by decide) fun cdv A outer s H E hr =>
  cs_cons (c1_set sc__closure.nd rfl lo__closure_found (cm_dnew) rfl (.inl rfl))
  (cs_cons (c1_for (cg_name sc__closure.nd rfl lo__closure_name (.inl rfl)) (ci_seq (cm_v (i := 1) rfl vs__closure_names nd_names.1 nd_names.2)) (cs_one (c1_for (cg_name sc__closure.nd rfl lo__closure_at (.inl rfl)) (ci_seq (cm_ix cmi_ix (cm_v (i := 2) rfl vs__closure_reach nd_reach.1 nd_reach.2) (cm_call C_find (hr.mono (by decide)) g__closure_find (ca_cons (cm_v (i := 0) rfl vs__closure_objects nd_objects.1 nd_objects.2) (ca_cons (cm_v (i := 4) rfl vs__closure_name nd_name.1 nd_name.2) (ca_nil) rfl) rfl) nd_find.1 rfl rfl) (fun _ _ => rfl))) (cs_one (c1_dput hr (cm_v (i := 3) rfl vs__closure_found nd_found.1 nd_found.2) (cm_v (i := 5) rfl vs__closure_at nd_at.1 nd_at.2) (cm_bl) rfl)) rfl pass_cx (fun _ => rfl))) rfl pass_cx (fun _ => rfl))
  (cs_one (c1_ret (cm_callB (cmc_sortDIO rfl) bb_sorted T.b_sorted g__closure_sorted (ca_cons (cm_v (i := 3) rfl vs__closure_found nd_found.1 nd_found.2) (ca_nil) rfl) nn_sorted nd_sorted.1 rfl rfl))))
abbrev s_reached : Stmt := top 4
abbrev N_reached : List Str := ["program", "objects", "reach", "at", "names", "operation", "part", "k"]
theorem sc_reached : FnScope N_reached ["program"] (defScope s_reached) := ⟨rfl, rfl, rfl, by decide +kernel, rfl, by decide +kernel, by decide +kernel⟩
theorem lo_reached_program : Loc (defScope s_reached) "program" := by first | exact .inl rfl | exact .inr rfl
theorem vs_reached_program : Vis (defScope s_reached) "program" := lo_reached_program.elim .inl fun z => .inr (.inl z)
theorem lo_reached_objects : Loc (defScope s_reached) "objects" := by first | exact .inl rfl | exact .inr rfl
theorem vs_reached_objects : Vis (defScope s_reached) "objects" := lo_reached_objects.elim .inl fun z => .inr (.inl z)
theorem lo_reached_reach : Loc (defScope s_reached) "reach" := by first | exact .inl rfl | exact .inr rfl
theorem vs_reached_reach : Vis (defScope s_reached) "reach" := lo_reached_reach.elim .inl fun z => .inr (.inl z)
theorem lo_reached_at : Loc (defScope s_reached) "at" := by first | exact .inl rfl | exact .inr rfl
theorem vs_reached_at : Vis (defScope s_reached) "at" := lo_reached_at.elim .inl fun z => .inr (.inl z)
theorem lo_reached_names : Loc (defScope s_reached) "names" := by first | exact .inl rfl | exact .inr rfl
theorem vs_reached_names : Vis (defScope s_reached) "names" := lo_reached_names.elim .inl fun z => .inr (.inl z)
theorem lo_reached_operation : Loc (defScope s_reached) "operation" := by first | exact .inl rfl | exact .inr rfl
theorem vs_reached_operation : Vis (defScope s_reached) "operation" := lo_reached_operation.elim .inl fun z => .inr (.inl z)
theorem g_reached_reversed : (defScope s_reached).names.lookup ("reversed" : Str) = some .globalImplicit := rfl
theorem g_reached_range : (defScope s_reached).names.lookup ("range" : Str) = some .globalImplicit := rfl
theorem g_reached_len : (defScope s_reached).names.lookup ("len" : Str) = some .globalImplicit := rfl
theorem g_reached__called : (defScope s_reached).names.lookup ("_called" : Str) = some .globalImplicit := rfl
theorem g_reached_sorted : (defScope s_reached).names.lookup ("sorted" : Str) = some .globalImplicit := rfl
theorem g_reached__closure : (defScope s_reached).names.lookup ("_closure" : Str) = some .globalImplicit := rfl
def T_reached (CS : Nat → Addr) : FT := fnT 8 (sCo (sSet 1 (eIx oIx (eV 0) (eC (.int 3)))) (
  sCo (sSet 2 (eLc true [6] (b1 6) (iSeq (eV 1)) (tYes) (eLst (aN)))) (
  sCo (sFor (gName 3) (iRv1 (eCB cLen (aC (eV 1) (aN)))) (sCo (sSet 4 (eLstO (aN))) (
  sCo (sFor (gName 5) (iSeq (eIx oIx (eIx oIx (eV 1) (eV 3)) (eC (.int 3)))) (sExpr (eExt (eV 4) (eCall (T__called CS) (aC (eIx oIx (eV 5) (eC (.int 4))) (aN)))))) (
  sAsg (gSub (eV 2) (eV 3)) (eCB cSortIO (aC (eBin oAdd (eLst (aC (eV 3) (aN))) (eLc false [7] (b1 7) (iSeq (eCall (T__closure CS) (aC (eV 1) (aC (eV 4) (aC (eV 2) (aN)))))) (tCmp oNe (eV 7) (eV 3)) (eV 7))) (aN))))))) (
  sRet (eFrz (eV 2))))))
theorem ok_reached {f : Addr} {fd : FuncData} {CS : Nat → Addr} (F : Fun K "reached" "reached" s_reached f fd) (T : Txt K mg CS) (C__called : CalX P w K mg base 11 "_called" 1 (T__called CS)) (C__closure : CalX P w K mg base 2 "_closure" 3 (T__closure CS)) : FnOk P w K mg base (L2.CX P w) 12 f fd ["program"] (spX K 1 (T_reached CS)) :=
  okX F sc_reached rfl rfl (by decide) fun cdv A outer s H E hr =>
  cs_cons (c1_set sc_reached.nd rfl lo_reached_objects (cm_ix cmi_ix (cm_v (i := 0) rfl vs_reached_program nd_program.1 nd_program.2) (cm_int) (fun _ _ => rfl)) rfl (.inl rfl))
  (cs_cons ((by first | exact c1_setLc (iy := 2) (own := [("part", 6)]) rfl sc_reached.nd (blkOk_by (N := N_reached) (sc := defScope s_reached) (by decide +kernel)) (bind1 (by decide)) (fun _ _ _ _ _ => L2.pg_name sc_reached.nd (i := 6) rfl (.inl rfl) (.inr rfl)) (ci_seq (cm_v (i := 1) rfl vs_reached_objects nd_objects.1 nd_objects.2)) (fun _ _ _ _ _ => cts_nil) (fun _ _ _ _ _ => cm_lst (ca_nil) (by decide)) rfl rfl (sw_true rfl rfl rfl (by decide +kernel)) (fun _ => rfl) | exact c1_set (i := 2) sc_reached.nd rfl lo_reached_reach (cm_lc (own := [("part", 6)]) rfl sc_reached.nd (blkOk_by (N := N_reached) (sc := defScope s_reached) (by decide +kernel)) (bind1 (by decide)) (fun _ _ _ _ _ => L2.pg_name sc_reached.nd (i := 6) rfl (.inl rfl) (.inr rfl)) (ci_seq (cm_v (i := 1) rfl vs_reached_objects nd_objects.1 nd_objects.2)) (fun _ _ _ _ _ => cts_nil) (fun _ _ _ _ _ => cm_lst (ca_nil) (by decide)) (fun _ => rfl)) rfl (.inl rfl)))
  (cs_cons (c1_for (cg_name sc_reached.nd rfl lo_reached_at (.inl rfl)) (ci_rev1 g_reached_reversed T.b_reversed g_reached_range T.b_range (cm_callB cmc_len bb_len T.b_len g_reached_len (ca_cons (cm_v (i := 1) rfl vs_reached_objects nd_objects.1 nd_objects.2) (ca_nil) rfl) nn_len nd_len.1 rfl rfl) rfl rfl) (cs_cons (c1_set sc_reached.nd rfl lo_reached_names (cm_lstO (ca_nil) (by decide)) rfl (.inl rfl))
  (cs_cons (c1_for (cg_name sc_reached.nd rfl lo_reached_operation (.inl rfl)) (ci_seq (cm_ix cmi_ix (cm_ix cmi_ix (cm_v (i := 1) rfl vs_reached_objects nd_objects.1 nd_objects.2) (cm_v (i := 3) rfl vs_reached_at nd_at.1 nd_at.2) (fun _ _ => rfl)) (cm_int) (fun _ _ => rfl))) (cs_one (c1_expr (cm_ext (cm_v (i := 4) rfl vs_reached_names nd_names.1 nd_names.2) (cm_call C__called (hr.mono (by decide)) g_reached__called (ca_cons (cm_ix cmi_ix (cm_v (i := 5) rfl vs_reached_operation nd_operation.1 nd_operation.2) (cm_int) (fun _ _ => rfl)) (ca_nil) rfl) nd__called.1 rfl rfl) rfl rfl rfl rfl) rfl)) rfl pass_cx (fun _ => rfl))
  (cs_one (c1_asg (cg_sub (cm_v (i := 2) rfl vs_reached_reach nd_reach.1 nd_reach.2) (cm_v (i := 3) rfl vs_reached_at nd_at.1 nd_at.2) (fun _ => rfl)) (cm_callB cmc_sortIO bb_sorted T.b_sorted g_reached_sorted (ca_cons (cm_bin cmo_add (cm_lst (ca_cons (cm_v (i := 3) rfl vs_reached_at nd_at.1 nd_at.2) (ca_nil) rfl) (by decide)) (cm_lc (own := [("k", 7)]) rfl sc_reached.nd (blkOk_by (N := N_reached) (sc := defScope s_reached) (by decide +kernel)) (bind1 (by decide)) (fun _ _ _ _ _ => L2.pg_name sc_reached.nd (i := 7) rfl (.inl rfl) (.inr rfl)) (ci_seq (cm_call C__closure (hr.mono (by decide)) g_reached__closure (ca_cons (cm_v (i := 1) rfl vs_reached_objects nd_objects.1 nd_objects.2) (ca_cons (cm_v (i := 4) rfl vs_reached_names nd_names.1 nd_names.2) (ca_cons (cm_v (i := 2) rfl vs_reached_reach nd_reach.1 nd_reach.2) (ca_nil) rfl) rfl) rfl) nd__closure.1 rfl rfl)) (fun _ _ _ _ _ => cts_one (ct_cmp (cmo_ne hr) (cm_v (i := 7) rfl (by first | exact Or.inl rfl | exact Or.inr (Or.inl rfl) | exact Or.inr (Or.inr rfl)) nd_k.1 nd_k.2) (cm_v (i := 3) rfl (by first | exact Or.inl rfl | exact Or.inr (Or.inl rfl) | exact Or.inr (Or.inr rfl)) nd_at.1 nd_at.2) rfl)) (fun _ _ _ _ _ => cm_v (i := 7) rfl (by first | exact Or.inl rfl | exact Or.inr (Or.inl rfl) | exact Or.inr (Or.inr rfl)) nd_k.1 nd_k.2) (fun _ => rfl))) (ca_nil) rfl) nn_sorted nd_sorted.1 rfl rfl) rfl rfl rfl)))) rfl pass_cx (fun _ => rfl))
  (cs_one (c1_ret (cm_frz (cm_v (i := 2) rfl vs_reached_reach nd_reach.1 nd_reach.2))))))
abbrev s_used : Stmt := top 5
abbrev N_used : List Str := ["program", "reach", "objects", "out", "interrupt", "task"]
theorem sc_used : FnScope N_used ["program"] (defScope s_used) := ⟨rfl, rfl, rfl, by decide +kernel, rfl, by decide +kernel, by decide +kernel⟩
theorem lo_used_program : Loc (defScope s_used) "program" := by first | exact .inl rfl | exact .inr rfl
theorem vs_used_program : Vis (defScope s_used) "program" := lo_used_program.elim .inl fun z => .inr (.inl z)
theorem lo_used_reach : Loc (defScope s_used) "reach" := by first | exact .inl rfl | exact .inr rfl
theorem vs_used_reach : Vis (defScope s_used) "reach" := lo_used_reach.elim .inl fun z => .inr (.inl z)
theorem lo_used_objects : Loc (defScope s_used) "objects" := by first | exact .inl rfl | exact .inr rfl
theorem vs_used_objects : Vis (defScope s_used) "objects" := lo_used_objects.elim .inl fun z => .inr (.inl z)
theorem lo_used_out : Loc (defScope s_used) "out" := by first | exact .inl rfl | exact .inr rfl
theorem vs_used_out : Vis (defScope s_used) "out" := lo_used_out.elim .inl fun z => .inr (.inl z)
theorem lo_used_interrupt : Loc (defScope s_used) "interrupt" := by first | exact .inl rfl | exact .inr rfl
theorem vs_used_interrupt : Vis (defScope s_used) "interrupt" := lo_used_interrupt.elim .inl fun z => .inr (.inl z)
theorem g_used_reached : (defScope s_used).names.lookup ("reached" : Str) = some .globalImplicit := rfl
theorem g_used_list : (defScope s_used).names.lookup ("list" : Str) = some .globalImplicit := rfl
theorem g_used_find : (defScope s_used).names.lookup ("find" : Str) = some .globalImplicit := rfl
def T_used (CS : Nat → Addr) : FT := fnT 6 (sCo (sSet 1 (eCall (T_reached CS) (aC (eV 0) (aN)))) (
  sCo (sSet 2 (eIx oIx (eV 0) (eC (.int 3)))) (
  sCo (sSet 3 (eLc true [5] (b1 5) (iSeq (eIx oIx (eV 0) (eC (.int 4)))) (tYes) (eCall (T__closure CS) (aC (eV 2) (aC (eCall (T__called CS) (aC (eIx oIx (eV 5) (eC (.int 5))) (aN))) (aC (eV 1) (aN))))))) (
  sCo (sFor (gName 4) (iSeq (eIx oIx (eV 0) (eC (.int 5)))) (sExpr (eApp (eV 3) (eCB cListO (aC (eIx oIx (eV 1) (eCall (T_find CS) (aC (eV 2) (aC (eIx oIx (eV 4) (eC (.int 4))) (aN))))) (aN)))))) (
  sRet (eFrz (eV 3)))))))
theorem ok_used {f : Addr} {fd : FuncData} {CS : Nat → Addr} (F : Fun K "used" "used" s_used f fd) (T : Txt K mg CS) (C_reached : CalX P w K mg base 12 "reached" 1 (T_reached CS)) (C__closure : CalX P w K mg base 2 "_closure" 3 (T__closure CS)) (C__called : CalX P w K mg base 11 "_called" 1 (T__called CS)) (C_find : CalX P w K mg base 1 "find" 2 (T_find CS)) : FnOk P w K mg base (L2.CX P w) 13 f fd ["program"] (spX K 1 (T_used CS)) :=
  okX F sc_used rfl rfl (by decide) fun cdv A outer s H E hr =>
  cs_cons (c1_set sc_used.nd rfl lo_used_reach (cm_call C_reached (hr.mono (by decide)) g_used_reached (ca_cons (cm_v (i := 0) rfl vs_used_program nd_program.1 nd_program.2) (ca_nil) rfl) nd_reached.1 rfl rfl) rfl (.inl rfl))
  (cs_cons (c1_set sc_used.nd rfl lo_used_objects (cm_ix cmi_ix (cm_v (i := 0) rfl vs_used_program nd_program.1 nd_program.2) (cm_int) (fun _ _ => rfl)) rfl (.inl rfl))
  (cs_cons ((by first | exact c1_setLc (iy := 3) (own := [("task", 5)]) rfl sc_used.nd (blkOk_by (N := N_used) (sc := defScope s_used) (by decide +kernel)) (bind1 (by decide)) (fun _ _ _ _ _ => L2.pg_name sc_used.nd (i := 5) rfl (.inl rfl) (.inr rfl)) (ci_seq (cm_ix cmi_ix (cm_v (i := 0) rfl vs_used_program nd_program.1 nd_program.2) (cm_int) (fun _ _ => rfl))) (fun _ _ _ _ _ => cts_nil) (fun _ _ _ _ _ => cm_call C__closure (hr.mono (by decide)) rfl (ca_cons (cm_v (i := 2) rfl (by first | exact Or.inl rfl | exact Or.inr (Or.inl rfl) | exact Or.inr (Or.inr rfl)) nd_objects.1 nd_objects.2) (ca_cons (cm_call C__called (hr.mono (by decide)) rfl (ca_cons (cm_ix cmi_ix (cm_v (i := 5) rfl (by first | exact Or.inl rfl | exact Or.inr (Or.inl rfl) | exact Or.inr (Or.inr rfl)) nd_task.1 nd_task.2) (cm_int) (fun _ _ => rfl)) (ca_nil) rfl) nd__called.1 rfl rfl) (ca_cons (cm_v (i := 1) rfl (by first | exact Or.inl rfl | exact Or.inr (Or.inl rfl) | exact Or.inr (Or.inr rfl)) nd_reach.1 nd_reach.2) (ca_nil) rfl) rfl) rfl) nd__closure.1 rfl rfl) rfl rfl (sw_true rfl rfl rfl (by decide +kernel)) (fun _ => rfl) | exact c1_set (i := 3) sc_used.nd rfl lo_used_out (cm_lc (own := [("task", 5)]) rfl sc_used.nd (blkOk_by (N := N_used) (sc := defScope s_used) (by decide +kernel)) (bind1 (by decide)) (fun _ _ _ _ _ => L2.pg_name sc_used.nd (i := 5) rfl (.inl rfl) (.inr rfl)) (ci_seq (cm_ix cmi_ix (cm_v (i := 0) rfl vs_used_program nd_program.1 nd_program.2) (cm_int) (fun _ _ => rfl))) (fun _ _ _ _ _ => cts_nil) (fun _ _ _ _ _ => cm_call C__closure (hr.mono (by decide)) rfl (ca_cons (cm_v (i := 2) rfl (by first | exact Or.inl rfl | exact Or.inr (Or.inl rfl) | exact Or.inr (Or.inr rfl)) nd_objects.1 nd_objects.2) (ca_cons (cm_call C__called (hr.mono (by decide)) rfl (ca_cons (cm_ix cmi_ix (cm_v (i := 5) rfl (by first | exact Or.inl rfl | exact Or.inr (Or.inl rfl) | exact Or.inr (Or.inr rfl)) nd_task.1 nd_task.2) (cm_int) (fun _ _ => rfl)) (ca_nil) rfl) nd__called.1 rfl rfl) (ca_cons (cm_v (i := 1) rfl (by first | exact Or.inl rfl | exact Or.inr (Or.inl rfl) | exact Or.inr (Or.inr rfl)) nd_reach.1 nd_reach.2) (ca_nil) rfl) rfl) rfl) nd__closure.1 rfl rfl) (fun _ => rfl)) rfl (.inl rfl)))
  (cs_cons (c1_for (cg_name sc_used.nd rfl lo_used_interrupt (.inl rfl)) (ci_seq (cm_ix cmi_ix (cm_v (i := 0) rfl vs_used_program nd_program.1 nd_program.2) (cm_int) (fun _ _ => rfl))) (cs_one (c1_expr (cm_app (cm_v (i := 3) rfl vs_used_out nd_out.1 nd_out.2) (cm_callTy cmc_listO bt_list T.b_list g_used_list (ca_cons (cm_ix cmi_ix (cm_v (i := 1) rfl vs_used_reach nd_reach.1 nd_reach.2) (cm_call C_find (hr.mono (by decide)) g_used_find (ca_cons (cm_v (i := 2) rfl vs_used_objects nd_objects.1 nd_objects.2) (ca_cons (cm_ix cmi_ix (cm_v (i := 4) rfl vs_used_interrupt nd_interrupt.1 nd_interrupt.2) (cm_int) (fun _ _ => rfl)) (ca_nil) rfl) rfl) nd_find.1 rfl rfl) (fun _ _ => rfl)) (ca_nil) rfl) nn_list nd_list.1 rfl rfl) rfl rfl rfl rfl) rfl)) rfl pass_cx (fun _ => rfl))
  (cs_one (c1_ret (cm_frz (cm_v (i := 3) rfl vs_used_out nd_out.1 nd_out.2)))))))
abbrev s__law_same : Stmt := top 20
abbrev N__law_same : List Str := ["_law_actual", "_law_due", "_law_k", "_law_j", "_law_item"]
theorem sc__law_same : FnScope N__law_same ["_law_actual", "_law_due"] (defScope s__law_same) := ⟨rfl, rfl, rfl, by decide +kernel, rfl, by decide +kernel, by decide +kernel⟩
theorem lo__law_same__law_actual : Loc (defScope s__law_same) "_law_actual" := by first | exact .inl rfl | exact .inr rfl
theorem vs__law_same__law_actual : Vis (defScope s__law_same) "_law_actual" := lo__law_same__law_actual.elim .inl fun z => .inr (.inl z)
theorem lo__law_same__law_due : Loc (defScope s__law_same) "_law_due" := by first | exact .inl rfl | exact .inr rfl
theorem vs__law_same__law_due : Vis (defScope s__law_same) "_law_due" := lo__law_same__law_due.elim .inl fun z => .inr (.inl z)
theorem lo__law_same__law_k : Loc (defScope s__law_same) "_law_k" := by first | exact .inl rfl | exact .inr rfl
theorem vs__law_same__law_k : Vis (defScope s__law_same) "_law_k" := lo__law_same__law_k.elim .inl fun z => .inr (.inl z)
theorem lo__law_same__law_j : Loc (defScope s__law_same) "_law_j" := by first | exact .inl rfl | exact .inr rfl
theorem vs__law_same__law_j : Vis (defScope s__law_same) "_law_j" := lo__law_same__law_j.elim .inl fun z => .inr (.inl z)
theorem lo__law_same__law_item : Loc (defScope s__law_same) "_law_item" := by first | exact .inl rfl | exact .inr rfl
theorem vs__law_same__law_item : Vis (defScope s__law_same) "_law_item" := lo__law_same__law_item.elim .inl fun z => .inr (.inl z)
theorem g__law_same_isinstance : (defScope s__law_same).names.lookup ("isinstance" : Str) = some .globalImplicit := rfl
theorem g__law_same_list : (defScope s__law_same).names.lookup ("list" : Str) = some .globalImplicit := rfl
theorem g__law_same_len : (defScope s__law_same).names.lookup ("len" : Str) = some .globalImplicit := rfl
theorem g__law_same_range : (defScope s__law_same).names.lookup ("range" : Str) = some .globalImplicit := rfl
theorem g__law_same_int : (defScope s__law_same).names.lookup ("int" : Str) = some .globalImplicit := rfl
theorem g__law_same_bool : (defScope s__law_same).names.lookup ("bool" : Str) = some .globalImplicit := rfl
def T__law_same (CS : Nat → Addr) : FT := fnT 5 (sCo (sIf (tOr (tNot (tV (eCB cIsi (aC (eV 0) (aC (eC (.ty "list")) (aN)))))) (tCmp oNe (eCB cLen (aC (eV 0) (aN))) (eCB cLen (aC (eV 1) (aN))))) (sRet (eC (.bl false))) (sNo)) (
  sCo (sFor (gName 2) (iR1 (eCB cLen (aC (eV 1) (aN)))) (sCo (sIf (tOr (tNot (tV (eCB cIsi (aC (eIx oIx (eV 0) (eV 2)) (aC (eC (.ty "list")) (aN)))))) (tCmp oNe (eCB cLen (aC (eIx oIx (eV 0) (eV 2)) (aN))) (eCB cLen (aC (eIx oIx (eV 1) (eV 2)) (aN))))) (sRet (eC (.bl false))) (sNo)) (
  sFor (gName 3) (iR1 (eCB cLen (aC (eIx oIx (eV 1) (eV 2)) (aN)))) (sCo (sSet 4 (eIx oIx (eIx oIx (eV 0) (eV 2)) (eV 3))) (
  sIf (tOr (tNot (tV (eCB cIsi (aC (eV 4) (aC (eC (.ty "int")) (aN)))))) (tOr (tV (eCB cIsi (aC (eV 4) (aC (eC (.ty "bool")) (aN))))) (tCmp oNe (eV 4) (eIx oIx (eIx oIx (eV 1) (eV 2)) (eV 3))))) (sRet (eC (.bl false))) (sNo)))))) (
  sRet (eC (.bl true)))))
theorem ok__law_same {f : Addr} {fd : FuncData} {CS : Nat → Addr} (F : Fun K "_law_same" "_law_same" s__law_same f fd) (T : Txt K mg CS) : FnOk P w K mg base (L2.CX P w) 1 f fd ["_law_actual", "_law_due"] (spX K 2 (T__law_same CS)) :=
  okX F sc__law_same rfl rfl (by decide) fun cdv A outer s H E hr =>
  cs_cons (c1_if (ct_pw (cpw_or (ct_not (ct_v (cm_callB cmc_isi bb_isinstance T.b_isinstance g__law_same_isinstance (ca_cons (cm_v (i := 0) rfl vs__law_same__law_actual nd__law_actual.1 nd__law_actual.2) (ca_cons (cm_ty bt_list T.b_list g__law_same_list nn_list nd_list.1) (ca_nil) rfl) rfl) nn_isinstance nd_isinstance.1 rfl rfl))) (cpw_or1 (ct_cmp (cmo_ne hr) (cm_callB cmc_len bb_len T.b_len g__law_same_len (ca_cons (cm_v (i := 0) rfl vs__law_same__law_actual nd__law_actual.1 nd__law_actual.2) (ca_nil) rfl) nn_len nd_len.1 rfl rfl) (cm_callB cmc_len bb_len T.b_len g__law_same_len (ca_cons (cm_v (i := 1) rfl vs__law_same__law_due nd__law_due.1 nd__law_due.2) (ca_nil) rfl) nn_len nd_len.1 rfl rfl) rfl)))) (cs_one (c1_ret (cm_bl))) (cs_nil))
  (cs_cons (c1_for (cg_name sc__law_same.nd rfl lo__law_same__law_k (.inl rfl)) (ci_range1 g__law_same_range T.b_range (cm_callB cmc_len bb_len T.b_len g__law_same_len (ca_cons (cm_v (i := 1) rfl vs__law_same__law_due nd__law_due.1 nd__law_due.2) (ca_nil) rfl) nn_len nd_len.1 rfl rfl) rfl) (cs_cons (c1_if (ct_pw (cpw_or (ct_not (ct_v (cm_callB cmc_isi bb_isinstance T.b_isinstance g__law_same_isinstance (ca_cons (cm_ix cmi_ix (cm_v (i := 0) rfl vs__law_same__law_actual nd__law_actual.1 nd__law_actual.2) (cm_v (i := 2) rfl vs__law_same__law_k nd__law_k.1 nd__law_k.2) (fun _ _ => rfl)) (ca_cons (cm_ty bt_list T.b_list g__law_same_list nn_list nd_list.1) (ca_nil) rfl) rfl) nn_isinstance nd_isinstance.1 rfl rfl))) (cpw_or1 (ct_cmp (cmo_ne hr) (cm_callB cmc_len bb_len T.b_len g__law_same_len (ca_cons (cm_ix cmi_ix (cm_v (i := 0) rfl vs__law_same__law_actual nd__law_actual.1 nd__law_actual.2) (cm_v (i := 2) rfl vs__law_same__law_k nd__law_k.1 nd__law_k.2) (fun _ _ => rfl)) (ca_nil) rfl) nn_len nd_len.1 rfl rfl) (cm_callB cmc_len bb_len T.b_len g__law_same_len (ca_cons (cm_ix cmi_ix (cm_v (i := 1) rfl vs__law_same__law_due nd__law_due.1 nd__law_due.2) (cm_v (i := 2) rfl vs__law_same__law_k nd__law_k.1 nd__law_k.2) (fun _ _ => rfl)) (ca_nil) rfl) nn_len nd_len.1 rfl rfl) rfl)))) (cs_one (c1_ret (cm_bl))) (cs_nil))
  (cs_one (c1_for (cg_name sc__law_same.nd rfl lo__law_same__law_j (.inl rfl)) (ci_range1 g__law_same_range T.b_range (cm_callB cmc_len bb_len T.b_len g__law_same_len (ca_cons (cm_ix cmi_ix (cm_v (i := 1) rfl vs__law_same__law_due nd__law_due.1 nd__law_due.2) (cm_v (i := 2) rfl vs__law_same__law_k nd__law_k.1 nd__law_k.2) (fun _ _ => rfl)) (ca_nil) rfl) nn_len nd_len.1 rfl rfl) rfl) (cs_cons (c1_set sc__law_same.nd rfl lo__law_same__law_item (cm_ix cmi_ix (cm_ix cmi_ix (cm_v (i := 0) rfl vs__law_same__law_actual nd__law_actual.1 nd__law_actual.2) (cm_v (i := 2) rfl vs__law_same__law_k nd__law_k.1 nd__law_k.2) (fun _ _ => rfl)) (cm_v (i := 3) rfl vs__law_same__law_j nd__law_j.1 nd__law_j.2) (fun _ _ => rfl)) rfl (.inl rfl))
  (cs_one (c1_if (ct_pw (cpw_or (ct_not (ct_v (cm_callB cmc_isi bb_isinstance T.b_isinstance g__law_same_isinstance (ca_cons (cm_v (i := 4) rfl vs__law_same__law_item nd__law_item.1 nd__law_item.2) (ca_cons (cm_ty bt_int T.b_int g__law_same_int nn_int nd_int.1) (ca_nil) rfl) rfl) nn_isinstance nd_isinstance.1 rfl rfl))) (cpw_or (ct_v (cm_callB cmc_isi bb_isinstance T.b_isinstance g__law_same_isinstance (ca_cons (cm_v (i := 4) rfl vs__law_same__law_item nd__law_item.1 nd__law_item.2) (ca_cons (cm_ty bt_bool T.b_bool g__law_same_bool nn_bool nd_bool.1) (ca_nil) rfl) rfl) nn_isinstance nd_isinstance.1 rfl rfl)) (cpw_or1 (ct_cmp (cmo_ne hr) (cm_v (i := 4) rfl vs__law_same__law_item nd__law_item.1 nd__law_item.2) (cm_ix cmi_ix (cm_ix cmi_ix (cm_v (i := 1) rfl vs__law_same__law_due nd__law_due.1 nd__law_due.2) (cm_v (i := 2) rfl vs__law_same__law_k nd__law_k.1 nd__law_k.2) (fun _ _ => rfl)) (cm_v (i := 3) rfl vs__law_same__law_j nd__law_j.1 nd__law_j.2) (fun _ _ => rfl)) rfl))))) (cs_one (c1_ret (cm_bl))) (cs_nil)))) rfl pass_cx (fun _ => rfl)))) rfl pass_cx (fun _ => rfl))
  (cs_one (c1_ret (cm_bl))))
abbrev s_law : Stmt := top 21
abbrev N_law : List Str := ["_law_script", "_law_state_here", "_law_program_here", "_law_before", "_law_rows", "_law_reach", "_law_users", "_law_k", "_law_first", "_law_second", "_law_row", "_law_at", "_law_task", "_law_item"]
theorem sc_law : FnScope N_law ["_law_script"] (defScope s_law) := ⟨rfl, rfl, rfl, by decide +kernel, rfl, by decide +kernel, by decide +kernel⟩
theorem lo_law__law_script : Loc (defScope s_law) "_law_script" := by first | exact .inl rfl | exact .inr rfl
theorem vs_law__law_script : Vis (defScope s_law) "_law_script" := lo_law__law_script.elim .inl fun z => .inr (.inl z)
theorem lo_law__law_state_here : Loc (defScope s_law) "_law_state_here" := by first | exact .inl rfl | exact .inr rfl
theorem vs_law__law_state_here : Vis (defScope s_law) "_law_state_here" := lo_law__law_state_here.elim .inl fun z => .inr (.inl z)
theorem lo_law__law_program_here : Loc (defScope s_law) "_law_program_here" := by first | exact .inl rfl | exact .inr rfl
theorem vs_law__law_program_here : Vis (defScope s_law) "_law_program_here" := lo_law__law_program_here.elim .inl fun z => .inr (.inl z)
theorem lo_law__law_before : Loc (defScope s_law) "_law_before" := by first | exact .inl rfl | exact .inr rfl
theorem vs_law__law_before : Vis (defScope s_law) "_law_before" := lo_law__law_before.elim .inl fun z => .inr (.inl z)
theorem lo_law__law_rows : Loc (defScope s_law) "_law_rows" := by first | exact .inl rfl | exact .inr rfl
theorem vs_law__law_rows : Vis (defScope s_law) "_law_rows" := lo_law__law_rows.elim .inl fun z => .inr (.inl z)
theorem lo_law__law_reach : Loc (defScope s_law) "_law_reach" := by first | exact .inl rfl | exact .inr rfl
theorem vs_law__law_reach : Vis (defScope s_law) "_law_reach" := lo_law__law_reach.elim .inl fun z => .inr (.inl z)
theorem lo_law__law_users : Loc (defScope s_law) "_law_users" := by first | exact .inl rfl | exact .inr rfl
theorem vs_law__law_users : Vis (defScope s_law) "_law_users" := lo_law__law_users.elim .inl fun z => .inr (.inl z)
theorem lo_law__law_k : Loc (defScope s_law) "_law_k" := by first | exact .inl rfl | exact .inr rfl
theorem vs_law__law_k : Vis (defScope s_law) "_law_k" := lo_law__law_k.elim .inl fun z => .inr (.inl z)
theorem lo_law__law_first : Loc (defScope s_law) "_law_first" := by first | exact .inl rfl | exact .inr rfl
theorem vs_law__law_first : Vis (defScope s_law) "_law_first" := lo_law__law_first.elim .inl fun z => .inr (.inl z)
theorem lo_law__law_second : Loc (defScope s_law) "_law_second" := by first | exact .inl rfl | exact .inr rfl
theorem vs_law__law_second : Vis (defScope s_law) "_law_second" := lo_law__law_second.elim .inl fun z => .inr (.inl z)
theorem lo_law__law_row : Loc (defScope s_law) "_law_row" := by first | exact .inl rfl | exact .inr rfl
theorem vs_law__law_row : Vis (defScope s_law) "_law_row" := lo_law__law_row.elim .inl fun z => .inr (.inl z)
theorem g_law__law_state : (defScope s_law).names.lookup ("_law_state" : Str) = some .globalImplicit := rfl
theorem g_law__law_program : (defScope s_law).names.lookup ("_law_program" : Str) = some .globalImplicit := rfl
theorem g_law_repr : (defScope s_law).names.lookup ("repr" : Str) = some .globalImplicit := rfl
theorem g_law_find : (defScope s_law).names.lookup ("find" : Str) = some .globalImplicit := rfl
theorem g_law_range : (defScope s_law).names.lookup ("range" : Str) = some .globalImplicit := rfl
theorem g_law_len : (defScope s_law).names.lookup ("len" : Str) = some .globalImplicit := rfl
theorem g_law_reached : (defScope s_law).names.lookup ("reached" : Str) = some .globalImplicit := rfl
theorem g_law_used : (defScope s_law).names.lookup ("used" : Str) = some .globalImplicit := rfl
theorem g_law__law_same : (defScope s_law).names.lookup ("_law_same" : Str) = some .globalImplicit := rfl
def T_law (CS : Nat → Addr) : FT := fnT 14 (sCo (sSet 1 (eCall (T__law_state CS) (aC (eV 0) (aN)))) (
  sCo (sSet 2 (eCall (T__law_program CS) (aC (eV 1) (aC (eC (.int 3)) (aC (eC (.int 3)) (aN)))))) (
  sCo (sSet 3 (eCB cRepr (aC (eV 2) (aN)))) (
  sCo (sFor (gName 4) (iSeq (eLst (aC (eIx oIx (eV 2) (eC (.int 2))) (aC (eIx oIx (eV 2) (eC (.int 3))) (aC (eIx oIx (eV 2) (eC (.int 4))) (aC (eIx oIx (eV 2) (eC (.int 5))) (aN))))))) (sIf (tOr (tCmp oNe (eLc false [10] (b1 10) (iSeq (eV 4)) (tYes) (eCall (T_find CS) (aC (eV 4) (aC (eIx oIx (eV 10) (eC (.int 1))) (aN))))) (eLc false [7] (b1 7) (iR1 (eCB cLen (aC (eV 4) (aN)))) (tYes) (eV 7))) (tCmp oNe (eCall (T_find CS) (aC (eV 4) (aC (eC (.str "nobody")) (aN)))) (eNeg (eC (.int 1))))) (sRet (eC (.bl false))) (sNo))) (
  sCo (sSet 5 (eLc false [11] (b1 11) (iR1 (eCB cLen (aC (eIx oIx (eV 2) (eC (.int 3))) (aN)))) (tYes) (eCall (T__law_grow CS) (aC (eV 2) (aC (eLstO (aC (eV 11) (aN))) (aN)))))) (
  sCo (sSet 6 (eLc false [12] (b1 12) (iSeq (eIx oIx (eV 2) (eC (.int 4)))) (tYes) (eCall (T__law_start CS) (aC (eV 2) (aC (eCall (T__law_names CS) (aC (eIx oIx (eV 12) (eC (.int 5))) (aN))) (aN)))))) (
  sCo (sSet 6 (eBin oAdd (eV 6) (eLc false [13] (b1 13) (iSeq (eIx oIx (eV 2) (eC (.int 5)))) (tYes) (eCall (T__law_start CS) (aC (eV 2) (aC (eLst (aC (eIx oIx (eV 13) (eC (.int 4))) (aN))) (aN))))))) (
  sCo (sFor (gName 7) (iR1 (eC (.int 2))) (sCo (sSet 8 (eCall (T_reached CS) (aC (eV 2) (aN)))) (
  sCo (sSet 9 (eCall (T_used CS) (aC (eV 2) (aN)))) (
  sCo (sIf (tOr (tNot (tV (eCall (T__law_same CS) (aC (eV 8) (aC (eV 5) (aN)))))) (tNot (tV (eCall (T__law_same CS) (aC (eV 9) (aC (eV 6) (aN))))))) (sRet (eC (.bl false))) (sNo)) (
  sFor (gName 10) (iSeq (eBin oAdd (eV 8) (eV 9))) (sExpr (eApp (eV 10) (eC (.int 9))))))))) (
  sRet (eBin oEq (eCB cRepr (aC (eV 2) (aN))) (eV 3)))))))))))
theorem ok_law {f : Addr} {fd : FuncData} {CS : Nat → Addr} (F : Fun K "law" "law" s_law f fd) (T : Txt K mg CS) (C__law_state : CalX P w K mg base 1 "_law_state" 1 (T__law_state CS)) (C__law_program : CalX P w K mg base 26 "_law_program" 3 (T__law_program CS)) (C__law_grow : CalX P w K mg base 12 "_law_grow" 2 (T__law_grow CS)) (C__law_start : CalX P w K mg base 13 "_law_start" 2 (T__law_start CS)) (C_reached : CalX P w K mg base 12 "reached" 1 (T_reached CS)) (C_used : CalX P w K mg base 13 "used" 1 (T_used CS)) (C__law_names : CalX P w K mg base 11 "_law_names" 1 (T__law_names CS)) (C_find : CalX P w K mg base 1 "find" 2 (T_find CS)) (C__law_same : CalX P w K mg base 1 "_law_same" 2 (T__law_same CS)) : FnAt P w K mg base 27 f fd ["_law_script"] (spX K 1 (T_law CS)) :=
  atX F sc_law rfl rfl (by decide) fun cdv s H hr =>
  cs_cons (c1_set sc_law.nd rfl lo_law__law_state_here (cm_call C__law_state (hr.mono (by decide)) g_law__law_state (ca_cons (cm_v (i := 0) rfl vs_law__law_script nd__law_script.1 nd__law_script.2) (ca_nil) rfl) nd__law_state.1 rfl rfl) rfl (.inl rfl))
  (cs_cons (c1_set sc_law.nd rfl lo_law__law_program_here (cm_call C__law_program (hr.mono (by decide)) g_law__law_program (ca_cons (cm_v (i := 1) rfl vs_law__law_state_here nd__law_state_here.1 nd__law_state_here.2) (ca_cons (cm_int) (ca_cons (cm_int) (ca_nil) rfl) rfl) rfl) nd__law_program.1 rfl rfl) rfl (.inl rfl))
  (cs_cons (c1_set sc_law.nd rfl lo_law__law_before (cm_callB (cmc_repr rfl hr) bb_repr T.b_repr g_law_repr (ca_cons (cm_v (i := 2) rfl vs_law__law_program_here nd__law_program_here.1 nd__law_program_here.2) (ca_nil) rfl) nn_repr nd_repr.1 rfl rfl) rfl (.inl rfl))
  (cs_cons (c1_for (cg_name sc_law.nd rfl lo_law__law_rows (.inl rfl)) (ci_seq (cm_lst (ca_cons (cm_ix cmi_ix (cm_v (i := 2) rfl vs_law__law_program_here nd__law_program_here.1 nd__law_program_here.2) (cm_int) (fun _ _ => rfl)) (ca_cons (cm_ix cmi_ix (cm_v (i := 2) rfl vs_law__law_program_here nd__law_program_here.1 nd__law_program_here.2) (cm_int) (fun _ _ => rfl)) (ca_cons (cm_ix cmi_ix (cm_v (i := 2) rfl vs_law__law_program_here nd__law_program_here.1 nd__law_program_here.2) (cm_int) (fun _ _ => rfl)) (ca_cons (cm_ix cmi_ix (cm_v (i := 2) rfl vs_law__law_program_here nd__law_program_here.1 nd__law_program_here.2) (cm_int) (fun _ _ => rfl)) (ca_nil) rfl) rfl) rfl) rfl) (by decide))) (cs_one (c1_if (ct_pw (cpw_or (ct_cmp (cmo_ne hr) (cm_lc (own := [("_law_row", 10)]) rfl sc_law.nd (blkOk_by (N := N_law) (sc := defScope s_law) (by decide +kernel)) (bind1 (by decide)) (fun _ _ _ _ _ => L2.pg_name sc_law.nd (i := 10) rfl (.inl rfl) (.inr rfl)) (ci_seq (cm_v (i := 4) rfl vs_law__law_rows nd__law_rows.1 nd__law_rows.2)) (fun _ _ _ _ _ => cts_nil) (fun _ _ _ _ _ => cm_call C_find (hr.mono (by decide)) rfl (ca_cons (cm_v (i := 4) rfl (by first | exact Or.inl rfl | exact Or.inr (Or.inl rfl) | exact Or.inr (Or.inr rfl)) nd__law_rows.1 nd__law_rows.2) (ca_cons (cm_ix cmi_ix (cm_v (i := 10) rfl (by first | exact Or.inl rfl | exact Or.inr (Or.inl rfl) | exact Or.inr (Or.inr rfl)) nd__law_row.1 nd__law_row.2) (cm_int) (fun _ _ => rfl)) (ca_nil) rfl) rfl) nd_find.1 rfl rfl) (fun _ => rfl)) (cm_lc (own := [("_law_k", 7)]) rfl sc_law.nd (blkOk_by (N := N_law) (sc := defScope s_law) (by decide +kernel)) (bind1 (by decide)) (fun _ _ _ _ _ => L2.pg_name sc_law.nd (i := 7) rfl (.inl rfl) (.inr rfl)) (ci_range1 g_law_range T.b_range (cm_callB cmc_len bb_len T.b_len g_law_len (ca_cons (cm_v (i := 4) rfl vs_law__law_rows nd__law_rows.1 nd__law_rows.2) (ca_nil) rfl) nn_len nd_len.1 rfl rfl) rfl) (fun _ _ _ _ _ => cts_nil) (fun _ _ _ _ _ => cm_v (i := 7) rfl (by first | exact Or.inl rfl | exact Or.inr (Or.inl rfl) | exact Or.inr (Or.inr rfl)) nd__law_k.1 nd__law_k.2) (fun _ => rfl)) rfl) (cpw_or1 (ct_cmp (cmo_ne hr) (cm_call C_find (hr.mono (by decide)) g_law_find (ca_cons (cm_v (i := 4) rfl vs_law__law_rows nd__law_rows.1 nd__law_rows.2) (ca_cons (cm_str) (ca_nil) rfl) rfl) nd_find.1 rfl rfl) (cm_neg (cm_int)) rfl)))) (cs_one (c1_ret (cm_bl))) (cs_nil))) rfl pass_cx (fun _ => rfl))
  (cs_cons ((by first | exact c1_setLc (iy := 5) (own := [("_law_at", 11)]) rfl sc_law.nd (blkOk_by (N := N_law) (sc := defScope s_law) (by decide +kernel)) (bind1 (by decide)) (fun _ _ _ _ _ => L2.pg_name sc_law.nd (i := 11) rfl (.inl rfl) (.inr rfl)) (ci_range1 g_law_range T.b_range (cm_callB cmc_len bb_len T.b_len g_law_len (ca_cons (cm_ix cmi_ix (cm_v (i := 2) rfl vs_law__law_program_here nd__law_program_here.1 nd__law_program_here.2) (cm_int) (fun _ _ => rfl)) (ca_nil) rfl) nn_len nd_len.1 rfl rfl) rfl) (fun _ _ _ _ _ => cts_nil) (fun _ _ _ _ _ => cm_call C__law_grow (hr.mono (by decide)) rfl (ca_cons (cm_v (i := 2) rfl (by first | exact Or.inl rfl | exact Or.inr (Or.inl rfl) | exact Or.inr (Or.inr rfl)) nd__law_program_here.1 nd__law_program_here.2) (ca_cons (cm_lstO (ca_cons (cm_v (i := 11) rfl (by first | exact Or.inl rfl | exact Or.inr (Or.inl rfl) | exact Or.inr (Or.inr rfl)) nd__law_at.1 nd__law_at.2) (ca_nil) rfl) (by decide)) (ca_nil) rfl) rfl) nd__law_grow.1 rfl rfl) rfl rfl (sw_true rfl rfl rfl (by decide +kernel)) (fun _ => rfl) | exact c1_set (i := 5) sc_law.nd rfl lo_law__law_reach (cm_lc (own := [("_law_at", 11)]) rfl sc_law.nd (blkOk_by (N := N_law) (sc := defScope s_law) (by decide +kernel)) (bind1 (by decide)) (fun _ _ _ _ _ => L2.pg_name sc_law.nd (i := 11) rfl (.inl rfl) (.inr rfl)) (ci_range1 g_law_range T.b_range (cm_callB cmc_len bb_len T.b_len g_law_len (ca_cons (cm_ix cmi_ix (cm_v (i := 2) rfl vs_law__law_program_here nd__law_program_here.1 nd__law_program_here.2) (cm_int) (fun _ _ => rfl)) (ca_nil) rfl) nn_len nd_len.1 rfl rfl) rfl) (fun _ _ _ _ _ => cts_nil) (fun _ _ _ _ _ => cm_call C__law_grow (hr.mono (by decide)) rfl (ca_cons (cm_v (i := 2) rfl (by first | exact Or.inl rfl | exact Or.inr (Or.inl rfl) | exact Or.inr (Or.inr rfl)) nd__law_program_here.1 nd__law_program_here.2) (ca_cons (cm_lstO (ca_cons (cm_v (i := 11) rfl (by first | exact Or.inl rfl | exact Or.inr (Or.inl rfl) | exact Or.inr (Or.inr rfl)) nd__law_at.1 nd__law_at.2) (ca_nil) rfl) (by decide)) (ca_nil) rfl) rfl) nd__law_grow.1 rfl rfl) (fun _ => rfl)) rfl (.inl rfl)))
  (cs_cons ((by first | exact c1_setLc (iy := 6) (own := [("_law_task", 12)]) rfl sc_law.nd (blkOk_by (N := N_law) (sc := defScope s_law) (by decide +kernel)) (bind1 (by decide)) (fun _ _ _ _ _ => L2.pg_name sc_law.nd (i := 12) rfl (.inl rfl) (.inr rfl)) (ci_seq (cm_ix cmi_ix (cm_v (i := 2) rfl vs_law__law_program_here nd__law_program_here.1 nd__law_program_here.2) (cm_int) (fun _ _ => rfl))) (fun _ _ _ _ _ => cts_nil) (fun _ _ _ _ _ => cm_call C__law_start (hr.mono (by decide)) rfl (ca_cons (cm_v (i := 2) rfl (by first | exact Or.inl rfl | exact Or.inr (Or.inl rfl) | exact Or.inr (Or.inr rfl)) nd__law_program_here.1 nd__law_program_here.2) (ca_cons (cm_call C__law_names (hr.mono (by decide)) rfl (ca_cons (cm_ix cmi_ix (cm_v (i := 12) rfl (by first | exact Or.inl rfl | exact Or.inr (Or.inl rfl) | exact Or.inr (Or.inr rfl)) nd__law_task.1 nd__law_task.2) (cm_int) (fun _ _ => rfl)) (ca_nil) rfl) nd__law_names.1 rfl rfl) (ca_nil) rfl) rfl) nd__law_start.1 rfl rfl) rfl rfl (sw_true rfl rfl rfl (by decide +kernel)) (fun _ => rfl) | exact c1_set (i := 6) sc_law.nd rfl lo_law__law_users (cm_lc (own := [("_law_task", 12)]) rfl sc_law.nd (blkOk_by (N := N_law) (sc := defScope s_law) (by decide +kernel)) (bind1 (by decide)) (fun _ _ _ _ _ => L2.pg_name sc_law.nd (i := 12) rfl (.inl rfl) (.inr rfl)) (ci_seq (cm_ix cmi_ix (cm_v (i := 2) rfl vs_law__law_program_here nd__law_program_here.1 nd__law_program_here.2) (cm_int) (fun _ _ => rfl))) (fun _ _ _ _ _ => cts_nil) (fun _ _ _ _ _ => cm_call C__law_start (hr.mono (by decide)) rfl (ca_cons (cm_v (i := 2) rfl (by first | exact Or.inl rfl | exact Or.inr (Or.inl rfl) | exact Or.inr (Or.inr rfl)) nd__law_program_here.1 nd__law_program_here.2) (ca_cons (cm_call C__law_names (hr.mono (by decide)) rfl (ca_cons (cm_ix cmi_ix (cm_v (i := 12) rfl (by first | exact Or.inl rfl | exact Or.inr (Or.inl rfl) | exact Or.inr (Or.inr rfl)) nd__law_task.1 nd__law_task.2) (cm_int) (fun _ _ => rfl)) (ca_nil) rfl) nd__law_names.1 rfl rfl) (ca_nil) rfl) rfl) nd__law_start.1 rfl rfl) (fun _ => rfl)) rfl (.inl rfl)))
  (cs_cons (c1_set sc_law.nd rfl lo_law__law_users (cm_bin cmo_add (cm_v (i := 6) rfl vs_law__law_users nd__law_users.1 nd__law_users.2) (cm_lc (own := [("_law_item", 13)]) rfl sc_law.nd (blkOk_by (N := N_law) (sc := defScope s_law) (by decide +kernel)) (bind1 (by decide)) (fun _ _ _ _ _ => L2.pg_name sc_law.nd (i := 13) rfl (.inl rfl) (.inr rfl)) (ci_seq (cm_ix cmi_ix (cm_v (i := 2) rfl vs_law__law_program_here nd__law_program_here.1 nd__law_program_here.2) (cm_int) (fun _ _ => rfl))) (fun _ _ _ _ _ => cts_nil) (fun _ _ _ _ _ => cm_call C__law_start (hr.mono (by decide)) rfl (ca_cons (cm_v (i := 2) rfl (by first | exact Or.inl rfl | exact Or.inr (Or.inl rfl) | exact Or.inr (Or.inr rfl)) nd__law_program_here.1 nd__law_program_here.2) (ca_cons (cm_lst (ca_cons (cm_ix cmi_ix (cm_v (i := 13) rfl (by first | exact Or.inl rfl | exact Or.inr (Or.inl rfl) | exact Or.inr (Or.inr rfl)) nd__law_item.1 nd__law_item.2) (cm_int) (fun _ _ => rfl)) (ca_nil) rfl) (by decide)) (ca_nil) rfl) rfl) nd__law_start.1 rfl rfl) (fun _ => rfl))) rfl (.inl rfl))
  (cs_cons (c1_for (cg_name sc_law.nd rfl lo_law__law_k (.inl rfl)) (ci_range1 g_law_range T.b_range (cm_int) rfl) (cs_cons (c1_set sc_law.nd rfl lo_law__law_first (cm_call C_reached (hr.mono (by decide)) g_law_reached (ca_cons (cm_v (i := 2) rfl vs_law__law_program_here nd__law_program_here.1 nd__law_program_here.2) (ca_nil) rfl) nd_reached.1 rfl rfl) rfl (.inl rfl))
  (cs_cons (c1_set sc_law.nd rfl lo_law__law_second (cm_call C_used (hr.mono (by decide)) g_law_used (ca_cons (cm_v (i := 2) rfl vs_law__law_program_here nd__law_program_here.1 nd__law_program_here.2) (ca_nil) rfl) nd_used.1 rfl rfl) rfl (.inl rfl))
  (cs_cons (c1_if (ct_pw (cpw_or (ct_not (ct_v (cm_call C__law_same (hr.mono (by decide)) g_law__law_same (ca_cons (cm_v (i := 8) rfl vs_law__law_first nd__law_first.1 nd__law_first.2) (ca_cons (cm_v (i := 5) rfl vs_law__law_reach nd__law_reach.1 nd__law_reach.2) (ca_nil) rfl) rfl) nd__law_same.1 rfl rfl))) (cpw_or1 (ct_not (ct_v (cm_call C__law_same (hr.mono (by decide)) g_law__law_same (ca_cons (cm_v (i := 9) rfl vs_law__law_second nd__law_second.1 nd__law_second.2) (ca_cons (cm_v (i := 6) rfl vs_law__law_users nd__law_users.1 nd__law_users.2) (ca_nil) rfl) rfl) nd__law_same.1 rfl rfl)))))) (cs_one (c1_ret (cm_bl))) (cs_nil))
  (cs_one (c1_for (cg_name sc_law.nd rfl lo_law__law_row (.inl rfl)) (ci_seq (cm_bin cmo_add (cm_v (i := 8) rfl vs_law__law_first nd__law_first.1 nd__law_first.2) (cm_v (i := 9) rfl vs_law__law_second nd__law_second.1 nd__law_second.2))) (cs_one (c1_expr (cm_app (cm_v (i := 10) rfl vs_law__law_row nd__law_row.1 nd__law_row.2) (cm_int) rfl rfl rfl rfl) rfl)) rfl pass_cx (fun _ => rfl)))))) rfl pass_cx (fun _ => rfl))
  (cs_one (c1_ret (cm_cmp (cmo_eq hr) (cm_callB (cmc_repr rfl hr) bb_repr T.b_repr g_law_repr (ca_cons (cm_v (i := 2) rfl vs_law__law_program_here nd__law_program_here.1 nd__law_program_here.2) (ca_nil) rfl) nn_repr nd_repr.1 rfl rfl) (cm_v (i := 3) rfl vs_law__law_before nd__law_before.1 nd__law_before.2) rfl))))))))))
end
/-! reading: one step at a time -/
local macro_rules | `(tactic| walk_at "at") => `(tactic| first
  | (with_reducible assumption)
  | assumption
  | (with_reducible exact atI_last)
  | (with_reducible exact atI_lastM)
  | (with_reducible exact ixN_lastM)
  | exact rfl
  | exact atI_c0
  | exact atI_c1
  | exact atI_c2
  | exact atI_c3
  | ((refine' atI_mapN ?h0 ?h1); (case h1 => assumption); (case h0 => omega))
  | ((refine atI_ints ?_ ?_) <;> first | omega | ((try simp only [List.length_map, List.length_append, List.length_cons, List.length_nil] at *); omega))
  | ((refine ixN_some ?_ ?_) <;> first | omega | ((try simp only [List.length_map, List.length_append, List.length_cons, List.length_nil] at *); omega)))
local macro_rules | `(tactic| walk_at "pos") => `(tactic| first
  | assumption
  | ((refine' app_at (A := [_]) ?hh); (case hh => assumption))
  | ((refine' app_at (A := [_, _]) ?hh); (case hh => assumption))
  | ((refine' app_at (A := [_, _, _]) ?hh); (case hh => assumption))
  | ((refine' app_at (A := [_, _, _, _]) ?hh); (case hh => assumption))
  | ((refine' app_at (A := [_, _, _, _, _]) ?hh); (case hh => assumption))
  | ((refine' app_at (A := [_, _, _, _, _, _]) ?hh); (case hh => assumption)))
local macro_rules | `(tactic| walk_at "side") => `(tactic| first
  | (with_reducible assumption)
  | (with_reducible exact rfl)
  | ((with_reducible show EV.MulOk _ _); first | exact Or.inl ⟨by omega, by omega⟩ | exact Or.inr (Or.inl ⟨by omega, by omega⟩))
  | ((with_reducible show EV.DivOk _ _); exact ⟨by omega, by omega⟩)
  | ((with_reducible show EV.ModOk _ _); (show (0 : Int) < _); omega)
  | ((with_reducible show EV.PowOk _ _); exact ⟨by omega, by omega, by omega, by omega⟩)
  | ((with_reducible show EV.ShrOk _ _); (show (0 : Int) ≤ _); omega)
  | ((with_reducible show _ ≤ sizeLine); refine szI ?_; first | omega | ((try simp only [List.length_map, List.length_append, List.length_cons, List.length_nil, List.length_replicate, List.length_set, List.length_take, List.length_eraseIdx, rng_len, enumW_len] at *); omega))
  | ((with_reducible show _ < sizeLine); refine szJ ?_; first | omega | ((try simp only [List.length_map, List.length_append, List.length_cons, List.length_nil, List.length_replicate, List.length_set, List.length_take, List.length_eraseIdx, rng_len, enumW_len] at *); omega))
  | omega
  | ((try simp only [List.length_map, List.length_append, List.length_cons, List.length_nil, List.length_replicate, List.length_set, rng_len] at *); omega)
  | exact rfl
  | decide)
local macro_rules | `(tactic| walk_at "perm") => `(tactic| (classical
    rw [List.perm_iff_count]
    intro _
    simp only [List.count_append, List.count_cons, List.count_nil, List.append_assoc, List.cons_append, List.nil_append, Nat.zero_add, Nat.add_zero]
    ac_rfl))
local macro_rules | `(tactic| walk_at "no") => `(tactic| first | (exfalso; omega) | contradiction)
local macro_rules | `(tactic| walk_at "hook") => `(tactic| fail "no hook")
local macro_rules | `(tactic| walk_at "hp") => `(tactic| first
  | (with_reducible exact rfl)
  | decide
  | omega
  | ((simp only [List.length_map, List.length_append, List.length_cons, List.length_nil]); omega)
  | exact Bool.false_ne_true
  | exact Bool.false_ne_true.symm)
local macro_rules | `(tactic| walk_at "br") => `(tactic| first
  | ((with_reducible refine brT ?k); (case' k => walk_at "go"))
  | ((with_reducible refine brF ?k); (case' k => walk_at "go"))
  | ((with_reducible refine brDT ?hp ?k); (case hp => walk_at "hp"); (case' k => walk_at "go"))
  | ((with_reducible refine brDF ?hp ?k); (case hp => walk_at "hp"); (case' k => walk_at "go"))
  | ((with_reducible refine brDNT ?hp ?k); (case hp => walk_at "hp"); (case' k => walk_at "go"))
  | ((with_reducible refine brDNF ?hp ?k); (case hp => walk_at "hp"); (case' k => walk_at "go"))
  | ((with_reducible refine brD (fun hb => ?_) (fun hb => ?_)) <;> ((try simp only [List.length_map, List.length_append, List.length_cons, List.length_nil, not_true_eq_false] at hb) <;> walk_at "go"))
  | ((with_reducible refine brDN (fun hb => ?_) (fun hb => ?_)) <;> ((try simp only [List.length_map, List.length_append, List.length_cons, List.length_nil, not_true_eq_false] at hb) <;> walk_at "go"))
  | ((with_reducible refine orT ?k); (case' k => walk_at "go"))
  | ((with_reducible refine orF ?k); (case' k => walk_at "go"))
  | ((with_reducible refine orDT ?hp ?k); (case hp => walk_at "hp"); (case' k => walk_at "go"))
  | ((with_reducible refine orDF ?hp ?k); (case hp => walk_at "hp"); (case' k => walk_at "go"))
  | ((with_reducible refine orD (fun hb => ?_) (fun hb => ?_)) <;> ((try simp only [List.length_map, List.length_append, List.length_cons, List.length_nil, not_true_eq_false] at hb) <;> walk_at "go"))
  | ((with_reducible refine orDN (fun hb => ?_) (fun hb => ?_)) <;> ((try simp only [List.length_map, List.length_append, List.length_cons, List.length_nil, not_true_eq_false] at hb) <;> walk_at "go"))
  | ((refine brT ?k); (case' k => walk_at "go"))
  | ((refine brF ?k); (case' k => walk_at "go"))
  | ((refine orT ?k); (case' k => walk_at "go"))
  | ((refine orF ?k); (case' k => walk_at "go"))
  | ((with_reducible refine brN2 (fun hb => ?_) (fun hb => ?_)) <;> ((try simp only [List.length_map, List.length_append, List.length_cons, List.length_nil, not_true_eq_false] at hb) <;> walk_at "go"))
  | ((with_reducible refine br2 (fun hb => ?_) (fun hb => ?_)) <;> ((try simp only [List.length_map, List.length_append, List.length_cons, List.length_nil, not_true_eq_false] at hb) <;> walk_at "go"))
  | ((with_reducible refine orN2 (fun hb => ?_) (fun hb => ?_)) <;> ((try simp only [List.length_map, List.length_append, List.length_cons, List.length_nil, not_true_eq_false] at hb) <;> walk_at "go"))
  | ((with_reducible refine or2 (fun hb => ?_) (fun hb => ?_)) <;> ((try simp only [List.length_map, List.length_append, List.length_cons, List.length_nil, not_true_eq_false] at hb) <;> walk_at "go")))
local macro_rules | `(tactic| walk_at "ix") => `(tactic| first
  | ((with_reducible refine ⟨_, atI_last, ?k⟩); (case' k => walk_at "go"))
  | ((with_reducible refine ⟨_, atI_lastM, ?k⟩); (case' k => walk_at "go"))
  | ((with_reducible refine ⟨_, ixN_lastM, ?k⟩); (case' k => walk_at "go"))
  | ((refine' ⟨_, ?ix, ?k⟩); (case ix => walk_at "at"); (case' k => walk_at "go")))
local macro_rules | `(tactic| walk_at "ex3") => `(tactic| first
  | ((refine ex3 ⟨0, _, rfl, ?k⟩); (case' k => walk_at "ix"))
  | ((refine ex3 ⟨1, _, rfl, ?k⟩); (case' k => walk_at "ix"))
  | ((refine ex3 ⟨2, _, rfl, ?k⟩); (case' k => walk_at "ix"))
  | ((refine ex3 ⟨3, _, rfl, ?k⟩); (case' k => walk_at "ix"))
  | ((refine ex3 ⟨4, _, rfl, ?k⟩); (case' k => walk_at "ix"))
  | ((refine ex3 ⟨5, _, rfl, ?k⟩); (case' k => walk_at "ix"))
  | ((refine ex3 ⟨6, _, rfl, ?k⟩); (case' k => walk_at "ix"))
  | ((refine ex3 ⟨7, _, rfl, ?k⟩); (case' k => walk_at "ix"))
  | ((refine ex3 ⟨8, _, rfl, ?k⟩); (case' k => walk_at "ix"))
  | ((refine' ex3 ⟨(_ : Nat), _, ?pos, ?k⟩); (case pos => walk_at "pos"); (case' k => walk_at "ix")))
local macro_rules | `(tactic| walk_at "ex") => `(tactic| first
  | ((with_reducible show ∃ _, ∃ _, ∃ _, (_ = some _) ∧ (_ = some _) ∧ _); walk_at "ex3")
  | ((refine ⟨0, _, _, _, rfl, .head _, rfl, ?k⟩); (case' k => walk_at "go"))
  | ((refine ⟨1, _, _, _, rfl, .head _, rfl, ?k⟩); (case' k => walk_at "go"))
  | ((refine ⟨2, _, _, _, rfl, .head _, rfl, ?k⟩); (case' k => walk_at "go"))
  | ((refine ⟨3, _, _, _, rfl, .head _, rfl, ?k⟩); (case' k => walk_at "go"))
  | ((refine ⟨4, _, _, _, rfl, .head _, rfl, ?k⟩); (case' k => walk_at "go"))
  | ((refine ⟨5, _, _, _, rfl, .head _, rfl, ?k⟩); (case' k => walk_at "go"))
  | ((refine ⟨0, _, _, rfl, .head _, ?side, ?k⟩); (case side => exact Nat.le_of_ble_eq_true rfl); (case' k => walk_at "go"))
  | ((refine ⟨1, _, _, rfl, .head _, ?side, ?k⟩); (case side => exact Nat.le_of_ble_eq_true rfl); (case' k => walk_at "go"))
  | ((refine ⟨2, _, _, rfl, .head _, ?side, ?k⟩); (case side => exact Nat.le_of_ble_eq_true rfl); (case' k => walk_at "go"))
  | ((refine ⟨3, _, _, rfl, .head _, ?side, ?k⟩); (case side => exact Nat.le_of_ble_eq_true rfl); (case' k => walk_at "go"))
  | ((refine ⟨⟨0, _, rfl, rfl⟩, ?k⟩); (case' k => walk_at "go"))
  | ((refine ⟨⟨1, _, rfl, rfl⟩, ?k⟩); (case' k => walk_at "go"))
  | ((refine ⟨⟨2, _, rfl, rfl⟩, ?k⟩); (case' k => walk_at "go"))
  | ((refine ⟨⟨3, _, rfl, rfl⟩, ?k⟩); (case' k => walk_at "go"))
  | ((refine ⟨⟨4, _, rfl, rfl⟩, ?k⟩); (case' k => walk_at "go"))
  | ((refine ⟨⟨5, _, rfl, rfl⟩, ?k⟩); (case' k => walk_at "go"))
  | ((refine ⟨⟨6, _, rfl, rfl⟩, ?k⟩); (case' k => walk_at "go"))
  | ((refine ⟨⟨7, _, rfl, rfl⟩, ?k⟩); (case' k => walk_at "go"))
  | ((refine' And.intro (exO ?pos ?lk) ?k); (case pos => walk_at "pos"); (case lk => exact rfl); (case' k => walk_at "go"))
  | ((refine ⟨⟨0, _, rfl⟩, ?k⟩); (case' k => walk_at "go"))
  | ((refine ⟨⟨1, _, rfl⟩, ?k⟩); (case' k => walk_at "go"))
  | ((refine ⟨⟨2, _, rfl⟩, ?k⟩); (case' k => walk_at "go"))
  | ((refine ⟨⟨3, _, rfl⟩, ?k⟩); (case' k => walk_at "go"))
  | ((refine ⟨⟨4, _, rfl⟩, ?k⟩); (case' k => walk_at "go"))
  | ((refine ⟨⟨5, _, rfl⟩, ?k⟩); (case' k => walk_at "go"))
  | ((refine ⟨⟨6, _, rfl⟩, ?k⟩); (case' k => walk_at "go"))
  | ((refine ⟨⟨7, _, rfl⟩, ?k⟩); (case' k => walk_at "go"))
  | ((refine' ⟨0, _, rfl, _, ?ix, ?k⟩); (case ix => first | exact kit_list_list | exact kit_list_bool | exact kit_list_int); (case' k => walk_at "go"))
  | ((refine' ⟨1, _, rfl, _, ?ix, ?k⟩); (case ix => first | exact kit_list_list | exact kit_list_bool | exact kit_list_int); (case' k => walk_at "go"))
  | ((refine' ⟨2, _, rfl, _, ?ix, ?k⟩); (case ix => first | exact kit_list_list | exact kit_list_bool | exact kit_list_int); (case' k => walk_at "go"))
  | ((refine' ⟨3, _, rfl, _, ?ix, ?k⟩); (case ix => first | exact kit_list_list | exact kit_list_bool | exact kit_list_int); (case' k => walk_at "go"))
  | ((refine' ⟨4, _, rfl, _, ?ix, ?k⟩); (case ix => first | exact kit_list_list | exact kit_list_bool | exact kit_list_int); (case' k => walk_at "go"))
  | ((refine' ⟨5, _, rfl, _, ?ix, ?k⟩); (case ix => first | exact kit_list_list | exact kit_list_bool | exact kit_list_int); (case' k => walk_at "go"))
  | ((refine' ⟨6, _, rfl, _, ?ix, ?k⟩); (case ix => first | exact kit_list_list | exact kit_list_bool | exact kit_list_int); (case' k => walk_at "go"))
  | ((refine' ⟨7, _, rfl, _, ?ix, ?k⟩); (case ix => first | exact kit_list_list | exact kit_list_bool | exact kit_list_int); (case' k => walk_at "go"))
  | ((refine ⟨0, _, rfl, And.intro ?side ?k⟩); (case side => walk_at "side"); (case' k => walk_at "go"))
  | ((refine ⟨1, _, rfl, And.intro ?side ?k⟩); (case side => walk_at "side"); (case' k => walk_at "go"))
  | ((refine ⟨2, _, rfl, And.intro ?side ?k⟩); (case side => walk_at "side"); (case' k => walk_at "go"))
  | ((refine ⟨3, _, rfl, And.intro ?side ?k⟩); (case side => walk_at "side"); (case' k => walk_at "go"))
  | ((refine ⟨4, _, rfl, And.intro ?side ?k⟩); (case side => walk_at "side"); (case' k => walk_at "go"))
  | ((refine ⟨5, _, rfl, And.intro ?side ?k⟩); (case side => walk_at "side"); (case' k => walk_at "go"))
  | ((refine ⟨6, _, rfl, And.intro ?side ?k⟩); (case side => walk_at "side"); (case' k => walk_at "go"))
  | ((refine ⟨7, _, rfl, And.intro ?side ?k⟩); (case side => walk_at "side"); (case' k => walk_at "go"))
  | ((refine ⟨0, _, rfl, ?k⟩); (case' k => walk_at "go"))
  | ((refine ⟨1, _, rfl, ?k⟩); (case' k => walk_at "go"))
  | ((refine ⟨2, _, rfl, ?k⟩); (case' k => walk_at "go"))
  | ((refine ⟨3, _, rfl, ?k⟩); (case' k => walk_at "go"))
  | ((refine ⟨4, _, rfl, ?k⟩); (case' k => walk_at "go"))
  | ((refine ⟨5, _, rfl, ?k⟩); (case' k => walk_at "go"))
  | ((refine ⟨6, _, rfl, ?k⟩); (case' k => walk_at "go"))
  | ((refine ⟨7, _, rfl, ?k⟩); (case' k => walk_at "go"))
  | ((with_reducible show Exists fun _ => (_ = some _) ∧ _); (refine' ⟨_, ?ix, ?k⟩); (case ix => first | exact kit_NoneType_bool | exact kit_NoneType_int | exact kit_NoneType_list | exact kit_bool_bool | exact kit_bool_int | exact kit_bool_list | exact kit_int_bool | exact kit_int_int | exact kit_int_str | exact kit_int_tuple | exact kit_int_list | exact kit_str_bool | exact kit_str_int | exact kit_str_str | exact kit_str_list | exact kit_tuple_bool | exact kit_tuple_int | exact kit_tuple_tuple | exact kit_tuple_list | exact kit_list_bool | exact kit_list_int | exact kit_list_list); (case' k => walk_at "go"))
  | ((refine ⟨_, RgC.neg ?s1 ?s2 ?s3 ?s4, ?k⟩); (case s1 => omega); (case s2 => omega); (case s3 => omega); (case s4 => omega); (case' k => walk_at "go"))
  | ((with_reducible show Exists fun _ => (_ = some _) ∧ _); (refine' ⟨_, ?ix, ?k⟩); (case ix => walk_at "at"); (case' k => walk_at "go"))
  | ((refine ⟨rfl, _, rfl, ?sc, ?k⟩); (case sc => first | exact rfl | exact scal_ints _); (case' k => walk_at "go"))
  | ((refine ⟨rfl, _, ⟨0, rfl⟩, ?sc, ?k⟩); (case sc => first | exact rfl | exact scal_ints _); (case' k => walk_at "go"))
  | ((refine ⟨rfl, _, ⟨1, rfl⟩, ?sc, ?k⟩); (case sc => first | exact rfl | exact scal_ints _); (case' k => walk_at "go"))
  | ((refine ⟨rfl, _, ⟨2, rfl⟩, ?sc, ?k⟩); (case sc => first | exact rfl | exact scal_ints _); (case' k => walk_at "go"))
  | ((refine' ⟨0, _, 0, _, rfl, by decide, by decide, ?sx, ?zx, ?k⟩); (case zx => exact rfl); (case sx => refine sx0 ?_; (try simp only [List.length_map, List.length_cons]); omega); (case' k => walk_at "go"))
  | ((refine' ⟨1, _, 0, _, rfl, by decide, by decide, ?sx, ?zx, ?k⟩); (case zx => exact rfl); (case sx => refine sx0 ?_; (try simp only [List.length_map, List.length_cons]); omega); (case' k => walk_at "go"))
  | ((refine' ⟨(_ : Nat), _, 0, _, ?pos, by decide, by decide, ?sx, ?zx, ?k⟩); (case pos => walk_at "pos"); (case zx => exact rfl); (case sx => refine sx0 ?_; (try simp only [List.length_map, List.length_cons]); omega); (case' k => walk_at "go"))
  | ((with_reducible show ∃ _ : Nat, ∃ _ : List D, ∃ _, (_ = some (_, OO.lst _)) ∧ (_ = some _) ∧ _); (refine' ⟨(_ : Nat), _, _, ?pos, ?ix, ?k⟩); (case pos => walk_at "pos"); (case ix => walk_at "at"); (case' k => walk_at "go"))
  | ((refine' ⟨⟨(_ : Nat), _, ?pos⟩, ?k⟩); (case pos => walk_at "pos"); (case' k => walk_at "go"))
  | ((refine ⟨_, ⟨0, rfl⟩, ?k⟩); (case' k => walk_at "go"))
  | ((refine ⟨_, ⟨1, rfl⟩, ?k⟩); (case' k => walk_at "go"))
  | ((refine ⟨_, ⟨2, rfl⟩, ?k⟩); (case' k => walk_at "go"))
  | ((refine ⟨_, ⟨3, rfl⟩, ?k⟩); (case' k => walk_at "go"))
  | ((refine ⟨_, ⟨4, rfl⟩, ?k⟩); (case' k => walk_at "go"))
  | ((refine ⟨_, ⟨5, rfl⟩, ?k⟩); (case' k => walk_at "go"))
  | ((refine ⟨_, ⟨6, rfl⟩, ?k⟩); (case' k => walk_at "go"))
  | ((refine ⟨_, ⟨7, rfl⟩, ?k⟩); (case' k => walk_at "go"))
  | ((refine' ⟨_, ⟨(_ : Nat), ?pos⟩, ?k⟩); (case pos => walk_at "pos"); (case' k => walk_at "go"))
  | ((refine' ⟨rfl, _, ⟨(_ : Nat), ?pos⟩, ?sc, ?k⟩); (case pos => walk_at "pos"); (case sc => exact scal_ints _); (case' k => walk_at "go"))
  | ((refine' ⟨(_ : Nat), _, ?pos, And.intro ?side ?k⟩); (case pos => walk_at "pos"); (case side => walk_at "side"); (case' k => walk_at "go"))
  | ((refine' ⟨(_ : Nat), _, ?pos, ?k⟩); (case pos => walk_at "pos"); (case' k => walk_at "go")))
local macro_rules | `(tactic| walk_at "s1") => `(tactic| first
  | walk_at "br"
  | ((with_reducible show EV.MulOk _ _ ∧ _); (refine And.intro ?side ?k); (try (case side => walk_at "side")); (case' k => walk_at "go"))
  | ((with_reducible show EV.DivOk _ _ ∧ _); (refine And.intro ?side ?k); (try (case side => walk_at "side")); (case' k => walk_at "go"))
  | ((with_reducible show EV.ModOk _ _ ∧ _); (refine And.intro ?side ?k); (try (case side => walk_at "side")); (case' k => walk_at "go"))
  | ((with_reducible show EV.PowOk _ _ ∧ _); (refine And.intro ?side ?k); (try (case side => walk_at "side")); (case' k => walk_at "go"))
  | ((with_reducible show EV.ShrOk _ _ ∧ _); (refine And.intro ?side ?k); (try (case side => walk_at "side")); (case' k => walk_at "go"))
  | ((with_reducible show (_ ≤ _) ∧ _); (refine And.intro ?side ?k); (try (case side => walk_at "side")); (case' k => walk_at "go"))
  | ((with_reducible show (_ < _) ∧ _); (refine And.intro ?side ?k); (try (case side => walk_at "side")); (case' k => walk_at "go"))
  | ((with_reducible show (List.length _ = _) ∧ _); (refine And.intro ?side ?k); (try (case side => walk_at "side")); (case' k => walk_at "go"))
  | walk_at "ex"
  | walk_at "hook"
  | ((with_reducible refine And.intro ?side ?k); (try (case side => walk_at "side")); (case' k => walk_at "go"))
  | ((with_reducible show ∀ _ : Addr, _); (intro _); walk_at "go"))
local macro_rules | `(tactic| walk_at "go") => `(tactic| ((try (conv => whnf)); first | walk_at "s1" | skip))

section
variable {CS : Nat → Addr}
/-! the drawing state: a list that owns the list of cells -/
def DQ (p q : Addr) (o : Os) : Prop := ∃ (cs : List Int) (s : Int), o = [(p, .lst [.ref q, .int s]), (q, .lst (cs.map D.int))] ∧ 0 ≤ s ∧ ∀ c ∈ cs, 0 ≤ c
theorem w_drawQ {p q : Addr} {m : Int} {o : Os} {k : D → Os → Prop} {kx : Kx} (hm : 0 < m) (hm2 : m < 1000000000000) (hS : DQ p q o) (h : ∀ (r : Int) (o' : Os), 0 ≤ r → r < m → DQ p q o' → k (.int r) o') :
    T__law_draw CS [.ref p, .int m] o k kx := by
  obtain ⟨cs, s, rfl, hs, hc⟩ := hS
  unfold T__law_draw fnT
  walk_at "go"
  have md : ∀ x : Int, 0 ≤ x % m ∧ x % m < m := fun x => ⟨Int.emod_nonneg _ (by omega), Int.emod_lt_of_pos _ hm⟩
  refine whileX_inv (fun n en o => ∃ cs : List Int, en = [some (.ref p), some (.int m), some (.ref q), none, none] ∧ o = [(p, .lst [.ref q, .int s]), (q, .lst (cs.map D.int))] ∧ cs.length = n ∧ ∀ c ∈ cs, 0 ≤ c) cs.length ⟨cs, rfl, rfl, rfl, hc⟩ ?_
  rintro n en o M ⟨cs, rfl, rfl, rfl, hc⟩ hM
  cases cs with
  | nil =>
    walk_at "go"
    exact dropX_id (h _ _ (md _).1 (md _).2 ⟨[], _, rfl, Int.emod_nonneg _ (by decide), fun x hx => nomatch hx⟩)
  | cons c cs =>
    have h0 := hc c List.mem_cons_self
    have hc2 : ∀ c ∈ cs, 0 ≤ c := fun x hx => hc x (List.mem_cons_of_mem _ hx)
    simp only [List.map_cons]
    walk_at "go"
    · exact hM cs.length _ _ _ (by simp) (.refl _) ⟨cs, rfl, rfl, rfl, hc2⟩
    · refine dropX_id (h _ _ (md _).1 (md _).2 ⟨c / m :: cs, s, rfl, hs, fun x hx => ?_⟩)
      rcases List.mem_cons.mp hx with rfl | hx
      · exact Int.ediv_nonneg h0 (by omega)
      · exact hc2 x hx
def absD (w : D) : D := match w with
  | .int x => .int (if x < 0 then -x else x)
  | _ => w
theorem w_stateQ {ns : List Int} {k : D → Os → Prop} {kx : Kx} (hn : ns.length ≤ 63) (h : ∀ (p q : Addr) (o : Os), DQ p q o → k (.ref p) o) : T__law_state CS [.lst (ns.map D.int)] [] k kx := by
  unfold T__law_state fnT
  walk_at "go"
  refine forX_inv (fun i en o => ∃ (x : Int) (y : Option D), 0 ≤ x ∧ x < 1000003 ∧ en = [some (.lst (ns.map D.int)), some (.int x), y] ∧ o = []) ⟨7, _, by omega, by omega, rfl, rfl⟩ ?_ ?_ (fun _ _ _ _ => trivial)
  · rintro i w en o N hw ⟨x, y, h0, h1, rfl, rfl⟩ hN
    rw [List.getElem?_map] at hw
    obtain ⟨z, _, rfl⟩ := Option.map_eq_some_iff.mp hw
    walk_at "go"
    exact hN _ _ _ (.refl _) ⟨_, _, by omega, by omega, rfl, rfl⟩
  · rintro en o ⟨x, y, h0, h1, rfl, rfl⟩
    walk_at "go"
    all_goals try (rw [List.length_map, sizeLine_eq]; omega)
    refine lcX_map absD trivial (fun w {p q} h => h _) (fun w hw kk h => ?_) ?_
    · obtain ⟨z, hz, rfl⟩ := List.mem_map.mp hw
      walk_at "go"
      exact h
    · have e : (ns.map D.int).map absD = (ns.map fun x => if x < 0 then -x else x).map D.int := by rw [List.map_map, List.map_map]; rfl
      rw [e]
      walk_at "go"
      refine dropX_id (h _ _ _ ⟨_, _, rfl, by omega, fun y hy => ?_⟩)
      obtain ⟨x, _, rfl⟩ := List.mem_map.mp hy
      split <;> omega
/-! one of a row -/
theorem w_pick {p q : Addr} {ds : List D} {o : Os} {k : D → Os → Prop} {kx : Kx} (h0 : 0 < ds.length) (h1 : ds.length < 1000000) (hS : DQ p q o) (h : ∀ (d : D) (o' : Os), d ∈ ds → DQ p q o' → k d o') :
    T__law_pick CS [.ref p, .lst ds] o k kx := by
  unfold T__law_pick fnT
  have hz : ds.length ≤ sizeLine := by rw [sizeLine_eq]; omega
  walk_at "go"
  refine callX_all (w_drawQ (by omega) (by omega) hS fun r o' r0 r1 hS => ?_)
  obtain ⟨d, hd⟩ : ∃ d, ds[r.toNat]? = some d := ⟨_, List.getElem?_eq_getElem (by omega)⟩
  refine ⟨d, atI_some r0 hd, ?_⟩
  exact dropX_id (h d o' (List.mem_of_getElem? hd) hS)
theorem callX_keep {T : FT} {ws : List D} (l : Os) {os : Os} {k : D → Os → Prop} {kx : Kx} (q : T ws os (fun w o => k w (l ++ o)) (fun y o => kx y (l ++ o))) : callX T ws (l ++ os) k kx := by
  rw [callX_eq]
  exact ⟨os, l, fun o => l ++ o, List.perm_append_comm, fun o => List.perm_append_comm, q⟩
theorem w_word {p q : Addr} {o : Os} {k : D → Os → Prop} {kx : Kx} (hS : DQ p q o) (h : ∀ (n : Int) (o' : Os), 0 ≤ n → n < 4294967296 → DQ p q o' → k (.int n) o') :
    T__law_word CS [.ref p] o k kx := by
  unfold T__law_word fnT
  walk_at "go"
  refine callX_all (w_drawQ (by decide) (by decide) hS fun r o' r0 r1 hS => ?_)
  walk_at "go"
  · refine callX_all (w_pick (by decide) (by decide) hS fun d o2 hd hS => ?_)
    simp only [List.mem_cons, List.not_mem_nil, or_false] at hd
    rcases hd with rfl | rfl | rfl | rfl | rfl | rfl | rfl | rfl
    all_goals exact dropX_id (h _ _ (by decide) (by decide) hS)
  · refine callX_all (w_pick (by decide) (by decide) hS fun d o2 hd hS => ?_)
    simp only [List.mem_cons, List.not_mem_nil, or_false] at hd
    rcases hd with rfl | rfl
    all_goals
      walk_at "go"
      exact callX_all (w_drawQ (by decide) (by decide) hS fun r o' r0 r1 hS => dropX_id (h _ _ r0 (by omega) hS))

end

section
variable {CS : Nat → Addr}
/-! expressions -/
inductive Ex where
  | num (n : Int) | cell (s : Str) | at (s : Str) (i : Ex) | un (op : Str) (a : Ex) | bin (op : Str) (a b : Ex)
def eD : Ex → D
  | .num n => .tup [.str "num", .int n]
  | .cell s => .tup [.str "cell", .str s]
  | .at s i => .tup [.str "at", .str s, eD i]
  | .un op a => .tup [.str op, eD a]
  | .bin op a b => .tup [.str op, eD a, eD b]
def UNS : List Str := ["neg", "inv", "not"]
def SIGNS : List Str := ["+", "-", "*", "/", "mod", "&", "|", "^", "<<", ">>", "<", "<=", "~<", "~<=", "==", "!=", "and", "or"]
structure GEnv where
  cells : List (Str × Int)
  loops : List Str
  ports : List (Str × Str)
  calls : List (Str × Str × Int)
  left : Int
def cellD (c : Str × Int) : D := .tup [.str c.1, .int c.2]
def portD (c : Str × Str) : D := .tup [.str c.1, .str c.2]
def callD (c : Str × Str × Int) : D := .tup [.str c.1, .str c.2.1, .int c.2.2]
def envD (E : GEnv) : D := .lst [.lst (E.cells.map cellD), .lst (E.loops.map D.str), .lst (E.ports.map portD), .lst (E.calls.map callD), .int E.left]
/-- an expression over cells, at most so deep -/
def ExOk (E : GEnv) : Nat → Ex → Prop
  | 0, _ => False
  | _ + 1, .num n => 0 ≤ n ∧ n < 4294967296
  | _ + 1, .cell s => (s, 0) ∈ E.cells ∨ s ∈ E.loops
  | d + 1, .at s i => (∃ k : Int, 0 < k ∧ (s, k) ∈ E.cells) ∧ ExOk E d i
  | d + 1, .un op a => op ∈ UNS ∧ ExOk E d a
  | d + 1, .bin op a b => op ∈ SIGNS ∧ ExOk E d a ∧ ExOk E d b
structure GE (E : GEnv) : Prop where
  c : E.cells.length < 1000
  l : E.loops.length + E.left.toNat < 1000
  p : E.ports.length < 1000
  k : E.calls.length < 1000
  kn : ∀ c ∈ E.calls, 0 ≤ c.2.2 ∧ c.2.2 < 1000
  c0 : E.cells ≠ []
def zeroC (w : D) : Bool := match w with
  | .tup [_, .int n] => decide (n = 0)
  | _ => false
def posC (w : D) : Bool := match w with
  | .tup [_, .int n] => decide (0 < n)
  | _ => false
def cellOf (w : D) : D := match w with
  | .tup [x, _] => .tup [.str "cell", x]
  | w => .tup [.str "cell", w]
def nameOf (w : D) : D := match w with
  | .tup [x, _] => x
  | w => w
def leafOf (w : D) : D := .tup [.str "cell", w]
theorem leaf_rows (E : GEnv) : (∀ w ∈ ((E.cells.map cellD).filter zeroC).map cellOf ++ (E.loops.map D.str).map leafOf, ∃ s, w = eD (.cell s) ∧ ((s, 0) ∈ E.cells ∨ s ∈ E.loops)) ∧ (((E.cells.map cellD).filter zeroC).map cellOf ++ (E.loops.map D.str).map leafOf).length ≤ E.cells.length + E.loops.length := by
  constructor
  · intro w hw
    rcases List.mem_append.mp hw with hw | hw
    · obtain ⟨x, hx, rfl⟩ := List.mem_map.mp hw
      obtain ⟨h1, h2⟩ := List.mem_filter.mp hx
      obtain ⟨c, hc, rfl⟩ := List.mem_map.mp h1
      have h0 : c.2 = 0 := of_decide_eq_true h2
      exact ⟨c.1, rfl, .inl (by rw [← h0]; exact hc)⟩
    · obtain ⟨x, hx, rfl⟩ := List.mem_map.mp hw
      obtain ⟨c, hc, rfl⟩ := List.mem_map.mp hx
      exact ⟨c, rfl, .inr hc⟩
  · rw [List.length_append, List.length_map, List.length_map, List.length_map]
    have := List.length_filter_le zeroC (E.cells.map cellD)
    rw [List.length_map] at this
    omega
theorem row_rows (E : GEnv) : (∀ w ∈ ((E.cells.map cellD).filter posC).map nameOf, ∃ s, w = .str s ∧ ∃ k : Int, 0 < k ∧ (s, k) ∈ E.cells) ∧ (((E.cells.map cellD).filter posC).map nameOf).length ≤ E.cells.length := by
  constructor
  · intro w hw
    obtain ⟨x, hx, rfl⟩ := List.mem_map.mp hw
    obtain ⟨h1, h2⟩ := List.mem_filter.mp hx
    obtain ⟨c, hc, rfl⟩ := List.mem_map.mp h1
    exact ⟨c.1, rfl, c.2, of_decide_eq_true h2, hc⟩
  · rw [List.length_map]
    have := List.length_filter_le posC (E.cells.map cellD)
    rw [List.length_map] at this
    omega
theorem w_exprN : ∀ (n : Nat) {E : GEnv} {d : Nat} {p q : Addr} {o : Os} {k : D → Os → Prop} {kx : Kx}, d + 1 ≤ n → GE E → DQ p q o → (∀ (e : Ex) (o' : Os), ExOk E (d + 1) e → DQ p q o' → k (eD e) o') →
    TS_0 CS n 0 [.ref p, envD E, .int ((d + 1 : Nat) : Int)] o k kx
  | 0, _, _, _, _, _, _, _, hd, _, _, _ => by omega
  | n + 1, E, d, p, q, o, k, kx, hd, hE, hS, h => by
    show B__law_expr CS (TS_0 CS n) _ _ _ _
    unfold B__law_expr fnT envD
    have hc := hE.c
    have hl := hE.l
    walk_at "go"
    refine callX_all (w_drawQ (by decide) (by decide) hS fun r o1 r0 r1 hS => ?_)
    walk_at "go"
    rotate_left
    · refine lcX_filter posC nameOf trivial (fun w hw kt kf h1 h2 => ?_) ?_
      · obtain ⟨c, hc, rfl⟩ := List.mem_map.mp hw
        rw [show cellD c = .tup [.str c.1, .int c.2] from rfl] at h1 h2 ⊢
        walk_at "go"
        · rename_i hb
          exact h1 (decide_eq_true hb)
        · rename_i hb
          exact h2 (decide_eq_false hb)
      · obtain ⟨hm, hz⟩ := row_rows E
        have hsz : (((E.cells.map cellD).filter posC).map nameOf).length ≤ sizeLine := by
          rw [sizeLine_eq]
          omega
        obtain ⟨d, rfl⟩ : ∃ d', d = d' + 1 := ⟨d - 1, by omega⟩
        have ed : ((d + 1 + 1 : Nat) : Int) - 1 = ((d + 1 : Nat) : Int) := by omega
        have ih := fun {o : Os} {k : D → Os → Prop} {kx : Kx} => w_exprN n (E := E) (d := d) (p := p) (q := q) (o := o) (k := k) (kx := kx) (by omega) hE
        walk_at "go"
        · rename_i hb
          refine callX_all (w_pick (by rw [List.length_map]; omega) (by omega) hS fun w o2 hw hS => ?_)
          obtain ⟨s, rfl, hk⟩ := hm w hw
          walk_at "go"
          rw [ed]
          refine callX_all (ih hS fun e o3 he hS => ?_)
          exact dropX_id (h (.at s e) o3 ⟨hk, he⟩ hS)
        rotate_left
        · refine callX_all (w_pick (by decide) (by decide) hS fun w o2 hw hS => ?_)
          obtain ⟨s, hs, rfl⟩ := List.mem_map.mp (show w ∈ UNS.map D.str from hw)
          walk_at "go"
          rw [ed]
          refine callX_all (ih hS fun e o3 he hS => ?_)
          exact dropX_id (h (.un s e) o3 ⟨hs, he⟩ hS)
        all_goals
          rw [ed]
          refine callX_all (ih hS fun e o3 he hS => ?_)
          walk_at "go"
          refine callX_all (w_pick (by decide) (by decide) hS fun w o2 hw hS => ?_)
          obtain ⟨s, hs, rfl⟩ := List.mem_map.mp (show w ∈ SIGNS.map D.str from hw)
          walk_at "go"
          rw [ed]
          refine callX_all (ih hS fun e2 o3 he2 hS => ?_)
          exact dropX_id (h (.bin s e e2) o3 ⟨hs, he, he2⟩ hS)
    all_goals
      refine lcX_filter zeroC cellOf trivial (fun w hw kt kf h1 h2 => ?_) ?_
      · obtain ⟨c, hc, rfl⟩ := List.mem_map.mp hw
        rw [show cellD c = .tup [.str c.1, .int c.2] from rfl] at h1 h2 ⊢
        walk_at "go"
        · rename_i hb
          exact h1 (decide_eq_true hb)
        · rename_i hb
          exact h2 (decide_eq_false hb)
      · walk_at "go"
        refine lcX_map leafOf trivial (fun w {p q} h => h _) (fun w hw kk h => ?_) ?_
        · obtain ⟨c, hc, rfl⟩ := List.mem_map.mp hw
          walk_at "go"
          exact h
        · obtain ⟨hm, hz⟩ := leaf_rows E
          have hsz : (((E.cells.map cellD).filter zeroC).map cellOf).length + ((E.loops.map D.str).map leafOf).length ≤ sizeLine := by
            rw [← List.length_append, sizeLine_eq]
            omega
          have hRl : (((E.cells.map cellD).filter zeroC).map cellOf ++ (E.loops.map D.str).map leafOf).length = ((E.cells.map cellD).filter zeroC).length + E.loops.length := by
            rw [List.length_append, List.length_map, List.length_map, List.length_map]
          walk_at "go"
          · rename_i hb
            generalize ((E.cells.map cellD).filter zeroC).map cellOf ++ (E.loops.map D.str).map leafOf = R at hm hz hRl
            refine callX_all (w_drawQ (by decide) (by decide) hS fun r o' r0 r1 hS => ?_)
            walk_at "go"
            · refine callX_all (w_word hS fun x o2 h0 h1 hS => ?_)
              exact dropX_id (h (.num x) o2 ⟨h0, h1⟩ hS)
            · refine callX_all (w_pick (by omega) (by omega) hS fun w o2 hw hS => ?_)
              obtain ⟨s, rfl, hk⟩ := hm w hw
              exact dropX_id (h (.cell s) o2 hk hS)
          · refine callX_all (w_word hS fun x o2 h0 h1 hS => ?_)
            exact dropX_id (h (.num x) o2 ⟨h0, h1⟩ hS)

end

section
variable {CS : Nat → Addr}
/-! statements -/
inductive St where
  | set (p e : Ex) | iff (c : Ex) (a b : List St) | loop (x : Str) (k : Int) (t : Option Ex) (b : List St) | call (p : Option Ex) (th op : Str) (args : List Ex) | write (x : Str) (e : Ex) | read (p : Ex) (x : Str)
def oeD : Option Ex → D
  | none => .non
  | some e => eD e
mutual
def stD : St → D
  | .set p e => .tup [.str "set", eD p, eD e]
  | .iff c a b => .tup [.str "if", eD c, .lst (bdD a), .lst (bdD b)]
  | .loop x k t b => .tup [.str "loop", .str x, .int k, oeD t, .lst (bdD b)]
  | .call p th op args => .tup [.str "call", oeD p, .str th, .str op, .lst (args.map eD)]
  | .write x e => .tup [.str "write", .str x, eD e]
  | .read p x => .tup [.str "read", eD p, .str x]
def bdD : List St → List D
  | [] => []
  | s :: b => stD s :: bdD b
end
theorem bdD_map : ∀ b : List St, bdD b = b.map stD
  | [] => rfl
  | s :: b => congrArg (stD s :: ·) (bdD_map b)
def PlOk (E : GEnv) : Ex → Prop
  | .cell s => (s, 0) ∈ E.cells
  | .at s i => (∃ k : Int, k ≠ 0 ∧ (s, k) ∈ E.cells) ∧ ExOk E 2 i
  | _ => False
def iN (n : Nat) : Str := Str.ofString "i" ++ Str.ofString (toString ((n : Nat) : Int))
mutual
def StOk (E : GEnv) (n : Nat) : St → Prop
  | .set p e => PlOk E p ∧ ExOk E 3 e
  | .iff c a b => ∃ m, n = m + 1 ∧ ExOk E 2 c ∧ BdOk E m a ∧ BdOk E m b
  | .loop x k t b => ∃ m, n = m + 1 ∧ x = iN n ∧ 1 ≤ k ∧ k ≤ 4 ∧ 0 < E.left ∧ (∀ e, t = some e → ExOk E 2 e) ∧ BdOk { E with loops := E.loops ++ [x], left := E.left - 1 } m b
  | .call p th op args => (th, op, (args.length : Int)) ∈ E.calls ∧ (∀ e, p = some e → PlOk E e) ∧ ∀ e ∈ args, ExOk E 2 e
  | .write x e => (("out" : Str), x) ∈ E.ports ∧ ExOk E 3 e
  | .read p x => PlOk E p ∧ ∃ w, w ≠ ("out" : Str) ∧ (w, x) ∈ E.ports
def BdOk (E : GEnv) (n : Nat) : List St → Prop
  | [] => True
  | s :: b => StOk E n s ∧ b.length ≤ n ∧ BdOk E n b
end
theorem bdOk_of {E : GEnv} {n : Nat} : ∀ {b : List St}, (∀ s ∈ b, StOk E n s) → b.length ≤ n + 1 → BdOk E n b
  | [], _, _ => by rw [BdOk]; trivial
  | s :: b, h, hl => by
    rw [BdOk]
    rw [List.length_cons] at hl
    exact ⟨h s List.mem_cons_self, by omega, bdOk_of (fun x hx => h x (List.mem_cons_of_mem _ hx)) (by omega)⟩
theorem bdOk_mem {E : GEnv} {n : Nat} : ∀ {b : List St}, BdOk E n b → ∀ s ∈ b, StOk E n s
  | [], _, _, hs => nomatch hs
  | s :: b, h, x, hx => by
    rw [BdOk] at h
    rcases List.mem_cons.mp hx with rfl | hx
    · exact h.1
    · exact bdOk_mem h.2.2 x hx
theorem bdOk_len {E : GEnv} {n : Nat} : ∀ {b : List St}, BdOk E n b → b.length ≤ n + 1
  | [], _ => Nat.zero_le _
  | s :: b, h => by rw [BdOk] at h; rw [List.length_cons]; omega
theorem w_expr {E : GEnv} {d : Nat} {p q : Addr} {o : Os} {k : D → Os → Prop} {kx : Kx} (hd : d + 1 ≤ 8) (hE : GE E) (hS : DQ p q o) (h : ∀ (e : Ex) (o' : Os), ExOk E (d + 1) e → DQ p q o' → k (eD e) o') :
    T__law_expr CS [.ref p, envD E, .int ((d + 1 : Nat) : Int)] o k kx := w_exprN 8 hd hE hS h
theorem w_place {E : GEnv} {p q : Addr} {o : Os} {k : D → Os → Prop} {kx : Kx} (hE : GE E) (hS : DQ p q o) (h : ∀ (e : Ex) (o' : Os), PlOk E e → DQ p q o' → k (eD e) o') :
    T__law_place CS [.ref p, envD E] o k kx := by
  unfold T__law_place fnT envD
  have hc := hE.c
  have h0 : 0 < E.cells.length := List.length_pos_iff.mpr hE.c0
  walk_at "go"
  refine callX_all (w_pick (by rw [List.length_map]; omega) (by rw [List.length_map]; omega) hS fun w o1 hw hS => ?_)
  obtain ⟨c, hcm, rfl⟩ := List.mem_map.mp hw
  rw [show cellD c = .tup [.str c.1, .int c.2] from rfl]
  walk_at "go"
  · rename_i hb
    exact dropX_id (h (.cell c.1) o1 (by show (c.1, (0 : Int)) ∈ E.cells; rw [← hb]; exact hcm) hS)
  · rename_i hb
    refine callX_all (w_expr (E := E) (d := 1) (by decide) hE hS fun e o2 he hS => ?_)
    exact dropX_id (h (.at c.1 e) o2 ⟨⟨c.2, hb, hcm⟩, he⟩ hS)

end

section
variable {CS : Nat → Addr}
/-! statements and bodies, drawn -/
theorem logS {r : Int} (h0 : 0 ≤ r) (h1 : r < 100) : r.natAbs.log2 < 1920 := by
  obtain ⟨n, rfl⟩ : ∃ n : Nat, r = n := ⟨r.toNat, by omega⟩
  have : ∀ n < 100, ((n : Nat) : Int).natAbs.log2 < 1920 := by decide +kernel
  exact this n (by omega)
theorem strS (c : String) (hc : (Str.ofString c).length ≤ 10) {r : Int} (h0 : 0 ≤ r) (h1 : r < 100) : (Str.ofString c).length + (Str.ofString (toString r)).length ≤ sizeLine := by
  obtain ⟨n, rfl⟩ : ∃ n : Nat, r = n := ⟨r.toNat, by omega⟩
  have h : ∀ n < 100, (Str.ofString (toString ((n : Nat) : Int))).length ≤ 10 := by decide +kernel
  have := h n (by omega)
  rw [sizeLine_eq]
  omega
theorem exOk_mono {E : GEnv} : ∀ {e : Ex} {d d2 : Nat}, d ≤ d2 → ExOk E d e → ExOk E d2 e
  | _, 0, _, _, h => h.elim
  | _, _ + 1, 0, hd, _ => by omega
  | .num _, _ + 1, _ + 1, _, h => h
  | .cell _, _ + 1, _ + 1, _, h => h
  | .at _ i, d + 1, d2 + 1, hd, h => ⟨h.1, exOk_mono (by omega) h.2⟩
  | .un _ a, d + 1, d2 + 1, hd, h => ⟨h.1, exOk_mono (by omega) h.2⟩
  | .bin _ a b, d + 1, d2 + 1, hd, h => ⟨h.1, exOk_mono (by omega) h.2.1, exOk_mono (by omega) h.2.2⟩
def BodySp (CS : Nat → Addr) (n : Nat) : Prop := ∀ {E : GEnv} {m : Nat} {p q : Addr} {o : Os} {k : D → Os → Prop} {kx : Kx}, 2 * m + 2 ≤ n → m < 50 → GE E → DQ p q o → (∀ (b : List St) (o' : Os), BdOk E m b → DQ p q o' → k (.lst (bdD b)) o') →
    TS_1 CS n 0 [.ref p, envD E, .int (m : Nat)] o k kx
def StSp (CS : Nat → Addr) (n : Nat) : Prop := ∀ {E : GEnv} {m : Nat} {p q : Addr} {o : Os} {k : D → Os → Prop} {kx : Kx}, 2 * m + 1 ≤ n → m < 50 → GE E → DQ p q o → (∀ (s : St) (o' : Os), StOk E m s → DQ p q o' → k (stD s) o') →
    TS_1 CS n 1 [.ref p, envD E, .int (m : Nat)] o k kx
theorem w_bodyS {n : Nat} (hst : StSp CS n) : BodySp CS (n + 1) := by
  intro E m p q o k kx hn hm50 hE hS h
  show B__law_body CS (TS_1 CS n) _ _ _ _
  unfold B__law_body fnT
  walk_at "go"
  refine callX_all (w_drawQ (by omega) (by omega) hS fun r o1 r0 r1 hS => ?_)
  walk_at "go"
  refine lcX_inv (fun j acc o => ∃ b : List St, acc = bdD b ∧ DQ p q o ∧ b.length = j ∧ ∀ s ∈ b, StOk E m s) ⟨[], rfl, hS, rfl, by intro x hx; cases hx⟩ ?_ ?_ (fun _ _ _ _ => trivial)
  · rintro j w acc o N hw ⟨b, rfl, hS, hl, hb⟩ hN
    walk_at "go"
    refine callX_all (hst (by omega) hm50 hE hS fun s o2 hs hS => ?_)
    refine hN _ _ _ (.refl _) ⟨b ++ [s], ?_, hS, by rw [List.length_append, hl]; rfl, fun x hx => ?_⟩
    · rw [bdD_map, bdD_map, List.map_append]
      rfl
    · rcases List.mem_append.mp hx with hx | hx
      · exact hb x hx
      · rcases List.mem_singleton.mp hx with rfl
        exact hs
  · rintro acc o ⟨b, rfl, hS, hl, hb⟩
    rw [rng_len] at hl
    walk_at "go"
    exact dropX_id (h b o (bdOk_of hb (by omega)) hS)
abbrev inE (E : GEnv) (x : Str) : GEnv := { E with loops := E.loops ++ [x], left := E.left - 1 }
theorem ge_in {E : GEnv} (hE : GE E) (h : 0 < E.left) (x : Str) : GE (inE E x) := ⟨hE.c, by
  have := hE.l
  show (E.loops ++ [x]).length + (E.left - 1).toNat < 1000
  rw [List.length_append, List.length_singleton]
  omega, hE.p, hE.k, hE.kn, hE.c0⟩
theorem env_in (E : GEnv) (m : Nat) : envD (inE E (iN (m + 1))) = .lst [.lst (E.cells.map cellD), .lst (E.loops.map D.str ++ [.str (Str.ofString "i" ++ Str.ofString (toString ((m + 1 : Nat) : Int)))]), .lst (E.ports.map portD), .lst (E.calls.map callD), .int (E.left - 1)] := by
  unfold envD
  rw [List.map_append]
  rfl
theorem w_stS {n : Nat} (hbd : BodySp CS n) : StSp CS (n + 1) := by
  intro E m p q o k kx hn hm50 hE hS h
  show B__law_statement CS (TS_1 CS n) _ _ _ _
  unfold B__law_statement fnT envD
  have hp := hE.p
  have hk := hE.k
  have hl := hE.l
  walk_at "go"
  refine callX_all (w_drawQ (by omega) (by omega) hS fun r o1 r0 r1 hS => ?_)
  have hlen : (Str.ofString "i").length + (Str.ofString (toString ((m : Nat) : Int))).length ≤ sizeLine := strS "i" (by decide +kernel) (by omega) (by omega)
  have hlog : ((m : Nat) : Int).natAbs.log2 < 1920 := logS (by omega) (by omega)
  walk_at "go"
  -- set
  all_goals try
    (refine callX_all (w_place (E := E) hE hS fun pl o2 hpl hS => ?_)
     walk_at "go"
     refine callX_all (w_drawQ (by omega) (by omega) hS fun r2 o3 q0 q1 hS => ?_)
     obtain ⟨d, rfl⟩ : ∃ d : Nat, r2 = d := ⟨r2.toNat, by omega⟩
     walk_at "go"
     rw [show (1 : Int) + (d : Int) = ((d + 1 : Nat) : Int) by omega]
     refine callX_all (w_expr (E := E) (d := d) (by omega) hE hS fun e o4 he hS => ?_)
     exact dropX_id (h (.set pl e) o4 (by rw [StOk]; exact ⟨hpl, exOk_mono (by omega) he⟩) hS))
  -- a port
  all_goals try
    (refine callX_all (w_pick (ds := E.ports.map portD) (by rw [List.length_map]; omega) (by rw [List.length_map]; omega) hS fun w o2 hw hS => ?_)
     obtain ⟨c, hcm, rfl⟩ := List.mem_map.mp hw
     rw [show portD c = .tup [.str c.1, .str c.2] from rfl]
     walk_at "go"
     · rename_i hb
       refine callX_all (w_expr (E := E) (d := 2) (by omega) hE hS fun e o4 he hS => ?_)
       exact dropX_id (h (.write c.2 e) o4 (by rw [StOk]; exact ⟨by rw [← hb]; exact hcm, he⟩) hS)
     · rename_i hb
       refine callX_all (w_place (E := E) hE hS fun pl o4 hpl hS => ?_)
       exact dropX_id (h (.read pl c.2) o4 (by rw [StOk]; exact ⟨hpl, c.1, hb, hcm⟩) hS))
  -- a call
  all_goals try
    (refine callX_all (w_pick (ds := E.calls.map callD) (by rw [List.length_map]; omega) (by rw [List.length_map]; omega) hS fun w o2 hw hS => ?_)
     obtain ⟨c, hcm, rfl⟩ := List.mem_map.mp hw
     have hcn := hE.kn c hcm
     rw [show callD c = .tup [.str c.1, .str c.2.1, .int c.2.2] from rfl]
     walk_at "go"
     refine lcX_inv (fun j acc o => ∃ es : List Ex, acc = es.map eD ∧ DQ p q o ∧ es.length = j ∧ ∀ e ∈ es, ExOk E 2 e) ⟨[], rfl, hS, rfl, by intro x hx; cases hx⟩ ?_ ?_ (fun _ _ _ _ => trivial)
     · rintro j w acc o N hw ⟨es, rfl, hS, hl, hes⟩ hN
       walk_at "go"
       refine callX_all (w_expr (E := E) (d := 1) (by omega) hE hS fun e o4 he hS => ?_)
       refine hN _ _ _ (.refl _) ⟨es ++ [e], by rw [List.map_append]; rfl, hS, by rw [List.length_append, hl]; rfl, fun x hx => ?_⟩
       rcases List.mem_append.mp hx with hx | hx
       · exact hes x hx
       · rcases List.mem_singleton.mp hx with rfl
         exact he
     · rintro acc o ⟨es, rfl, hS, hl, hes⟩
       rw [rng_len] at hl
       have hel : (es.length : Int) = c.2.2 := by omega
       walk_at "go"
       refine callX_all (w_place (E := E) hE hS fun pl o4 hpl hS => ?_)
       walk_at "go"
       refine callX_all (w_pick (ds := [.non, eD pl]) (Nat.zero_lt_succ _) (by show 2 < 1000000; decide) hS fun w o5 hw hS => ?_)
       simp only [List.mem_cons, List.not_mem_nil, or_false] at hw
       rcases hw with rfl | rfl
       · exact dropX_id (h (.call none c.1 c.2.1 es) o5 (by rw [StOk, hel]; exact ⟨hcm, (by intro e z; cases z), hes⟩) hS)
       · exact dropX_id (h (.call (some pl) c.1 c.2.1 es) o5 (by rw [StOk, hel]; exact ⟨hcm, (by intro e z; cases z; exact hpl), hes⟩) hS))
  all_goals (obtain ⟨m, rfl⟩ : ∃ m2, m = m2 + 1 := ⟨m - 1, by omega⟩)
  all_goals (have em : ((m + 1 : Nat) : Int) - 1 = (m : Nat) := by omega)
  · refine callX_all (w_expr (E := E) (d := 1) (by omega) hE hS fun c o2 hc hS => ?_)
    walk_at "go"
    rw [em]
    refine callX_all (hbd (E := E) (by omega) (by omega) hE hS fun b1 o3 hb1 hS => ?_)
    walk_at "go"
    rw [em]
    refine callX_all (hbd (E := E) (by omega) (by omega) hE hS fun b2 o4 hb2 hS => ?_)
    exact dropX_id (h (.iff c b1 b2) o4 (by rw [StOk]; exact ⟨m, rfl, hc, hb1, hb2⟩) hS)
  · have hleft : 0 < E.left := by assumption
    refine callX_all (w_expr (E := E) (d := 1) (by omega) hE hS fun c o2 hc hS => ?_)
    walk_at "go"
    refine callX_all (w_drawQ (by omega) (by omega) hS fun r2 o3 q0 q1 hS => ?_)
    walk_at "go"
    rw [em, ← env_in E m]
    refine callX_all (hbd (by omega) (by omega) (ge_in hE hleft _) hS fun b1 o4 hb1 hS => ?_)
    exact dropX_id (h (.loop (iN (m + 1)) (1 + r2) (some c) b1) o4 (by rw [StOk]; exact ⟨m, rfl, rfl, by omega, by omega, hleft, (by intro e z; cases z; exact hc), hb1⟩) hS)
  · have hleft : 0 < E.left := by assumption
    refine callX_all (w_drawQ (by omega) (by omega) hS fun r2 o3 q0 q1 hS => ?_)
    walk_at "go"
    rw [em, ← env_in E m]
    refine callX_all (hbd (by omega) (by omega) (ge_in hE hleft _) hS fun b1 o4 hb1 hS => ?_)
    exact dropX_id (h (.loop (iN (m + 1)) (1 + r2) none b1) o4 (by rw [StOk]; exact ⟨m, rfl, rfl, by omega, by omega, hleft, (by intro e z; cases z), hb1⟩) hS)

end

section
variable {CS : Nat → Addr}
/-! objects, drawn -/
theorem all_sp : ∀ n, BodySp CS n ∧ StSp CS n
  | 0 => ⟨by intro E m p q o k kx hn; omega, by intro E m p q o k kx hn; omega⟩
  | n + 1 => ⟨w_bodyS (all_sp n).2, w_stS (all_sp n).1⟩
theorem w_body {E : GEnv} {m : Nat} {p q : Addr} {o : Os} {k : D → Os → Prop} {kx : Kx} (hm : m ≤ 4) (hE : GE E) (hS : DQ p q o) (h : ∀ (b : List St) (o' : Os), BdOk E m b → DQ p q o' → k (.lst (bdD b)) o') :
    T__law_body CS [.ref p, envD E, .int (m : Nat)] o k kx := (all_sp 10).1 (by omega) (by omega) hE hS h
abbrev CL := List (Str × Int)
structure OpR where
  k : Nat
  params : List Str
  own : CL
  body : List St
  res : Option Ex
structure ObR where
  j : Nat
  fields : CL
  ops : List OpR
def doN (k : Nat) : Str := Str.ofString "do" ++ Str.ofString (toString ((k : Nat) : Int))
def oN (k : Nat) : Str := Str.ofString "o" ++ Str.ofString (toString ((k : Nat) : Int))
abbrev cellsD (c : CL) : D := .lst (c.map cellD)
def opD (r : OpR) : D := .tup [.str "operation", .str (doN r.k), .lst (r.params.map D.str), cellsD r.own, .lst (bdD r.body), oeD r.res]
def obD (r : ObR) : D := .tup [.str "object", .str (oN r.j), cellsD r.fields, .lst (r.ops.map opD)]
def callsOf (r : ObR) : List (Str × Str × Int) := r.ops.map fun p => (oN r.j, doN p.k, (p.params.length : Int))
def opCells (fields : CL) (r : OpR) : CL := (r.params.map fun x => (x, (0 : Int))) ++ fields ++ r.own
abbrev fieldsC (g : Int) : CL := [(("f" : Str), 0), (("g" : Str), g)]
abbrev ownC (u : Int) : CL := [(("t" : Str), 0), (("u" : Str), u)]
abbrev PQs : List Str := [("p" : Str), ("q" : Str)]
structure OpOk (calls : List (Str × Str × Int)) (fields : CL) (r : OpR) : Prop where
  p : ∃ n, n ≤ 2 ∧ r.params = PQs.take n
  o : ∃ u : Int, (u = 0 ∨ u = 2) ∧ r.own = ownC u
  b : BdOk ⟨opCells fields r, [], [], calls, 1⟩ 1 r.body
  r : ∀ e, r.res = some e → ExOk ⟨opCells fields r, [], [], [], 0⟩ 2 e
structure ObOk (calls : List (Str × Str × Int)) (r : ObR) : Prop where
  f : ∃ g : Int, (g = 0 ∨ g = 1 ∨ g = 3) ∧ r.fields = fieldsC g
  n : 1 ≤ r.ops.length ∧ r.ops.length ≤ 2
  o : ∀ (k : Nat) (p : OpR), r.ops[k]? = some p → p.k = k ∧ OpOk calls r.fields p
structure ObsOk (obs : List ObR) : Prop where
  o : ∀ (j : Nat) (r : ObR), obs[j]? = some r → r.j = j ∧ ObOk ((obs.take j).flatMap callsOf) r
theorem calls_len {obs : List ObR} (h : ObsOk obs) : (obs.flatMap callsOf).length ≤ 2 * obs.length ∧ ∀ c ∈ obs.flatMap callsOf, 0 ≤ c.2.2 ∧ c.2.2 < 1000 := by
  have h1 : ∀ r ∈ obs, r.ops.length ≤ 2 ∧ ∀ p ∈ r.ops, p.params.length ≤ 2 := fun r hr => by
    obtain ⟨j, hj⟩ := List.mem_iff_getElem?.mp hr
    have hb := (h.o j r hj).2
    refine ⟨hb.n.2, fun p hp => ?_⟩
    obtain ⟨k, hk⟩ := List.mem_iff_getElem?.mp hp
    obtain ⟨n, hn, e⟩ := (hb.o k p hk).2.p
    rw [e, List.length_take]
    show min n 2 ≤ 2
    omega
  clear h
  induction obs with
  | nil => exact ⟨Nat.zero_le _, fun c hc => nomatch hc⟩
  | cons r obs ih =>
    obtain ⟨i1, i2⟩ := ih fun r hr => h1 r (List.mem_cons_of_mem _ hr)
    obtain ⟨a1, a2⟩ := h1 r List.mem_cons_self
    rw [List.flatMap_cons]
    refine ⟨?_, fun c hc => ?_⟩
    · unfold callsOf at i1 ⊢
      rw [List.length_append, List.length_map, List.length_cons]
      omega
    · rcases List.mem_append.mp hc with hc | hc
      · obtain ⟨p, hp, rfl⟩ := List.mem_map.mp hc
        have := a2 p hp
        exact ⟨by show (0 : Int) ≤ (p.params.length : Nat); omega, by show ((p.params.length : Nat) : Int) < 1000; omega⟩
      · exact i2 c hc
def clD (i : Nat) (w : D) : D := match w with
  | .tup [_, x, .lst ps, _, _, _] => .tup [.str (oN i), x, .int (ps.length : Nat)]
  | w => w
def parD (w : D) : D := .tup [w, .int 0]
theorem w_objects {p q : Addr} {m : Nat} {o : Os} {k : D → Os → Prop} {kx : Kx} (hm : m ≤ 20) (hS : DQ p q o)
    (h : ∀ (obs : List ObR) (o' : Os), obs.length ≤ m → ObsOk obs → DQ p q o' → k (.lst [.lst (obs.map obD).reverse, .lst ((obs.flatMap callsOf).map callD)]) o') :
    T__law_objects CS [.ref p, .int (m : Nat)] o k kx := by
  unfold T__law_objects fnT
  walk_at "go"
  refine callX_all (w_drawQ (by omega) (by omega) hS fun r o1 r0 r1 hS => ?_)
  walk_at "go"
  refine forX_inv (fun i en o => ∃ (obs : List ObR) (y4 y5 y6 y7 y8 y9 y10 y11 y12 : Option D), en = [some (.ref p), some (.int (m : Nat)), some (.lst (obs.map obD).reverse), some (.lst ((obs.flatMap callsOf).map callD)), y4, y5, y6, y7, y8, y9, y10, y11, y12, none, none] ∧ DQ p q o ∧ obs.length = i ∧ ObsOk obs)
    ⟨[], _, _, _, _, _, _, _, _, _, rfl, hS, rfl, ⟨by intro j r h; simp at h⟩⟩ ?_ ?_ (fun _ _ _ _ => trivial)
  · rintro i w en o N hw ⟨obs, y4, y5, y6, y7, y8, y9, y10, y11, y12, rfl, hS, hl, hok⟩ hN
    have hi : i < r.toNat := by have := (List.getElem?_eq_some_iff.mp hw).1; rw [rng_len] at this; omega
    rw [rng_get (by omega)] at hw
    cases hw
    have e0 : (0 : Int) + (i : Nat) * 1 = (i : Nat) := by omega
    rw [e0]
    obtain ⟨hcl, hcn⟩ := calls_len hok
    walk_at "go"
    refine callX_all (w_pick (by decide) (by decide) hS fun g o2 hg hS => ?_)
    obtain ⟨g, hg, rfl⟩ : ∃ gi : Int, (gi = 0 ∨ gi = 1 ∨ gi = 3) ∧ g = .int gi := by
      simp only [List.mem_cons, List.not_mem_nil, or_false] at hg
      rcases hg with rfl | rfl | rfl
      · exact ⟨0, .inl rfl, rfl⟩
      · exact ⟨1, .inr (.inl rfl), rfl⟩
      · exact ⟨3, .inr (.inr rfl), rfl⟩
    walk_at "go"
    rename_i a
    refine callX_tl (w_drawQ (by omega) (by omega) hS fun n1 o3 s0 s1 hS => ?_)
    walk_at "go"
    refine forX_inv (fun j en o => ∃ (ops : List OpR) (y7 y8 y9 y10 y11 y12 : Option D) (o' : Os), en = [some (.ref p), some (.int (m : Nat)), some (.lst (obs.map obD).reverse), some (.lst ((obs.flatMap callsOf).map callD)), some (.int (i : Nat)), some (cellsD (fieldsC g)), some (.ref a), y7, y8, y9, y10, y11, y12, none, none] ∧ o = (a, .lst (ops.map opD)) :: o' ∧ DQ p q o' ∧ ops.length = j ∧ ∀ (k : Nat) (p : OpR), ops[k]? = some p → p.k = k ∧ OpOk (obs.flatMap callsOf) (fieldsC g) p)
      ⟨[], _, _, _, _, _, _, o3, rfl, rfl, hS, rfl, by intro k p h; simp at h⟩ ?_ ?_ (fun _ _ _ _ => trivial)
    · rintro j w en o N2 hw ⟨ops, y7, y8, y9, y10, y11, y12, o', rfl, rfl, hS, hol, hoo⟩ hN2
      have hj : j < (1 + n1).toNat := by have := (List.getElem?_eq_some_iff.mp hw).1; rw [rng_len] at this; omega
      rw [rng_get (by omega)] at hw
      cases hw
      have e0 : (0 : Int) + (j : Nat) * 1 = (j : Nat) := by omega
      rw [e0]
      have hlen : (Str.ofString "do").length + (Str.ofString (toString ((j : Nat) : Int))).length ≤ sizeLine := strS "do" (by decide +kernel) (by omega) (by omega)
      have hlog : ((j : Nat) : Int).natAbs.log2 < 1920 := logS (by omega) (by omega)
      have hosz : (ops.map opD).length < sizeLine := by rw [List.length_map, sizeLine_eq]; omega
      have hcsz : ((obs.flatMap callsOf).map callD).length ≤ sizeLine := by rw [List.length_map, sizeLine_eq]; omega
      walk_at "go"
      refine callX_tl (w_drawQ (by omega) (by omega) hS fun n2 o4 t0 t1 hS => ?_)
      obtain ⟨n2, rfl⟩ : ∃ n : Nat, n2 = n := ⟨n2.toNat, by omega⟩
      walk_at "go"
      rw [cutA_to, show [D.str (Str.ofString "p"), D.str (Str.ofString "q")].take n2 = (PQs.take n2).map D.str from (List.map_take (f := D.str) (l := PQs)).symm]
      refine callX_tl (w_pick (by decide) (by decide) hS fun u o5 hu hS => ?_)
      obtain ⟨u, hu2, rfl⟩ : ∃ ui : Int, (ui = 0 ∨ ui = 2) ∧ u = .int ui := by
        simp only [List.mem_cons, List.not_mem_nil, or_false] at hu
        rcases hu with rfl | rfl
        · exact ⟨0, .inl rfl, rfl⟩
        · exact ⟨2, .inr rfl, rfl⟩
      have hpl : (PQs.take n2).length ≤ 2 := by rw [List.length_take]; show min n2 2 ≤ 2; omega
      generalize hP : PQs.take n2 = P at hpl
      have hpsz : (P.map D.str).length ≤ sizeLine := by rw [List.length_map, sizeLine_eq]; omega
      walk_at "go"
      refine lcX_map parD trivial (fun w {p q} h => h _) (fun w hw kk h => ?_) ?_
      · obtain ⟨x, hx, rfl⟩ := List.mem_map.mp hw
        walk_at "go"
        exact h
      · have hp2 : ((P.map D.str).map parD).length ≤ 2 := by rw [List.length_map, List.length_map]; exact hpl
        have hsz3 : ((P.map D.str).map parD).length + [cellD (Str.ofString "f", 0), cellD (Str.ofString "g", g)].length ≤ sizeLine := by show _ + 2 ≤ _; rw [sizeLine_eq]; omega
        have hsz4 : ((P.map D.str).map parD ++ [cellD (Str.ofString "f", 0), cellD (Str.ofString "g", g)]).length + [D.tup [D.str (Str.ofString "t"), D.int 0], D.tup [D.str (Str.ofString "u"), D.int u]].length ≤ sizeLine := by rw [List.length_append]; show _ + 2 + 2 ≤ _; rw [sizeLine_eq]; omega
        walk_at "go"
        have hC : (P.map D.str).map parD ++ (fieldsC g).map cellD ++ [D.tup [D.str (Str.ofString "t"), D.int 0], D.tup [D.str (Str.ofString "u"), D.int u]] = ((P.map fun x => (x, (0 : Int))) ++ fieldsC g ++ ownC u).map cellD := by
          rw [List.map_append, List.map_append, List.map_map, List.map_map]
          rfl
        rw [hC]
        have hCl : ((P.map fun x => (x, (0 : Int))) ++ fieldsC g ++ ownC u).length < 1000 ∧ (P.map fun x => (x, (0 : Int))) ++ fieldsC g ++ ownC u ≠ [] := by
          refine ⟨?_, fun z => ?_⟩
          · rw [List.length_append, List.length_append, List.length_map]
            show P.length + 2 + 2 < 1000
            omega
          · have := congrArg List.length z
            rw [List.length_append, List.length_append] at this
            have h2 : (ownC u).length = 2 := rfl
            rw [h2, List.length_nil] at this
            omega
        generalize hCe : (P.map fun x => (x, (0 : Int))) ++ fieldsC g ++ ownC u = C at hCl
        have hE1 : GE ⟨C, [], [], obs.flatMap callsOf, 1⟩ := ⟨hCl.1, (by show ([] : List Str).length + (1 : Int).toNat < 1000; decide), (by show ([] : List (Str × Str)).length < 1000; decide), (by show (obs.flatMap callsOf).length < 1000; omega), hcn, hCl.2⟩
        have hE2 : GE ⟨C, [], [], [], 0⟩ := ⟨hCl.1, (by show ([] : List Str).length + (0 : Int).toNat < 1000; decide), (by show ([] : List (Str × Str)).length < 1000; decide), (by show ([] : List (Str × Str × Int)).length < 1000; decide), (by intro c hc; cases hc), hCl.2⟩
        refine callX_tl (w_body (E := ⟨C, [], [], obs.flatMap callsOf, 1⟩) (m := 1) (by decide) hE1 hS fun bd o6 hbd hS => ?_)
        walk_at "go"
        refine callX_tl (w_expr (E := ⟨C, [], [], [], 0⟩) (d := 1) (by decide) hE2 hS fun e o7 he hS => ?_)
        walk_at "go"
        refine callX_tl (w_pick (ds := [.non, eD e]) (Nat.zero_lt_succ _) (by show 2 < 1000000; decide) hS fun w o8 hw hS => ?_)
        obtain ⟨res, rfl, hres⟩ : ∃ res : Option Ex, w = oeD res ∧ ∀ x, res = some x → ExOk ⟨C, [], [], [], 0⟩ 2 x := by
          simp only [List.mem_cons, List.not_mem_nil, or_false] at hw
          rcases hw with rfl | rfl
          · exact ⟨none, rfl, by intro x hx; cases hx⟩
          · exact ⟨some e, rfl, by intro x hx; cases hx; exact he⟩
        walk_at "go"
        refine hN2 _ _ _ (.refl _) ⟨ops ++ [⟨j, P, ownC u, bd, res⟩], _, _, _, _, _, _, o8, rfl, ?_, hS, by rw [List.length_append, hol]; rfl, fun k2 p2 h2 => ?_⟩
        · rw [List.map_append]
          rfl
        · by_cases hk2 : k2 < ops.length
          · rw [List.getElem?_append_left hk2] at h2
            exact hoo k2 p2 h2
          · have := (List.getElem?_eq_some_iff.mp h2).1
            rw [List.length_append, List.length_singleton] at this
            have e1 : k2 = ops.length := by omega
            rw [e1, List.getElem?_concat_length] at h2
            cases h2
            refine ⟨by rw [e1, hol], ⟨⟨n2, by omega, hP.symm⟩, ⟨u, hu2, rfl⟩, ?_, ?_⟩⟩
            · show BdOk ⟨(P.map fun x => (x, (0 : Int))) ++ fieldsC g ++ ownC u, _, _, _, _⟩ _ _
              rw [hCe]
              exact hbd
            · show ∀ e, _ → ExOk ⟨(P.map fun x => (x, (0 : Int))) ++ fieldsC g ++ ownC u, _, _, _, _⟩ _ _
              rw [hCe]
              exact hres
    · rintro en o ⟨ops, y7, y8, y9, y10, y11, y12, o', rfl, rfl, hS, hol, hoo⟩
      rw [rng_len] at hol
      have hlen : (Str.ofString "o").length + (Str.ofString (toString ((i : Nat) : Int))).length ≤ sizeLine := strS "o" (by decide +kernel) (by omega) (by omega)
      have hlog : ((i : Nat) : Int).natAbs.log2 < 1920 := logS (by omega) (by omega)
      have hosz : (ops.map opD).length ≤ sizeLine := by rw [List.length_map, sizeLine_eq]; omega
      walk_at "go"
      refine lcX_map (clD i) ⟨0, rfl⟩ (fun w {p q} h => h _) (fun w hw kk h => ?_) ?_
      · obtain ⟨x, hx, rfl⟩ := List.mem_map.mp hw
        rw [show opD x = .tup [.str "operation", .str (doN x.k), .lst (x.params.map D.str), cellsD x.own, .lst (bdD x.body), oeD x.res] from rfl] at h ⊢
        have hxp : (x.params.map D.str).length ≤ sizeLine := by
          obtain ⟨k2, hk2⟩ := List.mem_iff_getElem?.mp hx
          obtain ⟨n, hn, e⟩ := (hoo k2 x hk2).2.p
          rw [List.length_map, e, List.length_take, sizeLine_eq]
          omega
        walk_at "go"
        exact h
      · have hsz5 : ((obs.flatMap callsOf).map callD).length + ((ops.map opD).map (clD i)).length ≤ sizeLine := by
          rw [List.length_map, List.length_map, List.length_map, sizeLine_eq]
          omega
        have hsz6 : [obD ⟨i, fieldsC g, ops⟩].length + (obs.map obD).reverse.length ≤ sizeLine := by
          rw [List.length_reverse, List.length_map, sizeLine_eq, List.length_singleton]
          omega
        walk_at "go"
        have e1 : ((obs ++ [(⟨i, fieldsC g, ops⟩ : ObR)]).map obD).reverse = [obD ⟨i, fieldsC g, ops⟩] ++ (obs.map obD).reverse := by
          rw [List.map_append, List.reverse_append]
          rfl
        have e2 : ((obs ++ [(⟨i, fieldsC g, ops⟩ : ObR)]).flatMap callsOf).map callD = (obs.flatMap callsOf).map callD ++ (ops.map opD).map (clD i) := by
          rw [List.flatMap_append, List.map_append, List.flatMap_singleton]
          refine congrArg _ ?_
          unfold callsOf
          rw [List.map_map, List.map_map]
          refine List.map_congr_left fun x _ => ?_
          show D.tup [.str (oN i), .str (doN x.k), .int ((x.params.length : Nat) : Int)] = .tup [.str (oN i), .str (doN x.k), .int (((x.params.map D.str).length : Nat) : Int)]
          rw [List.length_map]
        refine hN _ _ o' (.refl _) ⟨obs ++ [⟨i, fieldsC g, ops⟩], some (.int (i : Nat)), some (cellsD (fieldsC g)), some (.ref a), y7, y8, y9, y10, y11, y12, ?_, hS, by rw [List.length_append, hl]; rfl, ⟨fun j r hr => ?_⟩⟩
        rotate_left
        · by_cases hj : j < obs.length
          · rw [List.getElem?_append_left hj] at hr
            rw [List.take_append_of_le_length (by omega)]
            exact hok.o j r hr
          · have := (List.getElem?_eq_some_iff.mp hr).1
            rw [List.length_append, List.length_singleton] at this
            have ej : j = obs.length := by omega
            rw [ej, List.getElem?_concat_length] at hr
            cases hr
            rw [ej, List.take_left]
            exact ⟨hl.symm, ⟨g, by assumption, rfl⟩, ⟨by show 1 ≤ ops.length; omega, by show ops.length ≤ 2; omega⟩, hoo⟩
        · rw [e1, e2]
          rfl
  · rintro en o ⟨obs, y4, y5, y6, y7, y8, y9, y10, y11, y12, rfl, hS, hl, hok⟩
    rw [rng_len] at hl
    walk_at "go"
    exact dropX_id (h obs o (by omega) hok hS)

end

section
variable {CS : Nat → Addr}
/-! whole programs, drawn -/
structure TaR where
  k : Nat
  dist : Int
  within : Int
  b : Int
  body : List St
structure InR where
  dist : Int
  within : Int
  th : Str
  op : Str
  args : List Int
structure PrR where
  ports : List (Str × Str)
  obs : List ObR
  tasks : List TaR
  intr : List InR
def tN (k : Nat) : Str := Str.ofString "t" ++ Str.ofString (toString ((k : Nat) : Int))
def pN' (k : Nat) : Str := Str.ofString "p" ++ Str.ofString (toString ((k : Nat) : Int))
abbrev tCells (b : Int) : CL := [(("a" : Str), 0), (("b" : Str), b)]
def taD (r : TaR) : D := .tup [.str "task", .str (tN r.k), .int r.dist, .int r.within, cellsD (tCells r.b), .lst (bdD r.body)]
def inD' (r : InR) : D := .tup [.str "interrupt", .str "alarm", .int r.dist, .int r.within, .str r.th, .str r.op, .lst (r.args.map D.int)]
def prD (r : PrR) : D := .tup [.str "system", .str "s", .lst (r.ports.map portD), .lst (r.obs.map obD).reverse, .lst (r.tasks.map taD), .lst (r.intr.map inD')]
structure TaOk (P : PrR) (r : TaR) : Prop where
  w : 1 ≤ r.within ∧ r.within ≤ 3000 ∧ r.within ≤ r.dist ∧ r.dist < r.within + 900
  b : r.b = 0 ∨ r.b = 2 ∨ r.b = 5
  o : BdOk ⟨tCells r.b, [], P.ports, P.obs.flatMap callsOf, 2⟩ 2 r.body
structure InOk (P : PrR) (r : InR) : Prop where
  w : 1 ≤ r.within ∧ r.within ≤ 900 ∧ r.within ≤ r.dist ∧ r.dist < r.within + 900
  c : (r.th, r.op, (r.args.length : Int)) ∈ P.obs.flatMap callsOf
  a : ∀ n ∈ r.args, 0 ≤ n ∧ n < 4294967296
structure PrOk (mt mo : Nat) (P : PrR) : Prop where
  p : P.ports.length ≤ 3 ∧ ∀ (k : Nat) (c : Str × Str), P.ports[k]? = some c → c.2 = pN' k ∧ (c.1 = "in" ∨ c.1 = "out")
  o : P.obs.length ≤ mo ∧ ObsOk P.obs
  t : 1 ≤ P.tasks.length ∧ P.tasks.length ≤ mt ∧ ∀ (k : Nat) (r : TaR), P.tasks[k]? = some r → r.k = k ∧ TaOk P r
  i : P.intr.length ≤ 1 ∧ ∀ r ∈ P.intr, InOk P r
theorem callX_tl2 {T : FT} {ws : List D} {x y : Addr × OO} {os : Os} {k : D → Os → Prop} {kx : Kx} (q : T ws os (fun w o => k w (x :: y :: o)) (fun z o => kx z (x :: y :: o))) : callX T ws (x :: y :: os) k kx := by
  rw [callX_eq]
  exact ⟨os, [x, y], fun o => x :: y :: o, List.perm_append_comm (l₁ := [x, y]), fun o => List.perm_append_comm (l₁ := o) (l₂ := [x, y]), q⟩
theorem w_program {p q : Addr} {mt mo : Nat} {o : Os} {k : D → Os → Prop} {kx : Kx} (h1 : 1 ≤ mt) (hm : mo ≤ 20) (ht : mt ≤ 20) (hS : DQ p q o)
    (h : ∀ (P : PrR) (o' : Os), PrOk mt mo P → DQ p q o' → k (prD P) o') :
    T__law_program CS [.ref p, .int (mt : Nat), .int (mo : Nat)] o k kx := by
  unfold T__law_program fnT
  walk_at "go"
  refine callX_all (w_drawQ (by omega) (by omega) hS fun r o1 r0 r1 hS => ?_)
  walk_at "go"
  refine lcX_inv (fun j acc o => ∃ ps : List (Str × Str), acc = ps.map portD ∧ DQ p q o ∧ ps.length = j ∧ ∀ (k : Nat) (c : Str × Str), ps[k]? = some c → c.2 = pN' k ∧ (c.1 = "in" ∨ c.1 = "out")) ⟨[], rfl, hS, rfl, by intro k c h; simp at h⟩ ?_ ?_ (fun _ _ _ _ => trivial)
  · rintro j w acc o N hw ⟨ps, rfl, hS, hl, hps⟩ hN
    have hj : j < r.toNat := by have := (List.getElem?_eq_some_iff.mp hw).1; rw [rng_len] at this; omega
    rw [rng_get (by omega)] at hw
    cases hw
    have e0 : (0 : Int) + (j : Nat) * 1 = (j : Nat) := by omega
    rw [e0]
    have hlen : (Str.ofString "p").length + (Str.ofString (toString ((j : Nat) : Int))).length ≤ sizeLine := strS "p" (by decide +kernel) (by omega) (by omega)
    have hlog : ((j : Nat) : Int).natAbs.log2 < 1920 := logS (by omega) (by omega)
    walk_at "go"
    refine callX_all (w_pick (by decide) (by decide) hS fun d o2 hd hS => ?_)
    obtain ⟨x, rfl, hx⟩ : ∃ x : Str, d = .str x ∧ (x = "in" ∨ x = "out") := by
      simp only [List.mem_cons, List.not_mem_nil, or_false] at hd
      rcases hd with rfl | rfl
      · exact ⟨_, rfl, .inl rfl⟩
      · exact ⟨_, rfl, .inr rfl⟩
    walk_at "go"
    refine hN _ _ _ (.refl _) ⟨ps ++ [(x, pN' j)], by rw [List.map_append]; rfl, hS, by rw [List.length_append, hl]; rfl, fun k c hc => ?_⟩
    by_cases hk : k < ps.length
    · rw [List.getElem?_append_left hk] at hc
      exact hps k c hc
    · have := (List.getElem?_eq_some_iff.mp hc).1
      rw [List.length_append, List.length_singleton] at this
      have ek : k = ps.length := by omega
      rw [ek, List.getElem?_concat_length] at hc
      cases hc
      exact ⟨by rw [ek, hl], hx⟩
  · rintro acc o ⟨ps, rfl, hS, hl, hps⟩
    rw [rng_len] at hl
    have hpl : ps.length ≤ 3 := by omega
    walk_at "go"
    refine callX_all (w_objects hm hS fun obs o2 hol hok hS => ?_)
    obtain ⟨hcl, hcn⟩ := calls_len hok
    walk_at "go"
    rename_i ta
    refine callX_tl (w_drawQ (by omega) (by omega) hS fun n1 o3 s0 s1 hS => ?_)
    walk_at "go"
    refine forX_inv (fun i en o => ∃ (ts : List TaR) (y7 y8 y9 y10 : Option D) (o' : Os), en = [some (.ref p), some (.int (mt : Nat)), some (.int (mo : Nat)), some (.lst (ps.map portD)), some (.lst (obs.map obD).reverse), some (.lst ((obs.flatMap callsOf).map callD)), some (.ref ta), y7, y8, y9, y10, none, none, none, none, none] ∧ o = (ta, .lst (ts.map taD)) :: o' ∧ DQ p q o' ∧ ts.length = i ∧ ∀ (k : Nat) (r : TaR), ts[k]? = some r → r.k = k ∧ TaOk ⟨ps, obs, [], []⟩ r)
      ⟨[], _, _, _, _, o3, rfl, rfl, hS, rfl, by intro k c h; simp at h⟩ ?_ ?_ (fun _ _ _ _ => trivial)
    · rintro i w en o N hw ⟨ts, y7, y8, y9, y10, o', rfl, rfl, hS, hl, hts⟩ hN
      have hi : i < (1 + n1).toNat := by have := (List.getElem?_eq_some_iff.mp hw).1; rw [rng_len] at this; omega
      rw [rng_get (by omega)] at hw
      cases hw
      have e0 : (0 : Int) + (i : Nat) * 1 = (i : Nat) := by omega
      rw [e0]
      have hlen : (Str.ofString "t").length + (Str.ofString (toString ((i : Nat) : Int))).length ≤ sizeLine := strS "t" (by decide +kernel) (by omega) (by omega)
      have hlog : ((i : Nat) : Int).natAbs.log2 < 1920 := logS (by omega) (by omega)
      have htsz : (ts.map taD).length < sizeLine := by rw [List.length_map, sizeLine_eq]; omega
      walk_at "go"
      refine callX_tl (w_pick (by decide) (by decide) hS fun d o4 hd hS => ?_)
      obtain ⟨b, rfl, hb⟩ : ∃ b : Int, d = .int b ∧ (b = 0 ∨ b = 2 ∨ b = 5) := by
        simp only [List.mem_cons, List.not_mem_nil, or_false] at hd
        rcases hd with rfl | rfl | rfl | rfl
        · exact ⟨_, rfl, .inl rfl⟩
        · exact ⟨_, rfl, .inl rfl⟩
        · exact ⟨_, rfl, .inr (.inl rfl)⟩
        · exact ⟨_, rfl, .inr (.inr rfl)⟩
      walk_at "go"
      have hE : GE ⟨tCells b, [], ps, obs.flatMap callsOf, 2⟩ := ⟨by show 2 < 1000; decide, (by show ([] : List Str).length + (2 : Int).toNat < 1000; decide), (by show ps.length < 1000; omega), (by show (obs.flatMap callsOf).length < 1000; omega), hcn, by intro z; cases z⟩
      refine callX_tl (w_body (E := ⟨tCells b, [], ps, obs.flatMap callsOf, 2⟩) (m := 2) (by decide) hE hS fun bd o5 hbd hS => ?_)
      walk_at "go"
      refine callX_tl (w_pick (by decide) (by decide) hS fun d o6 hd hS => ?_)
      obtain ⟨z, rfl, hz⟩ : ∃ z : Int, d = .int z ∧ (z = 300 ∨ z = 3000) := by
        simp only [List.mem_cons, List.not_mem_nil, or_false] at hd
        rcases hd with rfl | rfl
        · exact ⟨_, rfl, .inl rfl⟩
        · exact ⟨_, rfl, .inr rfl⟩
      walk_at "go"
      refine callX_tl (w_drawQ (by omega) (by omega) hS fun wi o7 t0 t1 hS => ?_)
      walk_at "go"
      refine callX_tl (w_drawQ (by omega) (by omega) hS fun di o8 u0 u1 hS => ?_)
      walk_at "go"
      refine hN _ _ _ (.refl _) ⟨ts ++ [⟨i, 1 + wi + di, 1 + wi, b, bd⟩], _, _, _, _, o8, rfl, by rw [List.map_append]; rfl, hS, by rw [List.length_append, hl]; rfl, fun k c hc => ?_⟩
      by_cases hk : k < ts.length
      · rw [List.getElem?_append_left hk] at hc
        exact hts k c hc
      · have := (List.getElem?_eq_some_iff.mp hc).1
        rw [List.length_append, List.length_singleton] at this
        have ek : k = ts.length := by omega
        rw [ek, List.getElem?_concat_length] at hc
        cases hc
        exact ⟨by rw [ek, hl], ⟨⟨by show 1 ≤ 1 + wi; omega, by show 1 + wi ≤ 3000; omega, by show 1 + wi ≤ 1 + wi + di; omega, by show 1 + wi + di < 1 + wi + 900; omega⟩, hb, hbd⟩⟩
    · rintro en o ⟨ts, y7, y8, y9, y10, o', rfl, rfl, hS, hl, hts⟩
      rw [rng_len] at hl
      walk_at "go"
      · rename_i ia hb
        refine callX_tl2 (w_drawQ (by omega) (by omega) hS fun n2 o3 s0 s1 hS => ?_)
        walk_at "go"
        · refine callX_tl2 (w_pick (ds := (obs.flatMap callsOf).map callD) (by rw [List.length_map]; omega) (by rw [List.length_map]; omega) hS fun w o4 hw hS => ?_)
          obtain ⟨c, hcm, rfl⟩ := List.mem_map.mp hw
          have hc2 := hcn c hcm
          rw [show callD c = .tup [.str c.1, .str c.2.1, .int c.2.2] from rfl]
          walk_at "go"
          refine callX_tl2 (w_drawQ (by omega) (by omega) hS fun wi o5 t0 t1 hS => ?_)
          walk_at "go"
          refine lcX_inv (fun j acc o => ∃ (as : List Int) (o' : Os), acc = as.map D.int ∧ o = (ia, .lst []) :: (ta, .lst (ts.map taD)) :: o' ∧ DQ p q o' ∧ as.length = j ∧ ∀ n ∈ as, 0 ≤ n ∧ n < 4294967296) ⟨[], _, rfl, rfl, hS, rfl, by intro n hn; cases hn⟩ ?_ ?_ (fun _ _ _ _ => trivial)
          · rintro j w acc o N hw ⟨as, o', rfl, rfl, hS, hl, has⟩ hN
            walk_at "go"
            refine callX_tl2 (w_word hS fun x o2 h0 h1 hS => ?_)
            refine hN _ _ _ (.refl _) ⟨as ++ [x], o2, by rw [List.map_append]; rfl, rfl, hS, by rw [List.length_append, hl]; rfl, fun y hy => ?_⟩
            rcases List.mem_append.mp hy with hy | hy
            · exact has y hy
            · rcases List.mem_singleton.mp hy with rfl
              exact ⟨h0, h1⟩
          · rintro acc o ⟨as, o', rfl, rfl, hS, hl, has⟩
            rw [rng_len] at hl
            have hel : (as.length : Int) = c.2.2 := by omega
            walk_at "go"
            refine callX_tl2 (w_drawQ (by omega) (by omega) hS fun di o8 u0 u1 hS => ?_)
            walk_at "go"
            refine dropX_id (h ⟨ps, obs, ts, [⟨1 + wi + di, 1 + wi, c.1, c.2.1, as⟩]⟩ o8 ⟨⟨hpl, hps⟩, ⟨hol, hok⟩, ⟨by show 1 ≤ ts.length; omega, by show ts.length ≤ mt; omega, fun k r hr => ⟨(hts k r hr).1, ⟨(hts k r hr).2.w, (hts k r hr).2.b, (hts k r hr).2.o⟩⟩⟩, ⟨Nat.le_refl _, fun r hr => ?_⟩⟩ hS)
            rcases List.mem_singleton.mp hr with rfl
            exact ⟨⟨by show 1 ≤ 1 + wi; omega, by show 1 + wi ≤ 900; omega, by show 1 + wi ≤ 1 + wi + di; omega, by show 1 + wi + di < 1 + wi + 900; omega⟩, by rw [hel]; exact hcm, has⟩
        · exact dropX_id (h ⟨ps, obs, ts, []⟩ o3 ⟨⟨hpl, hps⟩, ⟨hol, hok⟩, ⟨by show 1 ≤ ts.length; omega, by show ts.length ≤ mt; omega, fun k r hr => ⟨(hts k r hr).1, ⟨(hts k r hr).2.w, (hts k r hr).2.b, (hts k r hr).2.o⟩⟩⟩, ⟨Nat.zero_le _, by intro r hr; cases hr⟩⟩ hS)
      · exact dropX_id (h ⟨ps, obs, ts, []⟩ o' ⟨⟨hpl, hps⟩, ⟨hol, hok⟩, ⟨by show 1 ≤ ts.length; omega, by show ts.length ≤ mt; omega, fun k r hr => ⟨(hts k r hr).1, ⟨(hts k r hr).2.w, (hts k r hr).2.b, (hts k r hr).2.o⟩⟩⟩, ⟨Nat.zero_le _, by intro r hr; cases hr⟩⟩ hS)

end

section
/-! sizes of texts that repr gives -/
structure Sh (d : D) (n N : Nat) : Prop where
  s : shp d n = true
  o : shwOk d = true
  b : shwN d ≤ N
structure ShA (ds : List D) (n N : Nat) : Prop where
  s : shpA ds n = true
  o : shwOkA ds = true
  b : shwNA ds ≤ N
def sOk (s : Str) : Bool := decide (s.length ≤ 20) && s.cps.toList.all fun c => decide (c < 65536)
mutual
theorem shp_mono : ∀ {d : D} {n n2 : Nat}, n ≤ n2 → shp d n = true → shp d n2 = true
  | .non, _, _, _, _ => by simp [shp]
  | .bl _, _, _, _, _ => by simp [shp]
  | .int _, _, _, _, _ => by simp [shp]
  | .str x, _, _, _, h => h
  | .tup ds, n, n2, hn, h => by
    rw [shp, Bool.and_eq_true, decide_eq_true_iff] at h ⊢
    exact ⟨by omega, shpA_mono (by omega) h.2⟩
  | .lst ds, n, n2, hn, h => by
    rw [shp, Bool.and_eq_true, decide_eq_true_iff] at h ⊢
    exact ⟨by omega, shpA_mono (by omega) h.2⟩
theorem shpA_mono : ∀ {ds : List D} {n n2 : Nat}, n ≤ n2 → shpA ds n = true → shpA ds n2 = true
  | [], _, _, _, _ => by simp [shpA]
  | d :: ds, n, n2, hn, h => by
    rw [shpA, Bool.and_eq_true] at h ⊢
    exact ⟨shp_mono hn h.1, shpA_mono hn h.2⟩
end
theorem Sh.mono {d : D} {n n2 N N2 : Nat} (h : Sh d n N) (hn : n ≤ n2) (hN : N ≤ N2) : Sh d n2 N2 := ⟨shp_mono hn h.s, h.o, Nat.le_trans h.b hN⟩
theorem ShA.mono {d : List D} {n n2 N N2 : Nat} (h : ShA d n N) (hn : n ≤ n2) (hN : N ≤ N2) : ShA d n2 N2 := ⟨shpA_mono hn h.s, h.o, Nat.le_trans h.b hN⟩
theorem Sh.non (n : Nat) : Sh .non n 5 := ⟨by simp [shp], by simp [shwOk], by simp [shwN]⟩
theorem Sh.int {i : Int} (n : Nat) (h0 : -1000000000000 < i) (h1 : i < 1000000000000) : Sh (.int i) n 45 := ⟨by simp [shp], by rw [shwOk, decide_eq_true_iff]; omega, by simp [shwN]⟩
theorem Sh.str {x : Str} (n : Nat) (h : sOk x = true) : Sh (.str x) n 202 := by
  unfold sOk at h
  rw [Bool.and_eq_true, decide_eq_true_iff, List.all_eq_true] at h
  refine ⟨?_, ?_, ?_⟩
  · show (x.cps.all (· < 0x110000)) = true
    rw [← Array.all_toList, List.all_eq_true]
    exact fun c hc => decide_eq_true (Nat.lt_of_lt_of_le (of_decide_eq_true (h.2 c hc)) (by decide))
  · rw [shwOk, List.all_eq_true]
    exact h.2
  · rw [shwN]
    omega
theorem ShA.nil (n : Nat) : ShA [] n 0 := ⟨by simp [shpA], by simp [shwOkA], by simp [shwNA]⟩
theorem ShA.cons {d : D} {ds : List D} {n M N : Nat} (h : Sh d n M) (g : ShA ds n N) : ShA (d :: ds) n (M + 2 + N) := by
  refine ⟨by rw [shpA, h.s, g.s]; rfl, by rw [shwOkA, h.o, g.o]; rfl, ?_⟩
  rw [shwNA]
  have := h.b
  have := g.b
  omega
theorem ShA.all {ds : List D} {n M k : Nat} (h : ∀ d ∈ ds, Sh d n M) (hk : ds.length ≤ k) : ShA ds n (k * (M + 2)) := by
  have key : ∀ ds : List D, (∀ d ∈ ds, Sh d n M) → ShA ds n (ds.length * (M + 2)) := fun ds => by
    induction ds with
    | nil => intro _; exact (ShA.nil n).mono (Nat.le_refl _) (Nat.zero_le _)
    | cons d ds ih =>
      intro h
      refine (ShA.cons (h d List.mem_cons_self) (ih fun x hx => h x (List.mem_cons_of_mem _ hx))).mono (Nat.le_refl _) ?_
      rw [List.length_cons, Nat.add_mul, Nat.one_mul]
      omega
  exact (key ds h).mono (Nat.le_refl _) (Nat.mul_le_mul_right _ hk)
theorem ShA.map {α : Type} {f : α → D} {xs : List α} {n M k : Nat} (h : ∀ x ∈ xs, Sh (f x) n M) (hk : xs.length ≤ k) : ShA (xs.map f) n (k * (M + 2)) :=
  ShA.all (fun d hd => by obtain ⟨x, hx, rfl⟩ := List.mem_map.mp hd; exact h x hx) (by rw [List.length_map]; exact hk)
theorem Sh.tup {ds : List D} {n N : Nat} (h : ShA ds n N) : Sh (.tup ds) (n + 1) (5 + N) := ⟨by rw [shp, Nat.add_sub_cancel, h.s, Bool.and_true]; exact decide_eq_true (Nat.succ_pos _), by rw [shwOk]; exact h.o, by rw [shwN]; have := h.b; omega⟩
theorem Sh.lst {ds : List D} {n N : Nat} (h : ShA ds n N) : Sh (.lst ds) (n + 1) (5 + N) := ⟨by rw [shp, Nat.add_sub_cancel, h.s, Bool.and_true]; exact decide_eq_true (Nat.succ_pos _), by rw [shwOk]; exact h.o, by rw [shwN]; have := h.b; omega⟩
theorem cRepr_sh {d : D} {n N : Nat} {os : Os} {k : D → Os → Prop} (h : Sh d n N) (hn : n ≤ 60) (hN : N ≤ 16000000) (ht : isTL d = true) (q : k (.str (toP d).shown) os) : cRepr [d] os k :=
  cRepr_of (shp_mono hn h.s) h.o ht (Nat.le_trans h.b (by rw [sizeLine_eq]; omega)) q

end

section
variable {CS : Nat → Addr}
/-! how long the texts of drawn programs are -/
structure GS (E : GEnv) : Prop where
  c : ∀ c ∈ E.cells, sOk c.1 = true
  l : ∀ x ∈ E.loops, sOk x = true
  p : ∀ c ∈ E.ports, sOk c.2 = true
  k : ∀ c ∈ E.calls, sOk c.1 = true ∧ sOk c.2.1 = true ∧ c.2.2 ≤ 2
def xN : Nat → Nat
  | 0 => 0
  | d + 1 => 420 + 2 * xN d
theorem sok_uns : ∀ s ∈ UNS, sOk s = true := by decide +kernel
theorem sok_signs : ∀ s ∈ SIGNS, sOk s = true := by decide +kernel
theorem ex_sh {E : GEnv} (hE : GS E) : ∀ {e : Ex} {d : Nat}, ExOk E d e → Sh (eD e) (d + 1) (xN d)
  | _, 0, h => h.elim
  | .num n, d + 1, h => (Sh.tup (.cons (.str (d + 1) (by decide +kernel)) (.cons (.int (d + 1) (by have := h.1; omega) (by have := h.2; omega)) (.nil _)))).mono (Nat.le_refl _) (by rw [xN]; omega)
  | .cell s, d + 1, h => (Sh.tup (.cons (.str (d + 1) (by decide +kernel)) (.cons (.str (d + 1) (h.elim (hE.c _) (hE.l _))) (.nil _)))).mono (Nat.le_refl _) (by rw [xN]; omega)
  | .at s i, d + 1, h => (Sh.tup (.cons (.str (d + 1) (by decide +kernel)) (.cons (.str (d + 1) (by obtain ⟨⟨k, _, hk⟩, _⟩ := h; exact hE.c _ hk)) (.cons (ex_sh hE h.2) (.nil _))))).mono (Nat.le_refl _) (by rw [xN]; omega)
  | .un op a, d + 1, h => (Sh.tup (.cons (.str (d + 1) (sok_uns _ h.1)) (.cons (ex_sh hE h.2) (.nil _)))).mono (Nat.le_refl _) (by rw [xN]; omega)
  | .bin op a b, d + 1, h => (Sh.tup (.cons (.str (d + 1) (sok_signs _ h.1)) (.cons (ex_sh hE h.2.1) (.cons (ex_sh hE h.2.2) (.nil _))))).mono (Nat.le_refl _) (by rw [xN]; omega)
theorem pl_sh {E : GEnv} (hE : GS E) : ∀ {e : Ex}, PlOk E e → Sh (eD e) 4 2000
  | .cell s, h => (ex_sh (d := 1) hE (e := .cell s) (.inl h)).mono (by decide) (by decide)
  | .at s i, h => (Sh.tup (.cons (.str 3 (by decide +kernel)) (.cons (.str 3 (by obtain ⟨⟨k, _, hk⟩, _⟩ := h; exact hE.c _ hk)) (.cons (ex_sh hE h.2) (.nil _))))).mono (Nat.le_refl _) (by decide)
def yN : Nat → Nat
  | 0 => 9000
  | m + 1 => 9000 + 2 * (9 + (m + 1) * (yN m + 2))
theorem yN_ge (m : Nat) : 9000 ≤ yN m := by cases m <;> rw [yN] <;> omega
theorem sok_iN {m : Nat} (h : m < 100) : sOk (iN m) = true := by
  have : ∀ m < 100, sOk (iN m) = true := by decide +kernel
  exact this m h
theorem gs_in {E : GEnv} (hE : GS E) {m : Nat} (hm : m < 100) : GS (inE E (iN m)) := ⟨hE.c, fun x hx => by
  rcases List.mem_append.mp hx with hx | hx
  · exact hE.l x hx
  · rcases List.mem_singleton.mp hx with rfl
    exact sok_iN hm, hE.p, hE.k⟩
theorem oe_sh {E : GEnv} (hE : GS E) {t : Option Ex} {d : Nat} (h : ∀ e, t = some e → ExOk E d e) : Sh (oeD t) (d + 1) (xN d + 5) := by
  cases t with
  | none => exact (Sh.non _).mono (Nat.le_refl _) (by omega)
  | some e => exact (ex_sh hE (h e rfl)).mono (Nat.le_refl _) (by omega)
mutual
theorem st_sh : ∀ {E : GEnv} {m : Nat} {s : St}, m < 50 → GS E → StOk E m s → Sh (stD s) (2 * m + 6) (yN m)
  | E, m, .set p e, hm, hE, h => by
    rw [StOk] at h
    rw [stD]
    exact (Sh.tup (.cons (.str 5 (by decide +kernel)) (.cons ((pl_sh hE h.1).mono (by decide) (Nat.le_refl _)) (.cons ((ex_sh hE h.2).mono (by decide) (Nat.le_refl _)) (.nil _))))).mono (by omega) (Nat.le_trans (by decide) (yN_ge m))
  | E, m, .write x e, hm, hE, h => by
    rw [StOk] at h
    rw [stD]
    exact (Sh.tup (.cons (.str 5 (by decide +kernel)) (.cons (.str 5 (hE.p _ h.1)) (.cons ((ex_sh hE h.2).mono (by decide) (Nat.le_refl _)) (.nil _))))).mono (by omega) (Nat.le_trans (by decide) (yN_ge m))
  | E, m, .read p x, hm, hE, h => by
    rw [StOk] at h
    obtain ⟨h1, w, _, h2⟩ := h
    rw [stD]
    exact (Sh.tup (.cons (.str 5 (by decide +kernel)) (.cons ((pl_sh hE h1).mono (by decide) (Nat.le_refl _)) (.cons (.str 5 (hE.p _ h2)) (.nil _))))).mono (by omega) (Nat.le_trans (by decide) (yN_ge m))
  | E, m, .call p th op args, hm, hE, h => by
    rw [StOk] at h
    obtain ⟨h1, h2, h3⟩ := h
    obtain ⟨k1, k2, k3⟩ := hE.k _ h1
    have hal : args.length ≤ 2 := by have : (args.length : Int) ≤ 2 := k3; omega
    have hp : Sh (oeD p) 5 2000 := by
      cases p with
      | none => exact (Sh.non _).mono (Nat.le_refl _) (by omega)
      | some e => exact (pl_sh hE (h2 e rfl)).mono (by decide) (Nat.le_refl _)
    rw [stD]
    exact (Sh.tup (.cons (.str 5 (by decide +kernel)) (.cons hp (.cons (.str 5 k1) (.cons (.str 5 k2) (.cons ((Sh.lst (ShA.map (fun a ha => ex_sh hE (h3 a ha)) hal)).mono (by decide) (Nat.le_refl _)) (.nil _))))))).mono (by omega) (Nat.le_trans (by decide) (yN_ge m))
  | E, m, .iff c a b, hm, hE, h => by
    rw [StOk] at h
    obtain ⟨m, rfl, h1, h2, h3⟩ := h
    rw [stD]
    refine (Sh.tup (n := 2 * m + 7) (.cons (.str _ (by decide +kernel)) (.cons ((ex_sh hE h1).mono (by omega) (Nat.le_refl _)) (.cons (Sh.lst (bd_sh (by omega) hE h2)) (.cons (Sh.lst (bd_sh (by omega) hE h3)) (.nil _)))))).mono (by omega) ?_
    have e2 : xN 2 = 1260 := rfl
    rw [yN, e2]
    omega
  | E, m, .loop x k t b, hm, hE, h => by
    rw [StOk] at h
    obtain ⟨m, rfl, rfl, hk1, hk2, hl, h1, h2⟩ := h
    rw [stD]
    refine (Sh.tup (n := 2 * m + 7) (.cons (.str _ (by decide +kernel)) (.cons (.str _ (sok_iN (by omega))) (.cons (.int _ (by omega) (by omega)) (.cons ((oe_sh hE h1).mono (by omega) (Nat.le_refl _)) (.cons (Sh.lst (bd_sh (by omega) (gs_in hE (by omega)) h2)) (.nil _))))))).mono (by omega) ?_
    have e2 : xN 2 = 1260 := rfl
    rw [yN, e2]
    omega
theorem bd_sh : ∀ {E : GEnv} {m : Nat} {b : List St}, m < 50 → GS E → BdOk E m b → ShA (bdD b) (2 * m + 6) ((m + 1) * (yN m + 2))
  | E, m, b, hm, hE, h => by
    have h1 := bdOk_len h
    have key : ∀ b : List St, BdOk E m b → ShA (bdD b) (2 * m + 6) (b.length * (yN m + 2)) := bd_sh1 hm hE
    exact (key b h).mono (Nat.le_refl _) (Nat.mul_le_mul_right _ h1)
theorem bd_sh1 : ∀ {E : GEnv} {m : Nat}, m < 50 → GS E → ∀ (b : List St), BdOk E m b → ShA (bdD b) (2 * m + 6) (b.length * (yN m + 2))
  | E, m, hm, hE, [], _ => by rw [bdD]; exact (ShA.nil _).mono (Nat.le_refl _) (Nat.zero_le _)
  | E, m, hm, hE, s :: b, h => by
    rw [BdOk] at h
    rw [bdD]
    refine (ShA.cons (st_sh hm hE h.1) (bd_sh1 hm hE b h.2.2)).mono (Nat.le_refl _) ?_
    rw [List.length_cons, Nat.add_mul, Nat.one_mul]
    omega
end

end

section
variable {CS : Nat → Addr}
/-! the text of a whole drawn program -/
theorem sok_lit : ∀ s ∈ ([("p" : Str), "q", "f", "g", "t", "u", "a", "b", "in", "out", "operation", "object", "task", "interrupt", "system", "s", "alarm"] : List Str), sOk s = true := by decide +kernel
theorem sok_nums : ∀ k < 30, sOk (oN k) = true ∧ sOk (doN k) = true ∧ sOk (tN k) = true ∧ sOk (pN' k) = true := by decide +kernel
theorem calls_ok {obs : List ObR} (h : ObsOk obs) (hl : obs.length ≤ 20) : ∀ c ∈ obs.flatMap callsOf, sOk c.1 = true ∧ sOk c.2.1 = true ∧ c.2.2 ≤ 2 := by
  intro c hc
  obtain ⟨r, hr, hc⟩ := List.mem_flatMap.mp hc
  obtain ⟨p, hp, rfl⟩ := List.mem_map.mp hc
  obtain ⟨j, hj⟩ := List.mem_iff_getElem?.mp hr
  obtain ⟨e1, hb⟩ := h.o j r hj
  obtain ⟨k, hk⟩ := List.mem_iff_getElem?.mp hp
  obtain ⟨e2, ho⟩ := hb.o k p hk
  have h1 := (List.getElem?_eq_some_iff.mp hj).1
  have h2 := (List.getElem?_eq_some_iff.mp hk).1
  have h3 := hb.n
  obtain ⟨n, hn, e⟩ := ho.p
  refine ⟨?_, ?_, ?_⟩
  · show sOk (oN r.j) = true
    exact (sok_nums r.j (by omega)).1
  · show sOk (doN p.k) = true
    exact (sok_nums p.k (by omega)).2.1
  · show (p.params.length : Int) ≤ 2
    rw [e, List.length_take]
    omega
theorem take_sub {obs : List ObR} {j : Nat} {c : Str × Str × Int} (h : c ∈ (obs.take j).flatMap callsOf) : c ∈ obs.flatMap callsOf := by
  obtain ⟨r, hr, hc⟩ := List.mem_flatMap.mp h
  exact List.mem_flatMap.mpr ⟨r, List.mem_of_mem_take hr, hc⟩
theorem opCells_ok {fields : CL} {r : OpR} (hf : ∃ g, fields = fieldsC g) (hp : ∃ n, n ≤ 2 ∧ r.params = PQs.take n) (ho : ∃ u, r.own = ownC u) : ∀ c ∈ opCells fields r, sOk c.1 = true := by
  intro c hc
  obtain ⟨g, rfl⟩ := hf
  obtain ⟨n, _, e⟩ := hp
  obtain ⟨u, e2⟩ := ho
  unfold opCells at hc
  rw [e, e2] at hc
  refine sok_lit _ ?_
  rcases List.mem_append.mp hc with hc | hc
  · rcases List.mem_append.mp hc with hc | hc
    · obtain ⟨x, hx, rfl⟩ := List.mem_map.mp hc
      have := List.mem_of_mem_take hx
      simp only [PQs, List.mem_cons, List.not_mem_nil, or_false] at this
      rcases this with rfl | rfl <;> simp
    · simp only [List.mem_cons, List.not_mem_nil, or_false] at hc
      rcases hc with rfl | rfl <;> simp
  · simp only [List.mem_cons, List.not_mem_nil, or_false] at hc
    rcases hc with rfl | rfl <;> simp
theorem cl_sh {c : CL} {n k : Nat} (h : ∀ x ∈ c, sOk x.1 = true ∧ -1000000000000 < x.2 ∧ x.2 < 1000000000000) (hk : c.length ≤ k) : Sh (cellsD c) (n + 2) (5 + k * 260) :=
  Sh.lst (ShA.map (M := 258) (fun x hx => (Sh.tup (.cons (.str n (h x hx).1) (.cons (.int n (h x hx).2.1 (h x hx).2.2) (.nil _)))).mono (Nat.le_refl _) (by omega)) hk)
theorem op_sh {calls : List (Str × Str × Int)} {fields : CL} {r : OpR} (hc : ∀ c ∈ calls, sOk c.1 = true ∧ sOk c.2.1 = true ∧ c.2.2 ≤ 2) (hf : ∃ g, fields = fieldsC g) (hk : r.k < 30) (h : OpOk calls fields r) : Sh (opD r) 12 100000 := by
  have hcl := opCells_ok (r := r) hf h.p (let ⟨u, _, e⟩ := h.o; ⟨u, e⟩)
  have hE1 : GS ⟨opCells fields r, [], [], calls, 1⟩ := ⟨hcl, (by intro x hx; cases hx), (by intro x hx; cases hx), hc⟩
  have hE2 : GS ⟨opCells fields r, [], [], [], 0⟩ := ⟨hcl, (by intro x hx; cases hx), (by intro x hx; cases hx), (by intro x hx; cases hx)⟩
  have h1 : Sh (.lst (r.params.map D.str)) 11 600 := by
    obtain ⟨n, hn, e⟩ := h.p
    refine (Sh.lst (n := 1) (ShA.map (M := 202) (k := 2) (fun x hx => .str 1 (sok_lit _ ?_)) (by rw [e, List.length_take]; omega))).mono (by decide) (by decide)
    rw [e] at hx
    have := List.mem_of_mem_take hx
    simp only [PQs, List.mem_cons, List.not_mem_nil, or_false] at this
    rcases this with rfl | rfl <;> simp
  have h2 : Sh (cellsD r.own) 11 600 := by
    obtain ⟨u, hu, e⟩ := h.o
    rw [e]
    refine (cl_sh (n := 1) (k := 2) (fun x hx => ?_) (Nat.le_refl _)).mono (by decide) (by decide)
    simp only [List.mem_cons, List.not_mem_nil, or_false] at hx
    rcases hx with rfl | rfl
    · exact ⟨by decide +kernel, by decide, by decide⟩
    · exact ⟨by show sOk (Str.ofString "u") = true; decide +kernel, by show _ < u; omega, by show u < _; omega⟩
  have h3 : Sh (.lst (bdD r.body)) 11 60000 := (Sh.lst (bd_sh (by decide) hE1 h.b)).mono (by decide) (by decide)
  have h4 : Sh (oeD r.res) 11 2000 := (oe_sh hE2 h.r).mono (by decide) (by decide)
  exact (Sh.tup (.cons (.str 11 (by decide +kernel)) (.cons (.str 11 (sok_nums _ hk).2.1) (.cons h1 (.cons h2 (.cons h3 (.cons h4 (.nil _)))))))).mono (Nat.le_refl _) (by decide)
theorem ob_sh {calls : List (Str × Str × Int)} {r : ObR} (hc : ∀ c ∈ calls, sOk c.1 = true ∧ sOk c.2.1 = true ∧ c.2.2 ≤ 2) (hj : r.j < 30) (h : ObOk calls r) : Sh (obD r) 14 250000 := by
  obtain ⟨g, hg, e⟩ := h.f
  have h1 : Sh (cellsD r.fields) 13 600 := by
    rw [e]
    refine (cl_sh (n := 1) (k := 2) (fun x hx => ?_) (Nat.le_refl _)).mono (by decide) (by decide)
    simp only [List.mem_cons, List.not_mem_nil, or_false] at hx
    rcases hx with rfl | rfl
    · exact ⟨by decide +kernel, by decide, by decide⟩
    · exact ⟨by show sOk (Str.ofString "g") = true; decide +kernel, by show _ < g; omega, by show g < _; omega⟩
  have h2 : Sh (.lst (r.ops.map opD)) 13 210000 := (Sh.lst (ShA.map (M := 100000) (k := 2) (fun x hx => by
    obtain ⟨k, hk⟩ := List.mem_iff_getElem?.mp hx
    obtain ⟨e2, ho⟩ := h.o k x hk
    have := (List.getElem?_eq_some_iff.mp hk).1
    have := h.n
    exact op_sh hc ⟨g, e⟩ (by omega) ho) h.n.2)).mono (by decide) (by decide)
  exact (Sh.tup (.cons (.str 13 (by decide +kernel)) (.cons (.str 13 (sok_nums _ hj).1) (.cons h1 (.cons h2 (.nil _)))))).mono (Nat.le_refl _) (by decide)
theorem ta_sh {P : PrR} {r : TaR} (hc : ∀ c ∈ P.obs.flatMap callsOf, sOk c.1 = true ∧ sOk c.2.1 = true ∧ c.2.2 ≤ 2) (hp : ∀ c ∈ P.ports, sOk c.2 = true) (hk : r.k < 30) (h : TaOk P r) : Sh (taD r) 14 450000 := by
  have hE : GS ⟨tCells r.b, [], P.ports, P.obs.flatMap callsOf, 2⟩ := ⟨fun x hx => by
    have hx : x ∈ tCells r.b := hx
    simp only [List.mem_cons, List.not_mem_nil, or_false] at hx
    rcases hx with rfl | rfl <;> exact sok_lit _ (by simp), (by intro x hx; cases hx), hp, hc⟩
  have h1 : Sh (cellsD (tCells r.b)) 13 600 := by
    refine (cl_sh (n := 1) (k := 2) (fun x hx => ?_) (Nat.le_refl _)).mono (by decide) (by decide)
    simp only [List.mem_cons, List.not_mem_nil, or_false] at hx
    have hb := h.b
    rcases hx with rfl | rfl
    · exact ⟨by decide +kernel, by decide, by decide⟩
    · exact ⟨by show sOk (Str.ofString "b") = true; decide +kernel, by show _ < r.b; omega, by show r.b < _; omega⟩
  have h3 : Sh (.lst (bdD r.body)) 13 400000 := (Sh.lst (bd_sh (by decide) hE h.o)).mono (by decide) (by decide)
  have hw := h.w
  exact (Sh.tup (.cons (.str 13 (by decide +kernel)) (.cons (.str 13 (sok_nums _ hk).2.2.1) (.cons (.int 13 (by omega) (by omega)) (.cons (.int 13 (by omega) (by omega)) (.cons h1 (.cons h3 (.nil _)))))))).mono (Nat.le_refl _) (by decide)
theorem pr_sh {P : PrR} {mt mo : Nat} (h : PrOk mt mo P) (ht : mt ≤ 8) (ho : mo ≤ 8) : Sh (prD P) 20 7000000 := by
  have hc := calls_ok h.o.2 (by have := h.o.1; omega)
  have hp : ∀ c ∈ P.ports, sOk c.2 = true ∧ sOk c.1 = true := fun c hcm => by
    obtain ⟨k, hk⟩ := List.mem_iff_getElem?.mp hcm
    obtain ⟨e1, e2⟩ := h.p.2 k c hk
    have := (List.getElem?_eq_some_iff.mp hk).1
    have := h.p.1
    refine ⟨by rw [e1]; exact (sok_nums k (by omega)).2.2.2, ?_⟩
    rcases e2 with e | e <;> rw [e] <;> exact sok_lit _ (by simp)
  have h1 : Sh (.lst (P.ports.map portD)) 19 2000 := (Sh.lst (n := 2) (ShA.map (M := 413) (k := 3) (fun c hcm => (Sh.tup (n := 1) (.cons (.str 1 (hp c hcm).2) (.cons (.str 1 (hp c hcm).1) (.nil _))))) h.p.1)).mono (by decide) (by decide)
  have h2 : Sh (.lst (P.obs.map obD).reverse) 19 2100000 := (Sh.lst (n := 14) (ShA.all (M := 250000) (k := 8) (fun d hd => by
    obtain ⟨r, hr, rfl⟩ := List.mem_map.mp (List.mem_reverse.mp hd)
    obtain ⟨j, hj⟩ := List.mem_iff_getElem?.mp hr
    obtain ⟨e1, hb⟩ := h.o.2.o j r hj
    have := (List.getElem?_eq_some_iff.mp hj).1
    have := h.o.1
    exact ob_sh (fun c hc2 => hc c (take_sub hc2)) (by omega) hb) (by rw [List.length_reverse, List.length_map]; have := h.o.1; omega))).mono (by decide) (by decide)
  have h3 : Sh (.lst (P.tasks.map taD)) 19 4000000 := (Sh.lst (n := 14) (ShA.map (M := 450000) (k := 8) (fun r hr => by
    obtain ⟨j, hj⟩ := List.mem_iff_getElem?.mp hr
    obtain ⟨e1, hb⟩ := h.t.2.2 j r hj
    have := (List.getElem?_eq_some_iff.mp hj).1
    have := h.t.2.1
    exact ta_sh hc (fun c hcm => (hp c hcm).1) (by omega) hb) (by have := h.t.2.1; omega))).mono (by decide) (by decide)
  have h4 : Sh (.lst (P.intr.map inD')) 19 2000 := (Sh.lst (n := 3) (ShA.map (M := 1500) (k := 1) (fun r hr => by
    have hi := h.i.2 r hr
    have hw := hi.w
    obtain ⟨k1, k2, k3⟩ := hc _ hi.c
    have ha : r.args.length ≤ 2 := by have : (r.args.length : Int) ≤ 2 := k3; omega
    exact (Sh.tup (n := 2) (.cons (.str 2 (by decide +kernel)) (.cons (.str 2 (by decide +kernel)) (.cons (.int 2 (by omega) (by omega)) (.cons (.int 2 (by omega) (by omega)) (.cons (.str 2 k1) (.cons (.str 2 k2) (.cons (Sh.lst (n := 1) (ShA.map (M := 45) (k := 2) (fun n hn => .int 1 (by have := hi.a n hn; omega) (by have := hi.a n hn; omega)) ha)) (.nil _))))))))).mono (Nat.le_refl _) (by decide)) h.i.1)).mono (by decide) (by decide)
  exact (Sh.tup (.cons (.str 19 (by decide +kernel)) (.cons (.str 19 (by decide +kernel)) (.cons h1 (.cons h2 (.cons h3 (.cons h4 (.nil _)))))))).mono (Nat.le_refl _) (by decide)

end

section
variable {CS : Nat → Addr}
/-! k10: names that are called -/
theorem forX_ind {g : TrG} {body : TrS} {N : DEnv → Os → Prop} {R : KR} (P : List D → DEnv → Os → Prop) (h0 : ∀ env os, P [] env os → N env os)
    (hs : ∀ (w : D) (ws : List D) (env : DEnv) (os : Os) (M : DEnv → Os → Prop), P (w :: ws) env os → (∀ e o, P ws e o → M e o) → g w env os fun env1 os1 => body M (R.loop M N) env1 os1) : ∀ {ws : List D} {env : DEnv} {os : Os}, P ws env os → forX g body N R none ws env os
  | [], _, _, h => forX_nil (h0 _ _ h)
  | _ :: _, _, _, h => forX_cons (hs _ _ _ _ _ h fun _ _ h2 => forX_ind P h0 hs h2)
theorem forX_wk {g : TrG} {body : TrS} {N : DEnv → Os → Prop} {R : KR} : ∀ {ws : List D} {env : DEnv} {os os2 : Os}, WkO os os2 → forX g body N R none ws env os2 → forX g body N R none ws env os
  | [], _, _, _, s, h => by
    rw [forX_eq] at h ⊢
    obtain ⟨o3, s3, h⟩ := h
    exact ⟨o3, s.trans s3, h⟩
  | _ :: _, _, _, _, s, h => by
    rw [forX_eq] at h ⊢
    obtain ⟨o3, s3, h⟩ := h
    exact ⟨o3, s.trans s3, h⟩
theorem forX_indW {g : TrG} {body : TrS} {N : DEnv → Os → Prop} {R : KR} (P : List D → DEnv → Os → Prop) (h0 : ∀ env os, P [] env os → N env os)
    (hs : ∀ (w : D) (ws : List D) (env : DEnv) (os : Os) (M : DEnv → Os → Prop), P (w :: ws) env os → (∀ e o o2, WkO o o2 → P ws e o2 → M e o) → g w env os fun env1 os1 => body M (R.loop M N) env1 os1) : ∀ {ws : List D} {env : DEnv} {os : Os}, P ws env os → forX g body N R none ws env os
  | [], _, _, h => forX_nil (h0 _ _ h)
  | _ :: _, _, _, h => forX_cons (hs _ _ _ _ _ h fun _ _ _ s h2 => forX_wk s (forX_indW P h0 hs h2))
def nmOf : D → Option Str
  | .tup (_ :: .str s :: _) => some s
  | _ => none
theorem nmOf_of {w : D} {s : Str} (h : nmOf w = some s) : ∃ a r, w = .tup (a :: .str s :: r) := by
  unfold nmOf at h
  split at h
  · cases h; exact ⟨_, _, rfl⟩
  · cases h
def fnd : Int → List Str → Str → Int
  | _, [], _ => -1
  | i, n :: ns, x => if n = x then i else fnd (i + 1) ns x
theorem w_find {ws : List D} {ns : List Str} {x : Str} {os : Os} {k : D → Os → Prop} {kx : Kx} (hn : ws.map nmOf = ns.map some) (h : k (.int (fnd 0 ns x)) os) : T_find CS [.lst ws, .str x] os k kx := by
  unfold T_find fnT
  walk_at "go"
  refine forX_ind (fun vs env o => ∃ i us ns y1 y2, us.map nmOf = ns.map some ∧ vs = enumW i us ∧ env = [some (.lst ws), some (.str x), y1, y2] ∧ o = os ∧ k (.int (fnd i ns x)) os) ?_ ?_ ⟨0, ws, ns, _, _, hn, rfl, rfl, rfl, h⟩
  · rintro env o ⟨i, us, ns, y1, y2, hu, hw, rfl, rfl, hk⟩
    cases us with
    | nil =>
      cases ns with
      | nil => walk_at "go"; exact dropX_id hk
      | cons _ _ => cases hu
    | cons _ _ => cases hw
  · rintro w vs env o M ⟨i, us, ns, y1, y2, hu, hw, rfl, rfl, hk⟩ hM
    cases us with
    | nil => cases hw
    | cons u us =>
      cases ns with
      | nil => cases hu
      | cons n ns =>
        rw [List.map_cons, List.map_cons] at hu
        obtain ⟨h1, h2⟩ := List.cons.inj hu
        obtain ⟨a, r, rfl⟩ := nmOf_of h1
        obtain ⟨rfl, rfl⟩ := List.cons.inj hw
        rw [fnd] at hk
        walk_at "go"
        · rename_i hb
          rw [if_pos hb] at hk
          exact dropX_id hk
        · rename_i hb
          rw [if_neg hb] at hk
          exact hM _ _ ⟨_, us, ns, _, _, h2, rfl, rfl, rfl, hk⟩

mutual
def calS : St → List Str
  | .iff _ a b => calB a ++ calB b
  | .loop _ _ _ b => calB b
  | .call _ th _ _ => [th]
  | .set _ _ => []
  | .write _ _ => []
  | .read _ _ => []
def calB : List St → List Str
  | [] => []
  | s :: b => calS s ++ calB b
end
mutual
def deS : St → Nat
  | .iff _ a b => max (deB a + 1) (deB b + 1)
  | .loop _ _ _ b => deB b + 1
  | .set _ _ => 0
  | .write _ _ => 0
  | .read _ _ => 0
  | .call _ _ _ _ => 0
def deB : List St → Nat
  | [] => 0
  | s :: b => max (deS s) (deB b)
end
theorem w_calledN : ∀ (n : Nat) {b : List St} {os : Os} {k : D → Os → Prop} {kx : Kx}, deB b + 1 ≤ n → (calB b).length ≤ 100000 → k (.lst ((calB b).map D.str)) os → TS_3 CS n 0 [.lst (bdD b)] os k kx
  | 0, _, _, _, _, hd, _, _ => by omega
  | n + 1, b, os, k, kx, hd, hm, h => by
    show B__called CS (TS_3 CS n) [.lst (bdD b)] os k kx
    unfold B__called fnT
    walk_at "go"
    rename_i p
    refine forX_ind (fun ws env o => ∃ (r : List St) (acc : List Str) (y : Option D), ws = bdD r ∧ env = [some (.lst (bdD b)), some (.ref p), y] ∧ o = (p, .lst (acc.map D.str)) :: os ∧ deB r ≤ n ∧ acc ++ calB r = calB b) ?_ ?_ ⟨b, [], _, rfl, rfl, rfl, by omega, rfl⟩
    · rintro env o ⟨r, acc, y, hw, rfl, rfl, h1, h2⟩
      cases r with
      | nil =>
        rw [calB, List.append_nil] at h2
        subst h2
        walk_at "go"
        exact dropX_id h
      | cons _ _ => cases hw
    · rintro w ws env o N ⟨r, acc, y, hw, rfl, rfl, h1, h2⟩ hN
      cases r with
      | nil => cases hw
      | cons s r =>
        rw [bdD] at hw
        obtain ⟨rfl, rfl⟩ := List.cons.inj hw
        rw [deB] at h1
        rw [calB] at h2
        have hN2 : ∀ (y : Option D), N [some (.lst (bdD b)), some (.ref p), y] ((p, .lst ((acc ++ calS s).map D.str)) :: os) := fun y => hN _ _ ⟨r, acc ++ calS s, y, rfl, rfl, rfl, by omega, by rw [List.append_assoc]; exact h2⟩
        have hl := congrArg List.length h2
        rw [List.length_append, List.length_append] at hl
        have hz : (acc.map D.str).length < sizeLine := by rw [List.length_map, sizeLine_eq]; omega
        clear hN h h2
        cases s with
        | set q e => rw [stD]; rw [calS, List.append_nil] at hN2; walk_at "go"; exact hN2 _
        | write x e => rw [stD]; rw [calS, List.append_nil] at hN2; walk_at "go"; exact hN2 _
        | read q x => rw [stD]; rw [calS, List.append_nil] at hN2; walk_at "go"; exact hN2 _
        | call q th op args =>
          rw [stD]
          rw [calS, List.map_append] at hN2
          walk_at "go"
          exact hN2 _
        | iff c a b2 =>
          rw [stD]
          rw [calS] at hN2 hl
          rw [deS] at h1
          rw [List.length_append] at hl
          walk_at "go"
          refine callX_all (w_calledN n (b := a) (by omega) (by omega) ?_)
          refine ⟨0, _, (calB a).map D.str, rfl, rfl, by simp only [List.length_map]; rw [sizeLine_eq]; omega, ?_⟩
          walk_at "go"
          refine callX_all (w_calledN n (b := b2) (by omega) (by omega) ?_)
          refine ⟨0, _, (calB b2).map D.str, rfl, rfl, by simp only [List.length_map, List.length_append]; rw [sizeLine_eq]; omega, ?_⟩
          rw [List.map_append, List.map_append, ← List.append_assoc] at hN2
          exact hN2 _
        | loop x kk t b2 =>
          rw [stD]
          rw [calS] at hN2 hl
          rw [deS] at h1
          walk_at "go"
          refine callX_all (w_calledN n (b := b2) (by omega) (by omega) ?_)
          refine ⟨0, _, (calB b2).map D.str, rfl, rfl, by simp only [List.length_map]; rw [sizeLine_eq]; omega, ?_⟩
          rw [List.map_append] at hN2
          exact hN2 _
theorem w_namesN : ∀ (n : Nat) {b : List St} {os : Os} {k : D → Os → Prop} {kx : Kx}, deB b + 1 ≤ n → (calB b).length ≤ 100000 → k (.lst ((calB b).map D.str)) os → TS_2 CS n 0 [.lst (bdD b)] os k kx
  | 0, _, _, _, _, hd, _, _ => by omega
  | n + 1, b, os, k, kx, hd, hm, h => by
    show B__law_names CS (TS_2 CS n) [.lst (bdD b)] os k kx
    unfold B__law_names fnT
    walk_at "go"
    refine forX_indW (fun ws env o => ∃ (p : Addr) (r : List St) (acc : List Str) (y : Option D), ws = bdD r ∧ env = [some (.lst (bdD b)), some (.ref p), y] ∧ o = (p, .lst (acc.map D.str)) :: os ∧ deB r ≤ n ∧ acc ++ calB r = calB b) ?_ ?_ ⟨_, b, [], _, rfl, rfl, rfl, by omega, rfl⟩
    · rintro env o ⟨p, r, acc, y, hw, rfl, rfl, h1, h2⟩
      cases r with
      | nil =>
        rw [calB, List.append_nil] at h2
        subst h2
        walk_at "go"
        exact dropX_id h
      | cons _ _ => cases hw
    · rintro w ws env o N ⟨p, r, acc, y, hw, rfl, rfl, h1, h2⟩ hN
      cases r with
      | nil => cases hw
      | cons s r =>
        rw [bdD] at hw
        obtain ⟨rfl, rfl⟩ := List.cons.inj hw
        rw [deB] at h1
        rw [calB] at h2
        have hN2 : ∀ (p2 : Addr) (y : Option D) (o : Os), WkO o ((p2, .lst ((acc ++ calS s).map D.str)) :: os) → N [some (.lst (bdD b)), some (.ref p2), y] o := fun p2 y o ho => hN _ _ _ ho ⟨p2, r, acc ++ calS s, y, rfl, rfl, rfl, by omega, by rw [List.append_assoc]; exact h2⟩
        have hl := congrArg List.length h2
        rw [List.length_append, List.length_append] at hl
        have hz : (acc.map D.str).length < sizeLine := by rw [List.length_map, sizeLine_eq]; omega
        clear hN h h2
        cases s with
        | set q e => rw [stD]; rw [calS, List.append_nil] at hN2; walk_at "go"; exact hN2 _ _ _ (.refl _)
        | write x e => rw [stD]; rw [calS, List.append_nil] at hN2; walk_at "go"; exact hN2 _ _ _ (.refl _)
        | read q x => rw [stD]; rw [calS, List.append_nil] at hN2; walk_at "go"; exact hN2 _ _ _ (.refl _)
        | call q th op args =>
          rw [stD]
          rw [calS, List.map_append] at hN2
          walk_at "go"
          exact hN2 _ _ _ (.refl _)
        | iff c a b2 =>
          rw [stD]
          rw [calS] at hN2 hl
          rw [deS] at h1
          rw [List.length_append] at hl
          walk_at "go"
          refine callX_all (w_namesN n (b := a) (by omega) (by omega) ?_)
          refine ⟨_, _, ⟨0, rfl⟩, rfl, by simp only [List.length_map]; rw [sizeLine_eq]; omega, ?_⟩
          walk_at "go"
          refine callX_all (w_namesN n (b := b2) (by omega) (by omega) ?_)
          refine ⟨_, _, rfl, rfl, by simp only [List.length_map, List.length_append]; rw [sizeLine_eq]; omega, fun p2 => ?_⟩
          walk_at "go"
          rw [List.map_append, List.map_append, ← List.append_assoc] at hN2
          exact hN2 _ _ _ (.cons .drop1)
        | loop x kk t b2 =>
          rw [stD]
          rw [calS] at hN2 hl
          rw [deS] at h1
          walk_at "go"
          refine callX_all (w_namesN n (b := b2) (by omega) (by omega) ?_)
          refine ⟨_, _, ⟨0, rfl⟩, rfl, by simp only [List.length_map]; rw [sizeLine_eq]; omega, fun p2 => ?_⟩
          rw [List.map_append] at hN2
          walk_at "go"
          exact hN2 _ _ _ (.cons .drop1)

end

section
/-! k10: sorted lists, reach (plain) -/
def kvB (ks : List Int) : List (Key × D) := ks.map fun x => (Sum.inl x, D.bl true)
/-- a list of ints, ascending, of the things that are wanted -/
def SortedOf (ms : List Int) (P : Int → Prop) : Prop := ms.Pairwise (· < ·) ∧ ∀ x, x ∈ ms ↔ P x
def insK (ks : List Int) (x : Int) : List Int := if x ∈ ks then ks else ks ++ [x]
theorem valD_kvB : ∀ (ks : List Int) (x : Int), (valD (kvB ks) (.inl x)).isSome = decide (x ∈ ks) := by
  intro ks x
  induction ks with
  | nil => simp [kvB, valD]
  | cons a ks ih =>
    unfold kvB at ih ⊢
    by_cases h : a = x
    · subst h; simp [valD]
    · have h2 : ¬ x = a := fun e => h e.symm
      simp [valD, h, h2] at ih ⊢
      exact ih
theorem kvB_put (ks : List Int) (x : Int) : putD (kvB ks) (.inl x) (.bl true) = kvB (insK ks x) := by
  unfold putD insK
  rw [valD_kvB]
  by_cases h : x ∈ ks
  · simp only [h, decide_true, if_true]
    unfold kvB
    rw [List.map_map]
    refine List.map_congr_left fun y _ => ?_
    simp only [Function.comp]
    split <;> rfl
  · simp only [h, decide_false, Bool.false_eq_true, if_false]
    unfold kvB
    rw [List.map_append]
    rfl
theorem insK_mem {ks : List Int} {x y : Int} : y ∈ insK ks x ↔ y ∈ ks ∨ y = x := by
  unfold insK
  split
  · rename_i h
    exact ⟨.inl, fun h2 => h2.elim id fun e => e ▸ h⟩
  · simp
theorem insK_nodup {ks : List Int} {x : Int} (h : ks.Nodup) : (insK ks x).Nodup := by
  unfold insK
  split
  · exact h
  · rename_i hx
    rw [List.nodup_append]
    refine ⟨h, by simp, ?_⟩
    intro a ha b hb
    rcases List.mem_singleton.mp hb with rfl
    exact fun e => hx (e ▸ ha)
theorem nodup_le : ∀ (l m : List Int), l.Nodup → (∀ x ∈ l, x ∈ m) → l.length ≤ m.length
  | [], _, _, _ => Nat.zero_le _
  | x :: l, m, h, hm => by
    have hx := hm x List.mem_cons_self
    have hn := List.nodup_cons.mp h
    have ih := nodup_le l (m.erase x) hn.2 fun y hy => by
      have hne : y ≠ x := fun e => hn.1 (e ▸ hy)
      exact (List.mem_erase_of_ne hne).mpr (hm y (List.mem_cons_of_mem _ hy))
    have hl := List.length_erase_of_mem hx
    have : 0 < m.length := List.length_pos_of_mem hx
    rw [List.length_cons]
    omega
theorem small4 {ks : List Int} (h : ks.Nodup) (hb : ∀ x ∈ ks, 0 ≤ x ∧ x < 4) : ks.length ≤ 4 := nodup_le ks [0, 1, 2, 3] h fun x hx => by
  have := hb x hx
  have : x = 0 ∨ x = 1 ∨ x = 2 ∨ x = 3 := by omega
  rcases this with rfl | rfl | rfl | rfl <;> simp
theorem kvB_len (ks : List Int) : (kvB ks).length = ks.length := by unfold kvB; rw [List.length_map]
theorem sorted_strict {ms ks : List Int} (hp : ms.Perm ks) (h : ms.Pairwise (· ≤ ·)) (hn : ks.Nodup) : ms.Pairwise (· < ·) := by
  have h2 : ms.Nodup := hp.nodup_iff.mpr hn
  exact (h.and h2).imp fun {a b} q => by have := q.1; have := q.2; omega
/-- reached from k along the edges T -/
inductive Rc (T : List (List Nat)) : Nat → Int → Prop
  | self (k : Nat) : Rc T k k
  | step {k t : Nat} {ts : List Nat} {x : Int} : T[k]? = some ts → t ∈ ts → Rc T t x → Rc T k x
def Up (T : List (List Nat)) : Prop := ∀ (k : Nat) (ts : List Nat), T[k]? = some ts → ∀ t ∈ ts, k < t ∧ t < T.length
theorem rc_lt {T : List (List Nat)} (hU : Up T) {k : Nat} {x : Int} (h : Rc T k x) (hk : k < T.length) : 0 ≤ x ∧ x < T.length := by
  induction h with
  | self k => omega
  | step h1 h2 h3 ih => exact ih ((hU _ _ h1 _ h2).2)
theorem rc_iff {T : List (List Nat)} {k : Nat} {ts : List Nat} (h : T[k]? = some ts) (x : Int) : Rc T k x ↔ x = k ∨ ∃ t ∈ ts, Rc T t x := by
  constructor
  · intro r
    cases r with
    | self => exact .inl rfl
    | step h1 h2 h3 => rw [h] at h1; cases h1; exact .inr ⟨_, h2, h3⟩
  · rintro (rfl | ⟨t, h1, h2⟩)
    · exact .self k
    · exact .step h h1 h2
theorem rc_ge {T : List (List Nat)} (hU : Up T) {k : Nat} {x : Int} (h : Rc T k x) : (k : Int) ≤ x := by
  induction h with
  | self k => omega
  | step h1 h2 h3 ih => have := (hU _ _ h1 _ h2).1; omega
def neK (a : Int) (w : D) : Bool := match w with
  | .int x => decide (x ≠ a)
  | _ => false
theorem neK_filter (a : Int) : ∀ ms : List Int, (ms.map D.int).filter (neK a) = (ms.filter fun x => decide (x ≠ a)).map D.int
  | [] => rfl
  | x :: ms => by
    rw [List.map_cons, List.filter_cons, List.filter_cons, neK_filter a ms]
    show (if decide (x ≠ a) = true then _ else _) = _
    split <;> rfl
theorem sorted_uniq : ∀ {l m : List Int}, l.Pairwise (· < ·) → m.Pairwise (· < ·) → (∀ x, x ∈ l ↔ x ∈ m) → l = m
  | [], [], _, _, _ => rfl
  | [], a :: m, _, _, h => absurd ((h a).mpr (.head _)) (by simp)
  | a :: l, [], _, _, h => absurd ((h a).mp (.head _)) (by simp)
  | a :: l, b :: m, h1, h2, h => by
    rw [List.pairwise_cons] at h1 h2
    have e : a = b := by
      rcases List.mem_cons.mp ((h a).mp (.head _)) with e | ha
      · exact e
      · rcases List.mem_cons.mp ((h b).mpr (.head _)) with e | hb
        · exact e.symm
        · have := h2.1 a ha
          have := h1.1 b hb
          omega
    subst e
    have ih := sorted_uniq h1.2 h2.2 fun x => by
      constructor
      · intro hx
        rcases List.mem_cons.mp ((h x).mp (.tail _ hx)) with e | hm
        · have := h1.1 x hx; omega
        · exact hm
      · intro hx
        rcases List.mem_cons.mp ((h x).mpr (.tail _ hx)) with e | hm
        · have := h2.1 x hx; omega
        · exact hm
    rw [ih]
theorem sortedOf_uniq {l m : List Int} {P : Int → Prop} (h1 : SortedOf l P) (h2 : SortedOf m P) : l = m := sorted_uniq h1.1 h2.1 fun x => (h1.2 x).trans (h2.2 x).symm

end

section
variable {CS : Nat → Addr}
/-! k10: _closure, reached, used -/
abbrev oNs (L : List ObR) : List Str := L.map fun r => oN r.j
theorem nm_obs (L : List ObR) : (L.map obD).map nmOf = (oNs L).map some := by rw [List.map_map, List.map_map]; rfl
def CloN (L : List ObR) (m : Nat) (R : List (List Int)) (ns : List Str) (x : Int) : Prop := ∃ n ∈ ns, ∃ (t : Nat) (r : List Int), fnd 0 (oNs L) n = ((m + t : Nat) : Int) ∧ R[t]? = some r ∧ x ∈ r
theorem w_closD {L : List ObR} {os : Os} {ns : List Str} {nD rD : D} {m : Nat} {R : List (List Int)} {ws : List D} {k : D → Os → Prop} {kx : Kx} (hn : nD = .lst (ns.map D.str)) (hr : rD = .lst ws) (hws : ∀ (t : Nat) (r : List Int), R[t]? = some r → ∃ (a : Addr) (n : Nat), ws[m + t]? = some (.ref a) ∧ os[n]? = some (a, .lst (r.map D.int)))
    (hix : ∀ n ∈ ns, ∃ t, t < R.length ∧ fnd 0 (oNs L) n = ((m + t : Nat) : Int)) (hb : ∀ r ∈ R, ∀ x ∈ r, 0 ≤ x ∧ x < 4)
    (hk : ∀ (ms : List Int) (p : Addr), SortedOf ms (CloN L m R ns) → k (.ref p) ((p, .lst (ms.map D.int)) :: os)) : T__closure CS [.lst (L.map obD), nD, rD] os k kx := by
  subst hn
  subst hr
  unfold T__closure fnT
  walk_at "go"
  rename_i d
  refine forX_inv (fun i en o => ∃ y z ks, en = [some (.lst (L.map obD)), some (.lst (ns.map D.str)), some (.lst ws), some (.ref d), y, z] ∧ o = (d, .dK (kvB ks)) :: os ∧ ks.Nodup ∧ ∀ x, x ∈ ks ↔ CloN L m R (ns.take i) x)
    ⟨_, _, [], rfl, rfl, List.nodup_nil, fun x => Iff.intro (fun h => nomatch h) (fun h => by obtain ⟨t, h, _⟩ := h; exact nomatch h)⟩ ?_ ?_ (fun _ _ _ _ => trivial)
  · rintro i w en o N hw ⟨y, z, ks, rfl, rfl, hnd, hmem⟩ hN
    rw [List.getElem?_map] at hw
    obtain ⟨n, hnn, rfl⟩ := Option.map_eq_some_iff.mp hw
    obtain ⟨t, ht, hfn⟩ := hix n (List.mem_of_getElem? hnn)
    obtain ⟨r, hr⟩ : ∃ r, R[t]? = some r := ⟨_, List.getElem?_eq_getElem ht⟩
    obtain ⟨a, na, ha1, ha2⟩ := hws t r hr
    have hrb := hb r (List.mem_of_getElem? hr)
    have hcl : ∀ x, CloN L m R (ns.take (i + 1)) x ↔ CloN L m R (ns.take i) x ∨ x ∈ r := fun x => by
      unfold CloN
      rw [List.take_add_one, hnn]
      constructor
      · rintro ⟨n', h, t', r', e0, e1, e2⟩
        rcases List.mem_append.mp h with h | h
        · exact .inl ⟨n', h, t', r', e0, e1, e2⟩
        · have : n' = n := by simpa using h
          subst this
          have et : t' = t := by omega
          subst et
          rw [hr] at e1
          cases e1
          exact .inr e2
      · rintro (⟨n', h, q⟩ | h)
        · exact ⟨n', List.mem_append_left _ h, q⟩
        · exact ⟨n, by simp, t, r, hfn, hr, h⟩
    have hall : ∀ x, CloN L m R (ns.take i) x → 0 ≤ x ∧ x < 4 := fun x ⟨n', _, t', r', e0, e1, e2⟩ => hb r' (List.mem_of_getElem? e1) x e2
    have hat : atI ws ((m + t : Nat) : Int) = some (.ref a) := atI_some (by omega) (by rw [Int.toNat_natCast]; exact ha1)
    walk_at "go"
    refine callX_all (w_find (nm_obs L) ?_)
    rw [hfn]
    refine ⟨_, hat, ?_⟩
    refine ⟨na + 1, _, by rw [List.getElem?_cons_succ]; exact ha2, ?_⟩
    refine forX_inv (fun j en o => ∃ z ks, en = [some (.lst (L.map obD)), some (.lst (ns.map D.str)), some (.lst ws), some (.ref d), some (.str n), z] ∧ o = (d, .dK (kvB ks)) :: os ∧ ks.Nodup ∧ ∀ x, x ∈ ks ↔ CloN L m R (ns.take i) x ∨ x ∈ r.take j)
      ⟨_, ks, rfl, rfl, hnd, fun x => by rw [hmem x]; simp⟩ ?_ ?_ (fun _ _ _ ⟨_, _, _, ho, _⟩ => ⟨na + 1, by rw [ho, List.getElem?_cons_succ]; exact ha2⟩)
    · rintro j w en o N2 hw ⟨z, ks, rfl, rfl, hnd, hmem⟩ hN2
      rw [List.getElem?_map] at hw
      obtain ⟨v, hv, rfl⟩ := Option.map_eq_some_iff.mp hw
      have hks : ks.length ≤ 4 := small4 hnd fun x hx => by
        rcases (hmem x).mp hx with h | h
        · exact hall x h
        · exact hrb x (List.mem_of_mem_take h)
      have hm2 : ∀ x, x ∈ insK ks v ↔ CloN L m R (ns.take i) x ∨ x ∈ r.take (j + 1) := fun x => by
        rw [insK_mem, hmem x, List.take_add_one, hv, List.mem_append, or_assoc]
        simp
      have hz : (kvB ks).length < sizeLine := by rw [kvB_len, sizeLine_eq]; omega
      walk_at "go"
      rw [kvB_put]
      exact hN2 _ _ _ (.refl _) ⟨_, _, rfl, rfl, insK_nodup hnd, hm2⟩
    · rintro en o ⟨z, ks, rfl, rfl, hnd, hmem⟩
      rw [List.length_map, List.take_length] at hmem
      exact hN _ _ _ (.refl _) ⟨_, _, _, rfl, rfl, hnd, fun x => by rw [hmem x, hcl x]⟩
  · rintro en o ⟨y, z, ks, rfl, rfl, hnd, hmem⟩
    rw [List.length_map, List.take_length] at hmem
    have hall : ∀ x ∈ ks, 0 ≤ x ∧ x < 4 := fun x hx => by
      obtain ⟨n', _, t', r', e0, e1, e2⟩ := (hmem x).mp hx
      exact hb r' (List.mem_of_getElem? e1) x e2
    have hl := small4 hnd hall
    walk_at "go"
    refine ⟨kvB ks, ks, ⟨0, rfl⟩, by unfold kvB; rw [List.map_map]; rfl, by omega, fun ms hp hle p => ?_⟩
    exact dropX_wk (.cons .drop1) (hk ms p ⟨sorted_strict hp hle hnd, fun x => by rw [hp.mem_iff, hmem x]⟩)
theorem w_closR {L : List ObR} {os : Os} {ns : List Str} {nD rD : D} {m : Nat} {R : List (List Int)} {ws : List D} {k : D → Os → Prop} {kx : Kx} {qn : Addr} {nn : Nat} (hn : nD = .ref qn) (hno : os[nn]? = some (qn, .lst (ns.map D.str))) {qr : Addr} {nr : Nat} (hr : rD = .ref qr) (hro : os[nr]? = some (qr, .lst ws)) (hws : ∀ (t : Nat) (r : List Int), R[t]? = some r → ∃ (a : Addr) (n : Nat), ws[m + t]? = some (.ref a) ∧ os[n]? = some (a, .lst (r.map D.int)))
    (hix : ∀ n ∈ ns, ∃ t, t < R.length ∧ fnd 0 (oNs L) n = ((m + t : Nat) : Int)) (hb : ∀ r ∈ R, ∀ x ∈ r, 0 ≤ x ∧ x < 4)
    (hk : ∀ (ms : List Int) (p : Addr), SortedOf ms (CloN L m R ns) → k (.ref p) ((p, .lst (ms.map D.int)) :: os)) : T__closure CS [.lst (L.map obD), nD, rD] os k kx := by
  subst hn
  subst hr
  unfold T__closure fnT
  walk_at "go"
  rename_i d
  refine forX_inv (fun i en o => ∃ y z ks, en = [some (.lst (L.map obD)), some (.ref qn), some (.ref qr), some (.ref d), y, z] ∧ o = (d, .dK (kvB ks)) :: os ∧ ks.Nodup ∧ ∀ x, x ∈ ks ↔ CloN L m R (ns.take i) x)
    ⟨_, _, [], rfl, rfl, List.nodup_nil, fun x => Iff.intro (fun h => nomatch h) (fun h => by obtain ⟨t, h, _⟩ := h; exact nomatch h)⟩ ?_ ?_ (fun _ _ _ ⟨_, _, _, _, ho, _⟩ => ⟨nn + 1, by rw [ho, List.getElem?_cons_succ]; exact hno⟩)
  · rintro i w en o N hw ⟨y, z, ks, rfl, rfl, hnd, hmem⟩ hN
    rw [List.getElem?_map] at hw
    obtain ⟨n, hnn, rfl⟩ := Option.map_eq_some_iff.mp hw
    obtain ⟨t, ht, hfn⟩ := hix n (List.mem_of_getElem? hnn)
    obtain ⟨r, hr⟩ : ∃ r, R[t]? = some r := ⟨_, List.getElem?_eq_getElem ht⟩
    obtain ⟨a, na, ha1, ha2⟩ := hws t r hr
    have hrb := hb r (List.mem_of_getElem? hr)
    have hcl : ∀ x, CloN L m R (ns.take (i + 1)) x ↔ CloN L m R (ns.take i) x ∨ x ∈ r := fun x => by
      unfold CloN
      rw [List.take_add_one, hnn]
      constructor
      · rintro ⟨n', h, t', r', e0, e1, e2⟩
        rcases List.mem_append.mp h with h | h
        · exact .inl ⟨n', h, t', r', e0, e1, e2⟩
        · have : n' = n := by simpa using h
          subst this
          have et : t' = t := by omega
          subst et
          rw [hr] at e1
          cases e1
          exact .inr e2
      · rintro (⟨n', h, q⟩ | h)
        · exact ⟨n', List.mem_append_left _ h, q⟩
        · exact ⟨n, by simp, t, r, hfn, hr, h⟩
    have hall : ∀ x, CloN L m R (ns.take i) x → 0 ≤ x ∧ x < 4 := fun x ⟨n', _, t', r', e0, e1, e2⟩ => hb r' (List.mem_of_getElem? e1) x e2
    have hat : atI ws ((m + t : Nat) : Int) = some (.ref a) := atI_some (by omega) (by rw [Int.toNat_natCast]; exact ha1)
    walk_at "go"
    refine callX_all (w_find (nm_obs L) ?_)
    rw [hfn]
    refine ⟨nr + 1, _, _, by rw [List.getElem?_cons_succ]; exact hro, hat, ?_⟩
    refine ⟨na + 1, _, by rw [List.getElem?_cons_succ]; exact ha2, ?_⟩
    refine forX_inv (fun j en o => ∃ z ks, en = [some (.lst (L.map obD)), some (.ref qn), some (.ref qr), some (.ref d), some (.str n), z] ∧ o = (d, .dK (kvB ks)) :: os ∧ ks.Nodup ∧ ∀ x, x ∈ ks ↔ CloN L m R (ns.take i) x ∨ x ∈ r.take j)
      ⟨_, ks, rfl, rfl, hnd, fun x => by rw [hmem x]; simp⟩ ?_ ?_ (fun _ _ _ ⟨_, _, _, ho, _⟩ => ⟨na + 1, by rw [ho, List.getElem?_cons_succ]; exact ha2⟩)
    · rintro j w en o N2 hw ⟨z, ks, rfl, rfl, hnd, hmem⟩ hN2
      rw [List.getElem?_map] at hw
      obtain ⟨v, hv, rfl⟩ := Option.map_eq_some_iff.mp hw
      have hks : ks.length ≤ 4 := small4 hnd fun x hx => by
        rcases (hmem x).mp hx with h | h
        · exact hall x h
        · exact hrb x (List.mem_of_mem_take h)
      have hm2 : ∀ x, x ∈ insK ks v ↔ CloN L m R (ns.take i) x ∨ x ∈ r.take (j + 1) := fun x => by
        rw [insK_mem, hmem x, List.take_add_one, hv, List.mem_append, or_assoc]
        simp
      have hz : (kvB ks).length < sizeLine := by rw [kvB_len, sizeLine_eq]; omega
      walk_at "go"
      rw [kvB_put]
      exact hN2 _ _ _ (.refl _) ⟨_, _, rfl, rfl, insK_nodup hnd, hm2⟩
    · rintro en o ⟨z, ks, rfl, rfl, hnd, hmem⟩
      rw [List.length_map, List.take_length] at hmem
      exact hN _ _ _ (.refl _) ⟨_, _, _, rfl, rfl, hnd, fun x => by rw [hmem x, hcl x]⟩
  · rintro en o ⟨y, z, ks, rfl, rfl, hnd, hmem⟩
    rw [List.length_map, List.take_length] at hmem
    have hall : ∀ x ∈ ks, 0 ≤ x ∧ x < 4 := fun x hx => by
      obtain ⟨n', _, t', r', e0, e1, e2⟩ := (hmem x).mp hx
      exact hb r' (List.mem_of_getElem? e1) x e2
    have hl := small4 hnd hall
    walk_at "go"
    refine ⟨kvB ks, ks, ⟨0, rfl⟩, by unfold kvB; rw [List.map_map]; rfl, by omega, fun ms hp hle p => ?_⟩
    exact dropX_wk (.cons .drop1) (hk ms p ⟨sorted_strict hp hle hnd, fun x => by rw [hp.mem_iff, hmem x]⟩)

end

section
variable {CS : Nat → Addr}
/-! k10: reached -/
def calO (r : ObR) : List Str := r.ops.flatMap fun p => calB p.body
def ixN' (L : List ObR) (n : Str) : Nat := (fnd 0 (oNs L) n).toNat
def edg (L : List ObR) : List (List Nat) := L.map fun r => (calO r).map (ixN' L)
/-- the calls go to later objects -/
structure LOk (L : List ObR) : Prop where
  l : L.length ≤ 4
  e : ∀ (k : Nat) (r : ObR), L[k]? = some r → ∀ n ∈ calO r, ∃ i : Nat, k < i ∧ i < L.length ∧ fnd 0 (oNs L) n = (i : Int)
  d : ∀ r ∈ L, ∀ p ∈ r.ops, deB p.body ≤ 9
  n : ∀ r ∈ L, (calO r).length ≤ 50000
theorem edg_at {L : List ObR} {k : Nat} {r : ObR} (h : L[k]? = some r) : (edg L)[k]? = some ((calO r).map (ixN' L)) := by
  unfold edg
  rw [List.getElem?_map, h]
  rfl
theorem edg_len (L : List ObR) : (edg L).length = L.length := by unfold edg; rw [List.length_map]
theorem edg_up {L : List ObR} (h : LOk L) : Up (edg L) := fun k ts hk t ht => by
  have hkl : k < L.length := by have := (List.getElem?_eq_some_iff.mp hk).1; rwa [edg_len] at this
  obtain ⟨r, hr⟩ : ∃ r, L[k]? = some r := ⟨_, List.getElem?_eq_getElem hkl⟩
  rw [edg_at hr] at hk
  cases hk
  obtain ⟨n, hn, rfl⟩ := List.mem_map.mp ht
  obtain ⟨i, h1, h2, h3⟩ := h.e k r hr n hn
  unfold ixN'
  rw [h3, edg_len]
  exact ⟨by omega, by omega⟩
/-- the rows from m on -/
structure RowsM (L : List ObR) (m : Nat) (R : List (List Int)) : Prop where
  n : m + R.length = L.length
  s : ∀ (t : Nat) (r : List Int), R[t]? = some r → SortedOf r (Rc (edg L) (m + t))
theorem rowsM_b {L : List ObR} (h : LOk L) {m : Nat} {R : List (List Int)} (hR : RowsM L m R) : ∀ r ∈ R, ∀ x ∈ r, 0 ≤ x ∧ x < 4 := fun r hr x hx => by
  obtain ⟨t, ht⟩ := List.mem_iff_getElem?.mp hr
  have htl := (List.getElem?_eq_some_iff.mp ht).1
  have hn := hR.n
  have := rc_lt (edg_up h) (((hR.s t r ht).2 x).mp hx) (by rw [edg_len]; omega)
  rw [edg_len] at this
  have := h.l
  omega
theorem inn_row {as : List Addr} {R : List (List Int)} (hl : as.length = R.length) {t : Nat} {r : List Int} (h : R[t]? = some r) : ∃ a, as[t]? = some a ∧ (inn as (R.map fun r => r.map D.int))[t]? = some (a, .lst (r.map D.int)) := by
  have ht := (List.getElem?_eq_some_iff.mp h).1
  have ha : as[t]? = some as[t] := List.getElem?_eq_getElem (by omega)
  exact ⟨_, ha, inn_at ha (by rw [List.getElem?_map, h]; rfl)⟩
abbrev inR (as : List Addr) (R : List (List Int)) : Os := inn as (R.map fun r => r.map D.int)
theorem clo_new {L : List ObR} (h : LOk L) {m : Nat} {R : List (List Int)} (hR : RowsM L (m + 1) R) {r : ObR} (hr : L[m]? = some r) {ms ns : List Int} (hms : SortedOf ms (CloN L (m + 1) R (calO r)))
    (hp : ns.Perm ((m : Int) :: ms.filter fun x => decide (x ≠ (m : Int)))) (hle : ns.Pairwise (· ≤ ·)) : RowsM L m (ns :: R) := by
  have hn := hR.n
  refine ⟨by rw [List.length_cons]; omega, fun t r' ht => ?_⟩
  cases t with
  | succ t =>
    have := hR.s t r' (by simpa using ht)
    rw [show m + (t + 1) = m + 1 + t by omega]
    exact this
  | zero =>
    have ht : some ns = some r' := ht
    cases ht
    have hnd : ((m : Int) :: ms.filter fun x => decide (x ≠ (m : Int))).Nodup := by
      refine List.nodup_cons.mpr ⟨fun h => ?_, (hms.1.imp fun {a b} h => Int.ne_of_lt h).filter _⟩
      have := (List.mem_filter.mp h).2
      exact of_decide_eq_true this rfl
    refine ⟨sorted_strict hp hle hnd, fun x => ?_⟩
    have hc : CloN L (m + 1) R (calO r) x ↔ ∃ t ∈ (calO r).map (ixN' L), Rc (edg L) t x := by
      constructor
      · rintro ⟨n, h1, t, r', h2, h3, h4⟩
        refine ⟨ixN' L n, List.mem_map.mpr ⟨n, h1, rfl⟩, ?_⟩
        have e : ixN' L n = m + 1 + t := by unfold ixN'; rw [h2]; omega
        rw [e]
        exact ((hR.s t r' h3).2 x).mp h4
      · rintro ⟨t, h1, h2⟩
        obtain ⟨n, hn1, rfl⟩ := List.mem_map.mp h1
        obtain ⟨i, q1, q2, q3⟩ := h.e m r hr n hn1
        have e : ixN' L n = i := by unfold ixN'; rw [q3]; omega
        rw [e] at h2
        obtain ⟨r', hr'⟩ : ∃ r', R[i - (m + 1)]? = some r' := ⟨_, List.getElem?_eq_getElem (by omega)⟩
        refine ⟨n, hn1, i - (m + 1), r', by rw [q3]; omega, hr', ?_⟩
        have := (hR.s _ r' hr').2 x
        rw [show m + 1 + (i - (m + 1)) = i by omega] at this
        exact this.mpr h2
    rw [show m + 0 = m from rfl, hp.mem_iff, rc_iff (edg_at hr), ← hc, List.mem_cons, List.mem_filter, hms.2 x]
    by_cases hx : x = (m : Int)
    · simp [hx]
    · simp [hx]
theorem w_reached {L : List ObR} {a b c d e : D} {k : D → Os → Prop} {kx : Kx} (hL : LOk L)
    (hk : ∀ (as : List Addr) (R : List (List Int)), as.length = R.length → RowsM L 0 R → k (.lst (as.map D.ref)) (inR as R)) : T_reached CS [.tup [a, b, c, .lst (L.map obD), d, e]] [] k kx := by
  have h4 := hL.l
  have hml : (L.map obD).length = L.length := List.length_map ..
  unfold T_reached fnT
  walk_at "go"
  refine lcX_map (fun _ => D.lst []) trivial (fun w {p q} h => h _) (fun w hw kk h => h) ?_
  walk_at "go"
  all_goals try (first | (rw [hml, sizeLine_eq]; omega) | (rw [hml]; omega))
  rename_i q
  have e0 : (L.map obD).map (fun _ => D.lst []) = List.replicate L.length (D.lst []) := by rw [List.map_const', hml]
  rw [e0, hml, Int.toNat_natCast]
  refine forX_inv (fun i en o => ∃ y3 y4 y5 y6 y7 as R, en = [some (.tup [a, b, c, .lst (L.map obD), d, e]), some (.lst (L.map obD)), some (.ref q), y3, y4, y5, y6, y7] ∧ o = (q, .lst (List.replicate (L.length - i) (D.lst []) ++ as.map D.ref)) :: inR as R ∧ as.length = R.length ∧ RowsM L (L.length - i) R)
    ⟨_, _, _, _, _, [], [], rfl, by rw [List.map_nil, List.append_nil]; rfl, rfl, ⟨by rw [List.length_nil]; omega, fun t r h => by simp at h⟩⟩ ?_ ?_ (fun _ _ _ _ => trivial)
  · rintro i w en o N hw ⟨y3, y4, y5, y6, y7, as, R, rfl, rfl, hal, hR⟩ hN
    have hi : i < L.length := by have := (List.getElem?_eq_some_iff.mp hw).1; rw [rng_len] at this; exact this
    rw [rng_get hi] at hw
    cases hw
    obtain ⟨m, hm⟩ : ∃ m : Nat, L.length = m + 1 + i := ⟨L.length - 1 - i, by omega⟩
    have ea : (L.length : Int) - 1 + (i : Int) * (-1) = (m : Int) := by omega
    have em : L.length - i = m + 1 := by omega
    rw [em] at hR
    rw [ea, em]
    obtain ⟨r, hr⟩ : ∃ r, L[m]? = some r := ⟨_, List.getElem?_eq_getElem (by omega)⟩
    have hrm := List.mem_of_getElem? hr
    have hdo := hL.d r hrm
    have hno := hL.n r hrm
    have hob : atI (L.map obD) (m : Int) = some (obD r) := atI_some (by omega) (by rw [Int.toNat_natCast, List.getElem?_map, hr]; rfl)
    walk_at "go"
    rename_i p
    generalize hws : List.replicate (m + 1) (D.lst []) ++ as.map D.ref = ws
    refine forX_inv (fun j en o => ∃ y5, en = [some (.tup [a, b, c, .lst (L.map obD), d, e]), some (.lst (L.map obD)), some (.ref q), some (.int (m : Int)), some (.ref p), y5, y6, y7] ∧ o = (p, .lst (((r.ops.take j).flatMap fun p => calB p.body).map D.str)) :: (q, .lst ws) :: inR as R)
      ⟨_, rfl, rfl⟩ ?_ ?_ (fun _ _ _ _ => trivial)
    · rintro j w en o N2 hw ⟨y5, rfl, rfl⟩ hN2
      rw [List.getElem?_map] at hw
      obtain ⟨x, hx2, rfl⟩ := Option.map_eq_some_iff.mp hw
      have et : (r.ops.take (j + 1)).flatMap (fun p => calB p.body) = (r.ops.take j).flatMap (fun p => calB p.body) ++ calB x.body := by
        rw [List.take_add_one, hx2, List.flatMap_append]
        simp
      have hl2 : ((r.ops.take j).flatMap fun p => calB p.body).length + (calB x.body).length ≤ 50000 := by
        have h := congrArg List.length (congrArg (List.flatMap (fun p : OpR => calB p.body)) (List.take_append_drop (j + 1) r.ops))
        rw [List.flatMap_append, List.length_append, et, List.length_append] at h
        unfold calO at hno
        omega
      generalize (r.ops.take j).flatMap (fun p => calB p.body) = acc at et hl2
      unfold opD
      walk_at "go"
      refine callX_all (w_calledN 10 (b := x.body) (by have := hdo x (List.mem_of_getElem? hx2); omega) (by omega) ?_)
      refine ⟨0, _, (calB x.body).map D.str, rfl, rfl, by simp only [List.length_map]; rw [sizeLine_eq]; omega, ?_⟩
      refine hN2 _ _ _ (.refl _) ⟨_, rfl, ?_⟩
      rw [et, List.map_append]
      rfl
    · rintro en o ⟨y5, rfl, rfl⟩
      rw [List.length_map, List.take_length]
      have hwsa : ∀ (t : Nat) (r' : List Int), R[t]? = some r' → ∃ (a : Addr) (n : Nat), ws[(m + 1) + t]? = some (.ref a) ∧ ((p, OO.lst ((r.ops.flatMap fun p => calB p.body).map D.str)) :: (q, .lst ws) :: inR as R)[n]? = some (a, .lst (r'.map D.int)) := fun t r' h => by
        obtain ⟨a, h1, h2⟩ := inn_row hal h
        refine ⟨a, t + 2, ?_, by simpa using h2⟩
        rw [← hws, List.getElem?_append_right (by rw [List.length_replicate]; omega), List.length_replicate, show m + 1 + t - (m + 1) = t by omega, List.getElem?_map, h1]
        rfl
      have hRn := hR.n
      walk_at "go"
      refine callX_all (w_closR (L := L) (m := m + 1) (R := R) (ws := ws) (ns := calO r) (qn := p) (nn := 0) rfl rfl (qr := q) (nr := 1) rfl rfl hwsa (fun n hn => by
        obtain ⟨i', q1, q2, q3⟩ := hL.e m r hr n hn
        exact ⟨i' - (m + 1), by omega, by rw [q3]; omega⟩) (rowsM_b hL hR) fun ms pc hms => ?_)
      have hmsb : ∀ x ∈ ms, 0 ≤ x ∧ x < 4 := fun x hx => by
        obtain ⟨n', _, t', r', e0, e1, e2⟩ := (hms.2 x).mp hx
        exact rowsM_b hL hR r' (List.mem_of_getElem? e1) x e2
      have hms4 : ms.length ≤ 4 := small4 (hms.1.imp fun {a b} h => Int.ne_of_lt h) hmsb
      have hfl : (ms.filter fun x => decide (x ≠ (m : Int))).length ≤ 4 := Nat.le_trans (List.length_filter_le _ _) hms4
      have hz1 : (ms.map D.int).length ≤ sizeLine := by rw [List.length_map, sizeLine_eq]; omega
      walk_at "go"
      refine lcX_filter (neK (m : Int)) (fun w => w) ⟨0, rfl⟩ (fun w hw kt kf h1 h2 => ?_) ?_
      · obtain ⟨x, hx, rfl⟩ := List.mem_map.mp hw
        walk_at "go"
        · rename_i hb
          exact h1 (decide_eq_true hb)
        · rename_i hb
          exact h2 (decide_eq_false fun z => z hb)
      · rw [List.map_id', neK_filter]
        walk_at "go"
        all_goals try (simp only [List.length_map, List.length_cons, List.length_nil]; rw [sizeLine_eq]; omega)
        refine ⟨(m : Int) :: ms.filter fun x => decide (x ≠ (m : Int)), rfl, fun ns hp hle p2 => ?_⟩
        have hns := clo_new hL hR hr hms hp hle
        have hwl : ws.length = L.length := by rw [← hws, List.length_append, List.length_replicate, List.length_map]; omega
        refine ⟨3, ws, m, rfl, ?_, ?_⟩
        · have h := ixN_some (n := ws.length) (i := (m : Int)) (by omega) (by omega)
          rw [Int.toNat_natCast] at h
          exact h
        · refine hN _ _ ((q, .lst (List.replicate m (D.lst []) ++ (p2 :: as).map D.ref)) :: inR (p2 :: as) (ns :: R)) ?_ ⟨_, _, _, _, _, p2 :: as, ns :: R, rfl, by rw [show L.length - (i + 1) = m by omega], by rw [List.length_cons, List.length_cons, hal], by rw [show L.length - (i + 1) = m by omega]; exact hns⟩
          have ew : ws.set m (.ref p2) = List.replicate m (D.lst []) ++ (p2 :: as).map D.ref := by
            rw [← hws, List.replicate_succ', List.append_assoc, List.set_append_right _ _ (by rw [List.length_replicate]; exact Nat.le_refl _), List.length_replicate, Nat.sub_self]
            rfl
          show WkO ((p2, OO.lst (ns.map D.int)) :: (pc, _) :: (p, _) :: (q, .lst (ws.set m (.ref p2))) :: inR as R) _
          rw [ew]
          refine ⟨[(pc, OO.lst (ms.map D.int)), (p, .lst ((r.ops.flatMap fun p => calB p.body).map D.str))], ?_⟩
          show List.Perm _ ((q, OO.lst _) :: (p2, OO.lst (ns.map D.int)) :: (inR as R ++ _))
          walk_at "perm"
  · rintro en o ⟨y3, y4, y5, y6, y7, as, R, rfl, rfl, hal, hR⟩
    rw [rng_len, Nat.sub_self] at hR
    rw [rng_len, Nat.sub_self]
    walk_at "go"
    exact dropX_id (hk as R hal hR)

end

section
variable {CS : Nat → Addr}
/-! k10: used -/
def HasU (L : List ObR) (ns : List Str) (u : List Int) : Prop := SortedOf u fun x => ∃ n ∈ ns, Rc (edg L) (ixN' L n) x
def InO (L : List ObR) (n : Str) : Prop := ∃ i : Nat, i < L.length ∧ fnd 0 (oNs L) n = (i : Int)
theorem clo_has {L : List ObR} {R : List (List Int)} (hR : RowsM L 0 R) {ns : List Str} (hn : ∀ n ∈ ns, InO L n) {ms : List Int} (h : SortedOf ms (CloN L 0 R ns)) : HasU L ns ms := by
  have hl := hR.n
  refine ⟨h.1, fun x => ?_⟩
  rw [h.2 x]
  constructor
  · rintro ⟨n, h1, t, r, h2, h3, h4⟩
    refine ⟨n, h1, ?_⟩
    have e : ixN' L n = 0 + t := by unfold ixN'; rw [h2]; omega
    rw [e]
    exact ((hR.s t r h3).2 x).mp h4
  · rintro ⟨n, h1, h2⟩
    obtain ⟨i, q1, q2⟩ := hn n h1
    have e : ixN' L n = i := by unfold ixN'; rw [q2]; omega
    rw [e] at h2
    obtain ⟨r, hr⟩ : ∃ r, R[i]? = some r := ⟨_, List.getElem?_eq_getElem (by omega)⟩
    refine ⟨n, h1, i, r, by rw [q2]; omega, hr, ?_⟩
    have := (hR.s i r hr).2 x
    rw [Nat.zero_add] at this
    exact this.mpr h2
/-- what every user reaches -/
def UsN (L : List ObR) (V : List (List Str)) (U : List (List Int)) : Prop := U.length = V.length ∧ ∀ (i : Nat) (ns : List Str) (u : List Int), V[i]? = some ns → U[i]? = some u → HasU L ns u
theorem usN_snoc {L : List ObR} {V : List (List Str)} {U : List (List Int)} {ns : List Str} {u : List Int} (h : UsN L V U) (hu : HasU L ns u) : UsN L (V ++ [ns]) (U ++ [u]) := by
  refine ⟨by rw [List.length_append, List.length_append, h.1]; rfl, fun i ns' u' h1 h2 => ?_⟩
  by_cases hi : i < V.length
  · rw [List.getElem?_append_left hi] at h1
    rw [List.getElem?_append_left (by rw [h.1]; exact hi)] at h2
    exact h.2 i ns' u' h1 h2
  · have := (List.getElem?_eq_some_iff.mp h1).1
    rw [List.length_append, List.length_singleton] at this
    have ei : i = V.length := by omega
    subst ei
    rw [List.getElem?_concat_length] at h1
    rw [← h.1, List.getElem?_concat_length] at h2
    cases h1; cases h2
    exact hu
def vOf (T : List TaR) (I : List InR) : List (List Str) := T.map (fun t => calB t.body) ++ I.map fun r => [r.th]
structure UsW (L : List ObR) (T : List TaR) (I : List InR) : Prop where
  t : ∀ t ∈ T, deB t.body ≤ 9 ∧ (calB t.body).length ≤ 50000 ∧ ∀ n ∈ calB t.body, InO L n
  i : ∀ r ∈ I, InO L r.th
  l : T.length ≤ 100 ∧ I.length ≤ 100
theorem inR_snoc {as : List Addr} {R : List (List Int)} {p : Addr} {r : List Int} (h : as.length = R.length) : inR (as ++ [p]) (R ++ [r]) = inR as R ++ [(p, .lst (r.map D.int))] := by
  unfold inR
  rw [List.map_append]
  exact inn_app (by rw [List.length_map]; exact h)
theorem inR_len {as : List Addr} {R : List (List Int)} (h : as.length = R.length) : (inR as R).length = R.length := by
  unfold inR
  rw [inn_len (by rw [List.length_map]; exact h), List.length_map]
theorem w_used {L : List ObR} {T : List TaR} {I : List InR} {a b c : D} {k : D → Os → Prop} {kx : Kx} (hL : LOk L) (hU : UsW L T I)
    (hk : ∀ (bs : List Addr) (U : List (List Int)), bs.length = U.length → UsN L (vOf T I) U → k (.lst (bs.map D.ref)) (inR bs U)) : T_used CS [.tup [a, b, c, .lst (L.map obD), .lst (T.map taD), .lst (I.map inD')]] [] k kx := by
  obtain ⟨hT, hI, hl1, hl2⟩ := hU
  unfold T_used fnT
  walk_at "go"
  refine callX_none (w_reached hL fun as R hal hR => ?_)
  have hRn := hR.n
  rw [Nat.zero_add] at hRn
  walk_at "go"
  all_goals try (rw [List.length_map, sizeLine_eq]; omega)
  refine lcX_inv (fun j acc o => ∃ (bs : List Addr) (U : List (List Int)), acc = bs.map D.ref ∧ bs.length = U.length ∧ o = inR bs U ++ inR as R ∧ UsN L ((T.take j).map fun t => calB t.body) U) ⟨[], [], rfl, rfl, List.append_nil _, rfl, fun i ns u h => by simp at h⟩ ?_ ?_ (fun _ _ _ _ => trivial)
  · rintro j w acc o N hw ⟨bs, U, rfl, hbl, rfl, hUs⟩ hN
    rw [List.getElem?_map] at hw
    obtain ⟨t, ht, rfl⟩ := Option.map_eq_some_iff.mp hw
    obtain ⟨t1, t2, t3⟩ := hT t (List.mem_of_getElem? ht)
    have hwsa : ∀ (i : Nat) (r' : List Int), R[i]? = some r' → ∃ (a : Addr) (n : Nat), (as.map D.ref)[0 + i]? = some (.ref a) ∧ (inR bs U ++ inR as R)[n]? = some (a, .lst (r'.map D.int)) := fun i r' h => by
      obtain ⟨a, h1, h2⟩ := inn_row hal h
      exact ⟨a, (inR bs U).length + i, by rw [Nat.zero_add, List.getElem?_map, h1]; rfl, app_at h2⟩
    generalize hws : as.map D.ref = ws at hwsa ⊢
    generalize hw : taD t = w
    rw [← hw]
    conv in taD t => unfold taD
    walk_at "go"
    refine callX_all (w_calledN 10 (b := t.body) (by omega) (by omega) ?_)
    walk_at "go"
    refine callX_all (w_closD (L := L) (m := 0) (R := R) (ws := ws) (ns := calB t.body) rfl rfl hwsa (fun n hn => by
        obtain ⟨i', q1, q2⟩ := t3 n hn
        exact ⟨i', by omega, by rw [q2]; omega⟩) (rowsM_b hL hR) fun ms pc hms => ?_)
    refine hN _ _ (inR (bs ++ [pc]) (U ++ [ms]) ++ inR as R) ?_ ⟨bs ++ [pc], U ++ [ms], by rw [List.map_append]; rfl, by rw [List.length_append, List.length_append, hbl]; rfl, rfl, ?_⟩
    · rw [inR_snoc hbl]
      refine WkO.perm ?_
      walk_at "perm"
    · rw [List.take_add_one, ht, List.map_append]
      exact usN_snoc hUs (clo_has hR t3 hms)
  · rintro acc o ⟨bs, U, rfl, hbl, rfl, hUs⟩
    rw [List.length_map, List.take_length] at hUs
    walk_at "go"
    rename_i q
    refine forX_inv (fun j en o => ∃ (y4 y5 : Option D) (bs : List Addr) (U : List (List Int)), en = [some (.tup [a, b, c, .lst (L.map obD), .lst (T.map taD), .lst (I.map inD')]), some (.lst (as.map D.ref)), some (.lst (L.map obD)), some (.ref q), y4, y5] ∧ o = (q, .lst (bs.map D.ref)) :: (inR bs U ++ inR as R) ∧ bs.length = U.length ∧ UsN L (T.map (fun t => calB t.body) ++ (I.take j).map fun r => [r.th]) U)
      ⟨_, _, bs, U, rfl, rfl, hbl, by simpa using hUs⟩ ?_ ?_ (fun _ _ _ _ => trivial)
    · clear hUs hbl
      rintro j w en o N hw ⟨y4, y5, bs, U, rfl, rfl, hbl, hUs⟩ hN
      rw [List.getElem?_map] at hw
      obtain ⟨x, hx, rfl⟩ := Option.map_eq_some_iff.mp hw
      obtain ⟨i, q1, q2⟩ := hI x (List.mem_of_getElem? hx)
      obtain ⟨r, hr⟩ : ∃ r, R[i]? = some r := ⟨_, List.getElem?_eq_getElem (by omega)⟩
      obtain ⟨ra, h1, h2⟩ := inn_row hal hr
      have hat : atI (as.map D.ref) (i : Int) = some (.ref ra) := atI_some (by omega) (by rw [Int.toNat_natCast, List.getElem?_map, h1]; rfl)
      have hUl := hUs.1
      have hjl : j < I.length := (List.getElem?_eq_some_iff.mp hx).1
      rw [List.length_append, List.length_map, List.length_map, List.length_take] at hUl
      have hz : (bs.map D.ref).length < sizeLine := by rw [List.length_map, sizeLine_eq]; omega
      have hpos : ((q, OO.lst (bs.map D.ref)) :: (inR bs U ++ inR as R))[(inR bs U).length + i + 1]? = some (ra, .lst (r.map D.int)) := by rw [List.getElem?_cons_succ]; exact app_at h2
      generalize hw : inD' x = w
      rw [← hw]
      conv in inD' x => unfold inD'
      walk_at "go"
      refine callX_all (w_find (nm_obs L) ?_)
      rw [q2]
      refine ⟨_, hat, ?_⟩
      refine ⟨_, _, hpos, fun pl => ?_⟩
      refine ⟨1, _, rfl, hz, ?_⟩
      refine hN _ _ ((q, .lst ((bs ++ [pl]).map D.ref)) :: (inR (bs ++ [pl]) (U ++ [r]) ++ inR as R)) ?_ ⟨_, _, bs ++ [pl], U ++ [r], rfl, rfl, by rw [List.length_append, List.length_append, hbl]; rfl, ?_⟩
      · rw [inR_snoc hbl, List.map_append]
        refine WkO.perm ?_
        show List.Perm ((pl, OO.lst (r.map D.int)) :: (q, .lst (bs.map D.ref ++ [.ref pl])) :: (inR bs U ++ inR as R)) ((q, .lst (bs.map D.ref ++ [.ref pl])) :: (inR bs U ++ [(pl, .lst (r.map D.int))] ++ inR as R))
        walk_at "perm"
      · rw [List.take_add_one, hx, List.map_append, ← List.append_assoc]
        refine usN_snoc hUs ?_
        have := hR.s i r hr
        rw [Nat.zero_add] at this
        refine ⟨this.1, fun v => ?_⟩
        rw [this.2 v]
        have e : ixN' L x.th = i := by unfold ixN'; rw [q2]; omega
        exact ⟨fun h => ⟨_, List.mem_singleton.mpr rfl, by rw [e]; exact h⟩, fun ⟨t, h1, h2⟩ => by rcases List.mem_singleton.mp h1 with rfl; rw [e] at h2; exact h2⟩
    · clear hUs hbl
      rintro en o ⟨y4, y5, bs, U, rfl, rfl, hbl, hUs⟩
      rw [List.length_map, List.take_length] at hUs
      walk_at "go"
      exact dropX_wk .left (hk bs U hbl hUs)

end

section
variable {CS : Nat → Addr}
/-! k10: the law's own way: growing -/
structure Grow (L : List ObR) (F F' : List Int) : Prop where
  nd : F'.Nodup
  sub : ∀ x ∈ F, x ∈ F'
  rc : ∀ x ∈ F', ∃ i : Nat, (i : Int) ∈ F ∧ Rc (edg L) i x
  lt : ∀ x ∈ F', 0 ≤ x ∧ x < L.length
def ClosedAt (L : List ObR) (F' : List Int) (a : Nat) : Prop := ∀ r, L[a]? = some r → ∀ n ∈ calO r, ((ixN' L n : Nat) : Int) ∈ F'
theorem rc_snoc {T : List (List Nat)} {i a t : Nat} {ts : List Nat} (h : Rc T i (a : Int)) (h1 : T[a]? = some ts) (h2 : t ∈ ts) : Rc T i (t : Int) := by
  generalize hx : (a : Int) = x at h
  induction h with
  | self k =>
    have : k = a := by omega
    subst this
    exact .step h1 h2 (.self t)
  | step g1 g2 g3 ih => exact .step g1 g2 (ih hx)
theorem grow_add {L : List ObR} (hL : LOk L) {F F' : List Int} (g : Grow L F F') {a : Nat} {r : ObR} {n : Str} (hr : L[a]? = some r) (ha : (a : Int) ∈ F') (hn : n ∈ calO r) (hx : ((ixN' L n : Nat) : Int) ∉ F') : Grow L F (F' ++ [((ixN' L n : Nat) : Int)]) ∧ (a : Int) < (ixN' L n : Nat) := by
  obtain ⟨i, q1, q2, q3⟩ := hL.e a r hr n hn
  have e : ixN' L n = i := by unfold ixN'; rw [q3]; omega
  refine ⟨⟨?_, fun x h => List.mem_append_left _ (g.sub x h), fun x h => ?_, fun x h => ?_⟩, by rw [e]; omega⟩
  · rw [List.nodup_append]
    refine ⟨g.nd, by simp, ?_⟩
    intro x h1 y h2
    rcases List.mem_singleton.mp h2 with rfl
    exact fun e => hx (e ▸ h1)
  · rcases List.mem_append.mp h with h | h
    · exact g.rc x h
    · rcases List.mem_singleton.mp h with rfl
      obtain ⟨i0, h1, h2⟩ := g.rc _ ha
      exact ⟨i0, h1, rc_snoc h2 (edg_at hr) (List.mem_map.mpr ⟨n, hn, rfl⟩)⟩
  · rcases List.mem_append.mp h with h | h
    · exact g.lt x h
    · rcases List.mem_singleton.mp h with rfl
      rw [e]
      omega
theorem grow_len {L : List ObR} (hL : LOk L) {F F' : List Int} (g : Grow L F F') : F'.length ≤ 4 := small4 g.nd fun x hx => by have := g.lt x hx; have := hL.l; omega
theorem grow_end {L : List ObR} {F F' : List Int} (g : Grow L F F') (hc : ∀ a : Nat, (a : Int) ∈ F' → ClosedAt L F' a) (x : Int) : x ∈ F' ↔ ∃ i : Nat, (i : Int) ∈ F ∧ Rc (edg L) i x := by
  constructor
  · exact g.rc x
  · rintro ⟨i, h0, h2⟩
    have h1 := g.sub _ h0
    clear h0
    induction h2 with
    | self k => exact h1
    | @step k t ts x g1 g2 g3 ih =>
      refine ih ?_
      have hk : k < L.length := by have := (List.getElem?_eq_some_iff.mp g1).1; rwa [edg_len] at this
      obtain ⟨r, hr⟩ : ∃ r, L[k]? = some r := ⟨_, List.getElem?_eq_getElem hk⟩
      rw [edg_at hr] at g1
      cases g1
      obtain ⟨n, hn, rfl⟩ := List.mem_map.mp g2
      exact hc k h1 r hr n hn
theorem ix_of {L : List ObR} (hnd : (oNs L).Nodup) {o : Nat} {r : ObR} (h : L[o]? = some r) : ixN' L (oN r.j) = o := by
  have key : ∀ (ns : List Str) (i : Int) (o : Nat) (x : Str), ns.Nodup → ns[o]? = some x → fnd i ns x = i + o := fun ns => by
    induction ns with
    | nil => intro i o x _ h; simp at h
    | cons n ns ih =>
      intro i o x hn h
      rw [List.nodup_cons] at hn
      cases o with
      | zero =>
        have : n = x := by simpa using h
        subst this
        rw [fnd, if_pos rfl]
        simp
      | succ o =>
        have h2 : ns[o]? = some x := by simpa using h
        rw [fnd, if_neg (fun e => hn.1 (by rw [e]; exact List.mem_of_getElem? h2)), ih _ o x hn.2 h2]
        omega
  have := key (oNs L) 0 o (oN r.j) hnd (by rw [List.getElem?_map, h]; rfl)
  unfold ixN'
  rw [this]
  omega
theorem fnd_hit : ∀ {ns : List Str} {i : Int} {t : Nat} {x : Str}, 0 ≤ i → fnd i ns x = i + t → ns[t]? = some x
  | [], i, t, x, h0, h => by rw [fnd] at h; omega
  | n :: ns, i, t, x, h0, h => by
    rw [fnd] at h
    by_cases e : n = x
    · rw [if_pos e] at h
      have : t = 0 := by omega
      subst this
      rw [e]; rfl
    · rw [if_neg e] at h
      cases t with
      | zero =>
        exfalso
        have key : ∀ (ns : List Str) (i : Int), fnd i ns x = -1 ∨ i ≤ fnd i ns x := fun ns => by
          induction ns with
          | nil => intro i; exact .inl rfl
          | cons a ns ih =>
            intro i
            rw [fnd]
            split
            · right; omega
            · rcases ih (i + 1) with h | h
              · exact .inl h
              · right; omega
        rcases key ns (i + 1) with h2 | h2 <;> omega
      | succ t =>
        have := fnd_hit (ns := ns) (i := i + 1) (t := t) (x := x) (by omega) (by omega)
        simpa using this
theorem w_grow {L : List ObR} {a b c d e : D} {f : Addr} {F : List Int} {o : Os} {k : D → Os → Prop} {kx : Kx} (hL : LOk L) (hnd : (oNs L).Nodup) (hF : F.Nodup) (hFl : ∀ x ∈ F, 0 ≤ x ∧ x < L.length)
    (hk : ∀ ms : List Int, SortedOf ms (fun x => ∃ i : Nat, (i : Int) ∈ F ∧ Rc (edg L) i x) → k (.lst (ms.map D.int)) o) : T__law_grow CS [.tup [a, b, c, .lst (L.map obD), d, e], .ref f] ((f, .lst (F.map D.int)) :: o) k kx := by
  have h4 := hL.l
  have hml : (L.map obD).length = L.length := List.length_map ..
  have hzl : (L.map obD).length ≤ sizeLine := by rw [hml, sizeLine_eq]; omega
  have g0 : Grow L F F := ⟨hF, fun x h => h, fun x h => by obtain ⟨n, hn⟩ : ∃ n : Nat, x = n := ⟨x.toNat, by have := hFl x h; omega⟩; subst hn; exact ⟨n, h, .self n⟩, hFl⟩
  unfold T__law_grow fnT
  walk_at "go"
  refine forX_inv (fun i en os => ∃ (y2 y3 y4 y5 y6 : Option D) (F' : List Int), en = [some (.tup [a, b, c, .lst (L.map obD), d, e]), some (.ref f), y2, y3, y4, y5, y6] ∧ os = (f, .lst (F'.map D.int)) :: o ∧ Grow L F F' ∧ (0 < i → ∀ x : Nat, (x : Int) ∈ F' → ClosedAt L F' x)) ⟨_, _, _, _, _, F, rfl, rfl, g0, fun h => absurd h (by decide)⟩ ?_ ?_ (fun _ _ _ _ => trivial)
  · rintro i w en os N hw ⟨y2, y3, y4, y5, y6, F', rfl, rfl, g, _⟩ hN
    walk_at "go"
    refine forX_inv (fun j en os => ∃ (y2 y3 y4 y5 y6 : Option D) (F' : List Int), en = [some (.tup [a, b, c, .lst (L.map obD), d, e]), some (.ref f), y2, y3, y4, y5, y6] ∧ os = (f, .lst (F'.map D.int)) :: o ∧ Grow L F F' ∧ (∀ x : Nat, x < j → (x : Int) ∈ F' → ClosedAt L F' x)) ⟨_, _, _, _, _, F', rfl, rfl, g, fun x h => absurd h (by omega)⟩ ?_ ?_ (fun _ _ _ _ => trivial)
    · clear g
      rintro j w en os N2 hw ⟨y2, y3, y4, y5, y6, F', rfl, rfl, g, hcl⟩ hN2
      obtain ⟨rfl, hj⟩ := rng_at hw
      have hj2 : j < L.length := by rw [hml] at hj; simpa using hj
      clear hj
      have e0 : (0 : Int) + (j : Nat) * 1 = (j : Nat) := by omega
      rw [e0]
      obtain ⟨r, hr⟩ : ∃ r, L[j]? = some r := ⟨_, List.getElem?_eq_getElem hj2⟩
      have hob : atI (L.map obD) (j : Int) = some (obD r) := atI_some (by omega) (by rw [Int.toNat_natCast, List.getElem?_map, hr]; rfl)
      walk_at "go"
      · rename_i hb
        rw [inD_ints] at hb
        have hjm : (j : Int) ∈ F' := of_decide_eq_true hb
        have hstep : ∀ (F2 : List Int), Grow L F F2 → (∀ x ∈ F', x ∈ F2) → (∀ x ∈ F2, x ∈ F' ∨ (j : Int) < x) → ClosedAt L F2 j → ∀ x : Nat, x < j + 1 → (x : Int) ∈ F2 → ClosedAt L F2 x := fun F2 g2 s1 s2 s3 x hx hm => by
          by_cases hxj : x = j
          · subst hxj; exact s3
          · rcases s2 x hm with h | h
            · exact fun r hr n hn => s1 _ (hcl x (by omega) h r hr n hn)
            · omega
        refine forX_inv (fun l en os => ∃ (y3 y4 y5 y6 : Option D) (F2 : List Int), en = [some (.tup [a, b, c, .lst (L.map obD), d, e]), some (.ref f), y2, some (.int (j : Nat)), y4, y5, y6] ∧ os = (f, .lst (F2.map D.int)) :: o ∧ Grow L F F2 ∧ (∀ x ∈ F', x ∈ F2) ∧ (∀ x ∈ F2, x ∈ F' ∨ (j : Int) < x) ∧ ∀ p ∈ r.ops.take l, ∀ n ∈ calB p.body, ((ixN' L n : Nat) : Int) ∈ F2) ⟨none, _, _, _, F', rfl, rfl, g, fun x h => h, fun x h => .inl h, fun p h => by simp at h⟩ ?_ ?_ (fun _ _ _ _ => trivial)
        · clear g hcl hb
          rintro l w en os N3 hw ⟨_, y4, y5, y6, F2, rfl, rfl, g, s1, s2, s3⟩ hN3
          rw [List.getElem?_map] at hw
          obtain ⟨p, hp, rfl⟩ := Option.map_eq_some_iff.mp hw
          have hpm := List.mem_of_getElem? hp
          have hpd := hL.d r (List.mem_of_getElem? hr) p hpm
          have hcm : ∀ n ∈ calB p.body, n ∈ calO r := fun n hn => List.mem_flatMap.mpr ⟨p, hpm, hn⟩
          have hpn : (calB p.body).length ≤ 50000 := by
            have h1 := hL.n r (List.mem_of_getElem? hr)
            have h2 : (calB p.body).length ≤ (calO r).length := by
              obtain ⟨sx, tx, e⟩ := List.append_of_mem hpm
              unfold calO
              rw [e, List.flatMap_append, List.flatMap_cons, List.length_append, List.length_append]
              omega
            omega
          unfold opD
          walk_at "go"
          refine callX_all (w_namesN 10 (b := p.body) (by omega) (by omega) ?_)
          walk_at "go"
          refine forX_inv (fun v en os => ∃ (y3 y5 y6 : Option D) (F3 : List Int), en = [some (.tup [a, b, c, .lst (L.map obD), d, e]), some (.ref f), y2, some (.int (j : Nat)), y3, y5, y6] ∧ os = (f, .lst (F3.map D.int)) :: o ∧ Grow L F F3 ∧ (∀ x ∈ F2, x ∈ F3) ∧ (∀ x ∈ F3, x ∈ F' ∨ (j : Int) < x) ∧ ∀ n ∈ (calB p.body).take v, ((ixN' L n : Nat) : Int) ∈ F3) ⟨_, _, _, F2, rfl, rfl, g, fun x h => h, s2, fun p h => by simp at h⟩ ?_ ?_ (fun _ _ _ _ => trivial)
          · rintro v w en os N4 hw ⟨y3, y5, y6, F3, rfl, rfl, g3, t1, t2, t3⟩ hN4
            rw [List.getElem?_map] at hw
            obtain ⟨n, hn, rfl⟩ := Option.map_eq_some_iff.mp hw
            have hnm := List.mem_of_getElem? hn
            obtain ⟨ti, q1, q2, q3⟩ := hL.e j r hr n (hcm n hnm)
            have eti : ixN' L n = ti := by unfold ixN'; rw [q3]; omega
            walk_at "go"
            refine forX_inv (fun u en os => ∃ (y6 : Option D) (F4 : List Int), en = [some (.tup [a, b, c, .lst (L.map obD), d, e]), some (.ref f), y2, some (.int (j : Nat)), y3, some (.str n), y6] ∧ os = (f, .lst (F4.map D.int)) :: o ∧ Grow L F F4 ∧ (∀ x ∈ F3, x ∈ F4) ∧ (∀ x ∈ F4, x ∈ F' ∨ (j : Int) < x) ∧ (ti < u → ((ti : Nat) : Int) ∈ F4)) ⟨_, F3, rfl, rfl, g3, fun x h => h, t2, fun h => absurd h (by omega)⟩ ?_ ?_ (fun _ _ _ _ => trivial)
            · rintro u w en os N5 hw ⟨y6, F4, rfl, rfl, g4, v1, v2, v3⟩ hN5
              obtain ⟨rfl, hu⟩ := rng_at hw
              have hu2 : u < L.length := by rw [hml] at hu; simpa using hu
              clear hu
              have e0 : (0 : Int) + (u : Nat) * 1 = (u : Nat) := by omega
              rw [e0]
              obtain ⟨ru, hru⟩ : ∃ ru, L[u]? = some ru := ⟨_, List.getElem?_eq_getElem hu2⟩
              have hou : atI (L.map obD) (u : Int) = some (obD ru) := atI_some (by omega) (by rw [Int.toNat_natCast, List.getElem?_map, hru]; rfl)
              have hzF : (F4.map D.int).length < sizeLine := by have := grow_len hL g4; rw [List.length_map, sizeLine_eq]; omega
              have hio := ix_of hnd hru
              walk_at "go"
              · rename_i hb1 hb2
                rw [inD_ints] at hb2
                rw [hb1, eti] at hio
                have hnot := of_decide_eq_false hb2
                obtain ⟨ga, gb⟩ := grow_add hL g4 hr (v1 _ (t1 _ (s1 _ hjm))) (hcm n hnm) (by rw [eti, hio]; exact hnot)
                rw [eti, hio] at ga gb
                refine hN5 _ _ _ (.refl _) ⟨_, F4 ++ [(u : Int)], rfl, by rw [List.map_append]; rfl, ga, fun x h => List.mem_append_left _ (v1 x h), fun x h => ?_, fun _ => by rw [hio]; simp⟩
                rcases List.mem_append.mp h with h | h
                · exact v2 x h
                · rcases List.mem_singleton.mp h with rfl
                  exact .inr gb
              · rename_i hb1 hb2
                rw [inD_ints] at hb2
                rw [hb1, eti] at hio
                refine hN5 _ _ _ (.refl _) ⟨_, F4, rfl, rfl, g4, v1, v2, fun _ => by rw [hio]; exact of_decide_eq_true hb2⟩
              · rename_i hb1
                refine hN5 _ _ _ (.refl _) ⟨_, F4, rfl, rfl, g4, v1, v2, fun h => v3 ?_⟩
                have hne : ti ≠ u := fun e => by
                  subst e
                  have := fnd_hit (ns := oNs L) (i := 0) (t := ti) (x := n) (by omega) (by rw [q3]; omega)
                  rw [List.getElem?_map, hru] at this
                  exact hb1 (Option.some.inj this)
                omega
            · rintro en os ⟨y6, F4, rfl, rfl, g4, v1, v2, v3⟩
              rw [rng_len, hml] at v3
              have v3 := v3 (by omega)
              refine hN4 _ _ _ (.refl _) ⟨_, _, _, F4, rfl, rfl, g4, fun x h => v1 x (t1 x h), v2, fun n' hn' => ?_⟩
              rw [List.take_add_one, hn] at hn'
              rcases List.mem_append.mp hn' with h | h
              · exact v1 _ (t3 n' h)
              · have : n' = n := by simpa using h
                subst this
                rw [eti]
                exact v3
          · rintro en os ⟨y3, y5, y6, F3, rfl, rfl, g3, t1, t2, t3⟩
            rw [List.length_map, List.take_length] at t3
            refine hN3 _ _ _ (.refl _) ⟨none, _, _, _, F3, rfl, rfl, g3, fun x h => t1 x (s1 x h), t2, fun p' hp' n' hn' => ?_⟩
            rw [List.take_add_one, hp] at hp'
            rcases List.mem_append.mp hp' with h | h
            · exact t1 _ (s3 p' h n' hn')
            · have : p' = p := by simpa using h
              subst this
              exact t3 n' hn'
        · clear g
          rintro en os ⟨_, y4, y5, y6, F2, rfl, rfl, g, s1, s2, s3⟩
          rw [List.length_map, List.take_length] at s3
          refine hN2 _ _ _ (.refl _) ⟨_, _, _, _, _, F2, rfl, rfl, g, hstep F2 g s1 s2 fun r' hr' n hn => ?_⟩
          rw [hr] at hr'
          cases hr'
          obtain ⟨p, hp, hn⟩ := List.mem_flatMap.mp hn
          exact s3 p hp n hn
      · rename_i hb
        rw [inD_ints] at hb
        refine hN2 _ _ _ (.refl _) ⟨_, _, _, _, _, F', rfl, rfl, g, fun x hx hm => ?_⟩
        by_cases hxj : x = j
        · subst hxj; exact absurd hm (of_decide_eq_false hb)
        · exact hcl x (by omega) hm
    · clear g
      rintro en os ⟨y2, y3, y4, y5, y6, F', rfl, rfl, g, hcl⟩
      rw [rng_len, hml] at hcl
      exact hN _ _ _ (.refl _) ⟨_, _, _, _, _, F', rfl, rfl, g, fun _ x hx => hcl x (by have := g.lt x hx; omega) hx⟩
  · rintro en os ⟨y2, y3, y4, y5, y6, F', rfl, rfl, g, hcl⟩
    have hcl := hcl (by decide)
    walk_at "go"
    intro ms hp hle
    refine dropX_wk .drop1 (hk ms ⟨sorted_strict hp hle g.nd, fun x => ?_⟩)
    rw [hp.mem_iff]
    exact grow_end g hcl x

end

section
variable {CS : Nat → Addr}
/-! k10: drawn programs -/
def gS : Nat → Nat
  | 0 => 1
  | n + 1 => 2 * ((n + 1) * gS n) + 1
theorem gS_pos (n : Nat) : 1 ≤ gS n := by cases n <;> rw [gS] <;> omega
mutual
theorem st_cal : ∀ {E : GEnv} {n : Nat} {s : St}, StOk E n s → (∀ x ∈ calS s, ∃ c ∈ E.calls, c.1 = x) ∧ deS s ≤ n ∧ (calS s).length ≤ gS n
  | E, n, .set p e, h => by
    rw [calS, deS]
    exact ⟨(fun x hx => nomatch hx), Nat.zero_le _, Nat.zero_le _⟩
  | E, n, .write x e, h => by
    rw [calS, deS]
    exact ⟨(fun x hx => nomatch hx), Nat.zero_le _, Nat.zero_le _⟩
  | E, n, .read p x, h => by
    rw [calS, deS]
    exact ⟨(fun x hx => nomatch hx), Nat.zero_le _, Nat.zero_le _⟩
  | E, n, .call p th op args, h => by
    rw [StOk] at h
    rw [calS, deS]
    refine ⟨fun x hx => ?_, Nat.zero_le _, gS_pos n⟩
    rcases List.mem_singleton.mp hx with rfl
    exact ⟨_, h.1, rfl⟩
  | E, n, .iff c a b, h => by
    rw [StOk] at h
    obtain ⟨m, rfl, _, h1, h2⟩ := h
    obtain ⟨a1, a2, a3⟩ := bd_cal h1
    obtain ⟨b1, b2, b3⟩ := bd_cal h2
    have la := bdOk_len h1
    have lb := bdOk_len h2
    rw [calS, deS]
    refine ⟨fun x hx => ?_, by omega, ?_⟩
    · rcases List.mem_append.mp hx with hx | hx
      · exact a1 x hx
      · exact b1 x hx
    · rw [List.length_append, gS]
      have := Nat.mul_le_mul_right (gS m) la
      have := Nat.mul_le_mul_right (gS m) lb
      omega
  | E, n, .loop x k t b, h => by
    rw [StOk] at h
    obtain ⟨m, rfl, _, _, _, _, _, h2⟩ := h
    obtain ⟨b1, b2, b3⟩ := bd_cal h2
    have lb := bdOk_len h2
    rw [calS, deS]
    refine ⟨b1, by omega, ?_⟩
    rw [gS]
    have := Nat.mul_le_mul_right (gS m) lb
    omega
theorem bd_cal : ∀ {E : GEnv} {n : Nat} {b : List St}, BdOk E n b → (∀ x ∈ calB b, ∃ c ∈ E.calls, c.1 = x) ∧ deB b ≤ n ∧ (calB b).length ≤ b.length * gS n
  | E, n, [], _ => by
    rw [calB, deB]
    exact ⟨(fun x hx => nomatch hx), Nat.zero_le _, Nat.zero_le _⟩
  | E, n, s :: b, h => by
    rw [BdOk] at h
    obtain ⟨h1, h2, h3⟩ := h
    obtain ⟨a1, a2, a3⟩ := st_cal h1
    obtain ⟨b1, b2, b3⟩ := bd_cal h3
    rw [calB, deB]
    refine ⟨fun x hx => ?_, by omega, ?_⟩
    · rcases List.mem_append.mp hx with hx | hx
      · exact a1 x hx
      · exact b1 x hx
    · rw [List.length_append, List.length_cons, Nat.succ_mul]
      omega
end
theorem oN_apart : ∀ m < 4, ∀ n < 4, m ≠ n → oN m ≠ oN n := by decide +kernel
theorem fnd_nd : ∀ {ns : List Str} {i : Int} {o : Nat} {x : Str}, ns.Nodup → ns[o]? = some x → fnd i ns x = i + o
  | [], _, _, _, _, h => by simp at h
  | n :: ns, i, 0, x, _, h => by
    have : n = x := by simpa using h
    subst this
    rw [fnd, if_pos rfl]
    simp
  | n :: ns, i, o + 1, x, hn, h => by
    rw [List.nodup_cons] at hn
    have h2 : ns[o]? = some x := by simpa using h
    rw [fnd, if_neg (fun e => hn.1 (by rw [e]; exact List.mem_of_getElem? h2)), fnd_nd hn.2 h2]
    omega
theorem idx_map {α : Type} {l : List α} {f : α → Str} {g : Nat → Str} (h : ∀ (k : Nat) (a : α), l[k]? = some a → f a = g k) : l.map f = (List.range l.length).map g := by
  refine List.ext_getElem (by simp) fun i h1 h2 => ?_
  rw [List.length_map] at h1
  rw [List.getElem_map, List.getElem_map, List.getElem_range, h i l[i] (List.getElem?_eq_getElem h1)]
theorem obs_names {P : PrR} (h : PrOk 3 3 P) : oNs P.obs.reverse = ((List.range P.obs.length).map oN).reverse := by
  unfold oNs
  rw [List.map_reverse]
  exact congrArg List.reverse (idx_map fun k a ha => by rw [(h.o.2.o k a ha).1])
theorem all_nd : ∀ n < 4, (((List.range n).map oN).reverse).Nodup ∧ ((List.range n).map tN).Nodup ∧ ((List.range n).map pN').Nodup ∧ ("nobody" : Str) ∉ ((List.range n).map oN).reverse ∧ ("nobody" : Str) ∉ (List.range n).map tN ∧ ("nobody" : Str) ∉ (List.range n).map pN' := by decide +kernel
theorem obs_nd' {P : PrR} (h : PrOk 3 3 P) : (oNs P.obs.reverse).Nodup := by rw [obs_names h]; exact (all_nd _ (by have := h.o.1; omega)).1
/-- object i, drawn as number i, stands at place n - 1 - i -/
theorem obs_at {P : PrR} (h : PrOk 3 3 P) {i : Nat} (hi : i < P.obs.length) : fnd 0 (oNs P.obs.reverse) (oN i) = ((P.obs.length - 1 - i : Nat) : Int) := by
  have := fnd_nd (i := 0) (o := P.obs.length - 1 - i) (x := oN i) (obs_nd' h) (by
    rw [obs_names h, List.getElem?_reverse (by rw [List.length_map, List.length_range]; omega), List.length_map, List.length_range, List.getElem?_map, show P.obs.length - 1 - (P.obs.length - 1 - i) = i by omega, List.getElem?_range hi]
    rfl)
  rw [this]
  omega
theorem calls_in {P : PrR} (h : PrOk 3 3 P) {j : Nat} {c : Str × Str × Int} (hc : c ∈ (P.obs.take j).flatMap callsOf) : ∃ i, i < j ∧ i < P.obs.length ∧ c.1 = oN i := by
  obtain ⟨r, hr, hc⟩ := List.mem_flatMap.mp hc
  obtain ⟨i, hi⟩ := List.mem_iff_getElem?.mp hr
  have hil := (List.getElem?_eq_some_iff.mp hi).1
  rw [List.length_take] at hil
  rw [List.getElem?_take_of_lt (by omega)] at hi
  obtain ⟨p, hp, rfl⟩ := List.mem_map.mp hc
  exact ⟨i, by omega, by omega, by show oN r.j = oN i; rw [(h.o.2.o i r hi).1]⟩
theorem pr_lok {P : PrR} (h : PrOk 3 3 P) : LOk P.obs.reverse := by
  have h3 := h.o.1
  have key : ∀ (k : Nat) (r : ObR), P.obs.reverse[k]? = some r → ∃ j, j = P.obs.length - 1 - k ∧ k < P.obs.length ∧ P.obs[j]? = some r := fun k r hr => by
    have hk := (List.getElem?_eq_some_iff.mp hr).1
    rw [List.length_reverse] at hk
    rw [List.getElem?_reverse hk] at hr
    exact ⟨_, rfl, hk, hr⟩
  have ops : ∀ r ∈ P.obs.reverse, ∀ p ∈ r.ops, ∃ E : GEnv, BdOk E 1 p.body := fun r hr p hp => by
    obtain ⟨k, hk⟩ := List.mem_iff_getElem?.mp hr
    obtain ⟨j, _, _, hj⟩ := key k r hk
    obtain ⟨q, hq⟩ := List.mem_iff_getElem?.mp hp
    exact ⟨_, ((h.o.2.o j r hj).2.o q p hq).2.b⟩
  refine ⟨by rw [List.length_reverse]; omega, fun k r hr n hn => ?_, fun r hr p hp => ?_, fun r hr => ?_⟩
  · obtain ⟨j, rfl, hk, hj⟩ := key k r hr
    obtain ⟨p, hp, hn⟩ := List.mem_flatMap.mp hn
    obtain ⟨q, hq⟩ := List.mem_iff_getElem?.mp hp
    obtain ⟨c, hc, rfl⟩ := (bd_cal ((h.o.2.o _ r hj).2.o q p hq).2.b).1 n hn
    obtain ⟨i, i1, i2, i3⟩ := calls_in h hc
    refine ⟨P.obs.length - 1 - i, by omega, by rw [List.length_reverse]; omega, ?_⟩
    rw [i3]
    exact obs_at h i2
  · obtain ⟨E, hb⟩ := ops r hr p hp
    have := (bd_cal hb).2.1
    omega
  · obtain ⟨k, hk⟩ := List.mem_iff_getElem?.mp hr
    obtain ⟨j, _, _, hj⟩ := key k r hk
    have hol := (h.o.2.o j r hj).2.n
    have hl : ∀ l : List OpR, (∀ p ∈ l, p ∈ r.ops) → (l.flatMap fun p => calB p.body).length ≤ l.length * 100 := fun l => by
      induction l with
      | nil => intro _; exact Nat.zero_le _
      | cons p l ih =>
        intro hm
        obtain ⟨E, hb⟩ := ops r hr p (hm p (.head _))
        have h1 := (bd_cal hb).2.2
        have h2 := bdOk_len hb
        have h3 : p.body.length * gS 1 ≤ 2 * gS 1 := Nat.mul_le_mul_right _ h2
        have h4 : gS 1 = 3 := by decide
        have := ih fun q hq => hm q (.tail _ hq)
        rw [List.flatMap_cons, List.length_append, List.length_cons, Nat.succ_mul]
        omega
    have := hl r.ops fun p hp => hp
    unfold calO
    omega
theorem pr_usw {P : PrR} (h : PrOk 3 3 P) : UsW P.obs.reverse P.tasks P.intr := by
  refine ⟨fun t ht => ?_, fun r hr => ?_, by have := h.t.2.1; have := h.i.1; omega⟩
  · obtain ⟨k, hk⟩ := List.mem_iff_getElem?.mp ht
    have hb := ((h.t.2.2 k t hk).2).o
    obtain ⟨b1, b2, b3⟩ := bd_cal hb
    have h2 := bdOk_len hb
    have h3 : t.body.length * gS 2 ≤ 3 * gS 2 := Nat.mul_le_mul_right _ h2
    have h4 : gS 2 = 13 := by decide
    refine ⟨by omega, by omega, fun n hn => ?_⟩
    obtain ⟨c, hc, rfl⟩ := b1 n hn
    obtain ⟨i, i1, i2, i3⟩ := calls_in h (j := P.obs.length) (c := c) (by rw [List.take_length]; exact hc)
    refine ⟨P.obs.length - 1 - i, by rw [List.length_reverse]; omega, ?_⟩
    rw [i3]
    exact obs_at h i2
  · obtain ⟨i, i1, i2, i3⟩ := calls_in h (j := P.obs.length) (c := (r.th, r.op, (r.args.length : Int))) (by rw [List.take_length]; exact (h.i.2 r hr).c)
    refine ⟨P.obs.length - 1 - i, by rw [List.length_reverse]; omega, ?_⟩
    have i3 : r.th = oN i := i3
    rw [i3]
    exact obs_at h i2

end

section
variable {CS : Nat → Addr}
/-! k10: the law -/
theorem inD_strs {z : Str} : ∀ ys : List Str, inD (.str z) (ys.map D.str) = decide (z ∈ ys)
  | [] => by simp [inD, inV]
  | n :: ns => by
    have h := inD_strs (z := z) ns
    unfold inD inV at h ⊢
    rw [List.map_cons, List.map_cons, List.any_cons, h]
    by_cases e : n = z
    · subst e; simp [eqV, scalD]
    · have e' : z ≠ n := fun x => e x.symm
      simp [eqV, scalD, e, e']
abbrev RS (R : List (List Int)) : List D := R.map fun r => D.lst (r.map D.int)
theorem scal_strs (ns : List Str) : (ns.map D.str).all isScal = true := List.all_eq_true.mpr fun d hd => by
  obtain ⟨x, _, rfl⟩ := List.mem_map.mp hd
  rfl
def rgI (n : Nat) : List Int := (List.range n).map fun k : Nat => (k : Int)
theorem rgI_succ (n : Nat) : (rgI (n + 1)).map D.int = (rgI n).map D.int ++ [.int (n : Nat)] := by
  unfold rgI
  rw [List.range_succ, List.map_append, List.map_append]
  rfl
theorem w_start {L : List ObR} {a b c d e : D} {ns : List Str} {o : Os} {k : D → Os → Prop} {kx : Kx} (hL : LOk L) (hnd : (oNs L).Nodup) (hn : ∀ n ∈ ns, InO L n)
    (hk : ∀ ms : List Int, HasU L ns ms → k (.lst (ms.map D.int)) o) : T__law_start CS [.tup [a, b, c, .lst (L.map obD), d, e], .lst (ns.map D.str)] o k kx := by
  have h4 := hL.l
  have hml : (L.map obD).length = L.length := List.length_map ..
  have hzl : (L.map obD).length ≤ sizeLine := by rw [hml, sizeLine_eq]; omega
  unfold T__law_start fnT
  walk_at "go"
  refine lcX_inv (fun j acc os => ∃ F : List Int, acc = F.map D.int ∧ os = o ∧ F.Nodup ∧ ∀ x : Int, x ∈ F ↔ ∃ i : Nat, i < j ∧ x = (i : Nat) ∧ ∃ r, L[i]? = some r ∧ oN r.j ∈ ns) ⟨[], rfl, rfl, List.nodup_nil, fun x => ⟨(fun h => nomatch h), fun ⟨i, h, _⟩ => absurd h (by omega)⟩⟩ ?_ ?_ (fun _ _ _ _ => trivial)
  · rintro j w acc os N hw ⟨F, rfl, rfl, h1, h2⟩ hN
    obtain ⟨rfl, hj⟩ := rng_at hw
    have hj2 : j < L.length := by rw [hml] at hj; simpa using hj
    clear hj
    have e0 : (0 : Int) + (j : Nat) * 1 = (j : Nat) := by omega
    rw [e0]
    obtain ⟨r, hr⟩ : ∃ r, L[j]? = some r := ⟨_, List.getElem?_eq_getElem hj2⟩
    have hob : atI (L.map obD) (j : Int) = some (obD r) := atI_some (by omega) (by rw [Int.toNat_natCast, List.getElem?_map, hr]; rfl)
    have hjF : ((j : Nat) : Int) ∉ F := fun h => by obtain ⟨i, q1, q2, _⟩ := (h2 _).mp h; omega
    have ein := inD_strs (z := oN r.j) ns
    by_cases hm : oN r.j ∈ ns
    · rw [decide_eq_true hm] at ein
      walk_at "go"
      refine ⟨_, rfl, scal_strs ns, ?_⟩
      rw [ein]
      walk_at "go"
      · refine hN _ _ _ (.refl _) ⟨F ++ [(j : Int)], (List.map_append (l₁ := F) (l₂ := [(j : Int)])).symm, rfl, ?_, fun x => ?_⟩
        · rw [List.nodup_append]
          refine ⟨h1, by simp, fun x q1 y q2 => ?_⟩
          rcases List.mem_singleton.mp q2 with rfl
          exact fun e => hjF (e ▸ q1)
        · rw [List.mem_append, h2 x, List.mem_singleton]
          constructor
          · rintro (⟨i, q1, q2, q3⟩ | rfl)
            · exact ⟨i, by omega, q2, q3⟩
            · exact ⟨j, by omega, rfl, r, hr, hm⟩
          · rintro ⟨i, q1, q2, q3⟩
            by_cases hij : i = j
            · subst hij; exact .inr q2
            · exact .inl ⟨i, by omega, q2, q3⟩
    · rw [decide_eq_false hm] at ein
      walk_at "go"
      refine ⟨_, rfl, scal_strs ns, ?_⟩
      rw [ein]
      walk_at "go"
      · refine hN _ _ _ (.refl _) ⟨F, rfl, rfl, h1, fun x => ?_⟩
        rw [h2 x]
        constructor
        · rintro ⟨i, q1, q2, q3⟩; exact ⟨i, by omega, q2, q3⟩
        · rintro ⟨i, q1, q2, r', q3, q4⟩
          by_cases hij : i = j
          · subst hij
            rw [hr] at q3
            cases q3
            exact absurd q4 hm
          · exact ⟨i, by omega, q2, r', q3, q4⟩
  · rintro acc os ⟨F, rfl, rfl, h1, h2⟩
    rw [rng_len, hml, Int.toNat_natCast] at h2
    walk_at "go"
    refine callX_all (w_grow hL hnd h1 (fun x hx => by obtain ⟨i, q1, q2, _⟩ := (h2 x).mp hx; omega) fun ms hms => dropX_id (hk ms ⟨hms.1, fun x => ?_⟩))
    rw [hms.2 x]
    constructor
    · rintro ⟨i, q1, q2⟩
      obtain ⟨i', p1, p2, r, p3, p4⟩ := (h2 _).mp q1
      have : i' = i := by omega
      subst this
      exact ⟨_, p4, by rw [ix_of hnd p3]; exact q2⟩
    · rintro ⟨n, q1, q2⟩
      obtain ⟨i, p1, p2⟩ := hn n q1
      have e : ixN' L n = i := by unfold ixN'; rw [p2]; omega
      rw [e] at q2
      refine ⟨i, (h2 _).mpr ⟨i, p1, rfl, ?_⟩, q2⟩
      have := fnd_hit (ns := oNs L) (i := 0) (t := i) (x := n) (by omega) (by rw [p2]; omega)
      rw [List.getElem?_map] at this
      obtain ⟨r, hr, e2⟩ := Option.map_eq_some_iff.mp this
      exact ⟨r, hr, by rw [e2]; exact q1⟩
theorem w_same {os : Os} {as : List Addr} {R : List (List Int)} {k : D → Os → Prop} {kx : Kx} (hal : as.length = R.length) (hR : R.length ≤ 100) (hRl : ∀ r ∈ R, r.length ≤ 100) (hpos : ∀ (t : Nat) (r : List Int), R[t]? = some r → ∃ (a : Addr) (n : Nat), as[t]? = some a ∧ os[n]? = some (a, .lst (r.map D.int)))
    (hk : k (.bl true) os) : T__law_same CS [.lst (as.map D.ref), .lst (RS R)] os k kx := by
  have hz1 : (as.map D.ref).length ≤ sizeLine := by rw [List.length_map, sizeLine_eq]; omega
  have hz2 : (RS R).length ≤ sizeLine := by rw [List.length_map, sizeLine_eq]; omega
  have hee : (as.map D.ref).length = (RS R).length := by rw [List.length_map, List.length_map, hal]
  unfold T__law_same fnT
  walk_at "go"
  refine forX_inv (fun i en o => ∃ y2 y3 y4 : Option D, en = [some (.lst (as.map D.ref)), some (.lst (RS R)), y2, y3, y4] ∧ o = os) ⟨_, _, _, rfl, rfl⟩ ?_ ?_ (fun _ _ _ _ => trivial)
  · rintro i w en o N hw ⟨y2, y3, y4, rfl, rfl⟩ hN
    obtain ⟨rfl, hi⟩ := rng_at hw
    have hi2 : i < R.length := by rw [List.length_map] at hi; simpa using hi
    clear hi
    have e0 : (0 : Int) + (i : Nat) * 1 = (i : Nat) := by omega
    rw [e0]
    obtain ⟨r, hr⟩ : ∃ r, R[i]? = some r := ⟨_, List.getElem?_eq_getElem hi2⟩
    obtain ⟨a, n, ha, hn⟩ := hpos i r hr
    have hrl := hRl r (List.mem_of_getElem? hr)
    have hat1 : atI (as.map D.ref) (i : Int) = some (.ref a) := atI_some (by omega) (by rw [Int.toNat_natCast, List.getElem?_map, ha]; rfl)
    have hat2 : atI (RS R) (i : Int) = some (.lst (r.map D.int)) := atI_some (by omega) (by rw [Int.toNat_natCast, List.getElem?_map, hr]; rfl)
    have hz3 : (r.map D.int).length ≤ sizeLine := by rw [List.length_map, sizeLine_eq]; omega
    walk_at "go"
    refine forX_inv (fun j en o2 => ∃ y3 y4 : Option D, en = [some (.lst (as.map D.ref)), some (.lst (RS R)), some (.int (i : Nat)), y3, y4] ∧ o2 = o) ⟨_, _, rfl, rfl⟩ ?_ ?_ (fun _ _ _ _ => trivial)
    · rintro j w en o N2 hw ⟨y3, y4, rfl, rfl⟩ hN2
      obtain ⟨rfl, hj⟩ := rng_at hw
      have hj2 : j < r.length := by rw [List.length_map] at hj; simpa using hj
      clear hj
      have e0 : (0 : Int) + (j : Nat) * 1 = (j : Nat) := by omega
      rw [e0]
      have hat3 : atI (r.map D.int) (j : Int) = some (.int (r.getD (j : Int).toNat 0)) := atI_ints (by omega) (by omega)
      walk_at "go"
      exact hN2 _ _ _ (.refl _) ⟨_, _, rfl, rfl⟩
    · rintro en o ⟨y3, y4, rfl, rfl⟩
      exact hN _ _ _ (.refl _) ⟨_, _, _, rfl, rfl⟩
  · rintro en o ⟨y2, y3, y4, rfl, rfl⟩
    walk_at "go"
    exact dropX_id hk

end

section
variable {CS : Nat → Addr}
/-! k10: the law -/
theorem prD_rev (P : PrR) : prD P = .tup [.str "system", .str "s", .lst (P.ports.map portD), .lst (P.obs.reverse.map obD), .lst (P.tasks.map taD), .lst (P.intr.map inD')] := by unfold prD; rw [List.map_reverse]
/-- rows with different names -/
def RowsNm (w : D) : Prop := ∃ (ws : List D) (ns : List Str), w = .lst ws ∧ ws.map nmOf = ns.map some ∧ ns.Nodup ∧ ("nobody" : Str) ∉ ns ∧ ns.length ≤ 10
theorem fnd_none : ∀ {ns : List Str} {i : Int} {x : Str}, x ∉ ns → fnd i ns x = -1
  | [], _, _, _ => rfl
  | n :: ns, i, x, h => by
    have h1 : ¬ n = x := fun e => h (by rw [← e]; exact .head _)
    rw [fnd, if_neg h1, fnd_none fun h2 => h (.tail _ h2)]
theorem rows_uniq {P : Nat → List Int → Prop} (hP : ∀ t r r', P t r → P t r' → r = r') : ∀ {R S : List (List Int)}, R.length = S.length → (∀ (t : Nat) (r : List Int), R[t]? = some r → P t r) → (∀ (t : Nat) (r : List Int), S[t]? = some r → P t r) → R = S := fun {R S} hl h1 h2 => by
  refine List.ext_getElem? fun t => ?_
  by_cases h : t < R.length
  · have a := List.getElem?_eq_getElem h
    have b := List.getElem?_eq_getElem (l := S) (i := t) (by omega)
    rw [a, b, hP t _ _ (h1 t _ a) (h2 t _ b)]
  · rw [List.getElem?_eq_none (by omega), List.getElem?_eq_none (by omega)]
theorem hasU_b {L : List ObR} (hL : LOk L) {ns : List Str} (hn : ∀ n ∈ ns, InO L n) {u : List Int} (h : HasU L ns u) : u.length ≤ 4 := by
  refine small4 (h.1.imp fun {a b} h => Int.ne_of_lt h) fun x hx => ?_
  obtain ⟨n, h1, h2⟩ := (h.2 x).mp hx
  obtain ⟨i, q1, q2⟩ := hn n h1
  have e : ixN' L n = i := by unfold ixN'; rw [q2]; omega
  rw [e] at h2
  have := rc_lt (edg_up hL) h2 (by rw [edg_len]; exact q1)
  rw [edg_len] at this
  have := hL.l
  omega
theorem vOf_in {L : List ObR} {T : List TaR} {I : List InR} (hU : UsW L T I) : ∀ ns ∈ vOf T I, ∀ n ∈ ns, InO L n := fun ns hns n hn => by
  unfold vOf at hns
  rcases List.mem_append.mp hns with h | h
  · obtain ⟨t, ht, rfl⟩ := List.mem_map.mp h
    exact (hU.t t ht).2.2 n hn
  · obtain ⟨r, hr, rfl⟩ := List.mem_map.mp h
    rcases List.mem_singleton.mp hn with rfl
    exact hU.i r hr
theorem law_true {CS : Nat → Addr} (ns : List Int) (hn : ns.length ≤ 63) : T_law CS [.lst (ns.map D.int)] [] (fun w _ => w = .bl true) (fun _ _ => False) := by
  unfold T_law fnT
  walk_at "go"
  refine callX_all (w_stateQ hn fun p q o hS => ?_)
  walk_at "go"
  refine callX_all (w_program (mt := 3) (mo := 3) (by decide) (by decide) (by decide) hS fun P o1 hP hS => ?_)
  have hsh := pr_sh hP (by decide) (by decide)
  have htl : isTL (prD P) = true := rfl
  have hx : cRepr [prD P] o1 (fun w o => w = .str (toP (prD P)).shown ∧ o = o1) := cRepr_sh hsh (by decide) (by decide) htl ⟨rfl, rfl⟩
  obtain ⟨d, x1, x2, x3, x4, x5, _⟩ := hx
  have hL := pr_lok hP
  have hU := pr_usw hP
  have hnd := obs_nd' hP
  have np1 : P.ports.map (·.2) = (List.range P.ports.length).map pN' := idx_map fun k a ha => (hP.p.2 k a ha).1
  have nt1 : P.tasks.map (fun t => tN t.k) = (List.range P.tasks.length).map tN := idx_map fun k a ha => by rw [(hP.t.2.2 k a ha).1]
  have hp3 := hP.p.1
  have hol := hP.o.1
  have htl3 := hP.t.2.1
  have hil := hP.i.1
  have R1 : RowsNm (.lst (P.ports.map portD)) := by
    refine ⟨_, P.ports.map (·.2), rfl, by rw [List.map_map, List.map_map]; rfl, ?_, ?_, by rw [List.length_map]; omega⟩
    · rw [np1]; exact (all_nd _ (by omega)).2.2.1
    · rw [np1]; exact (all_nd _ (by omega)).2.2.2.2.2
  have R2 : RowsNm (.lst (P.obs.reverse.map obD)) := by
    refine ⟨_, oNs P.obs.reverse, rfl, nm_obs _, hnd, ?_, by rw [List.length_map, List.length_reverse]; omega⟩
    rw [obs_names hP]; exact (all_nd _ (by omega)).2.2.2.1
  have R3 : RowsNm (.lst (P.tasks.map taD)) := by
    refine ⟨_, P.tasks.map (fun t => tN t.k), rfl, by rw [List.map_map, List.map_map]; rfl, ?_, ?_, by rw [List.length_map]; omega⟩
    · rw [nt1]; exact (all_nd _ (by omega)).2.1
    · rw [nt1]; exact (all_nd _ (by omega)).2.2.2.2.1
  have R4 : RowsNm (.lst (P.intr.map inD')) := by
    refine ⟨_, P.intr.map (fun _ => ("alarm" : Str)), rfl, by rw [List.map_map, List.map_map]; rfl, ?_, ?_, by rw [List.length_map]; omega⟩
    · match P.intr, hil with
      | [], _ => exact List.nodup_nil
      | [_], _ => simp
    · match P.intr, hil with
      | [], _ => simp
      | [_], _ => simp only [List.map_cons, List.map_nil, List.mem_singleton]; decide +kernel
  clear np1 nt1 hS
  rw [prD_rev P] at x1 ⊢
  generalize P.obs.reverse = L at *
  have hLl := hL.l
  walk_at "go"
  refine ⟨d, x1, x2, x3, x4, x5, ?_⟩
  walk_at "go"
  refine forX_inv (fun i en os => ∃ y4 : Option D, en = [some (.lst (ns.map D.int)), some (.ref p), some (.tup [.str "system", .str "s", .lst (P.ports.map portD), .lst (L.map obD), .lst (P.tasks.map taD), .lst (P.intr.map inD')]), some (.str (toP d).shown), y4, none, none, none, none, none, none, none, none, none] ∧ o1 = os) ⟨_, rfl, rfl⟩ ?_ ?_ (fun _ _ _ _ => trivial)
  · rintro i w en os N hw ⟨y4, rfl, rfl⟩ hN
    obtain ⟨ws, nms, rfl, h1, h2, h3, h5⟩ : RowsNm w := by
      have := List.mem_of_getElem? hw
      simp only [List.mem_cons, List.not_mem_nil, or_false] at this
      rcases this with rfl | rfl | rfl | rfl
      · exact R1
      · exact R2
      · exact R3
      · exact R4
    have hwl : ws.length = nms.length := by have := congrArg List.length h1; rwa [List.length_map, List.length_map] at this
    have hzw : ws.length ≤ sizeLine := by rw [sizeLine_eq]; omega
    walk_at "go"
    refine lcX_inv (fun j acc o => acc = (rgI j).map D.int ∧ o1 = o) ⟨rfl, rfl⟩ ?_ ?_ (fun _ _ _ _ => trivial)
    · rintro j w acc o N2 hw ⟨rfl, rfl⟩ hN2
      have hj : j < nms.length := by have := (List.getElem?_eq_some_iff.mp hw).1; omega
      have hnm : nms[j]? = some nms[j] := List.getElem?_eq_getElem hj
      have hwn : nmOf w = some nms[j] := by
        have e := congrArg (fun l : List (Option Str) => l[j]?) h1
        simp only [List.getElem?_map, hw, hnm] at e
        exact Option.some.inj e
      obtain ⟨aw, rw', rfl⟩ := nmOf_of hwn
      have hfn := fnd_nd (i := 0) h2 hnm
      rw [Int.zero_add] at hfn
      walk_at "go"
      refine callX_all (w_find h1 ?_)
      rw [hfn]
      exact hN2 _ _ _ (.refl _) ⟨(rgI_succ j).symm, rfl⟩
    · rintro acc o ⟨rfl, rfl⟩
      walk_at "go"
      refine lcX_inv (fun j acc o => acc = (rgI j).map D.int ∧ o1 = o) ⟨rfl, rfl⟩ ?_ ?_ (fun _ _ _ _ => trivial)
      · rintro j w acc o N2 hw ⟨rfl, rfl⟩ hN2
        obtain ⟨rfl, hj⟩ := rng_at hw
        have e0 : (0 : Int) + (j : Nat) * 1 = (j : Nat) := by omega
        rw [e0]
        walk_at "go"
        exact hN2 _ _ _ (.refl _) ⟨(rgI_succ j).symm, rfl⟩
      · rintro acc o ⟨rfl, rfl⟩
        rw [rng_len, Int.toNat_natCast]
        walk_at "go"
        refine ⟨_, _, .same _, .same _, shp_ints _, shp_ints _, ?_⟩
        rw [eqD_ints, decide_eq_true rfl]
        walk_at "go"
        refine callX_all (w_find h1 ?_)
        rw [fnd_none h3]
        walk_at "go"
        exact hN _ _ _ (.refl _) ⟨_, rfl, rfl⟩
  · rintro en os ⟨y4, rfl, rfl⟩
    have hzL : (L.map obD).length ≤ sizeLine := by rw [List.length_map, sizeLine_eq]; omega
    have hzT : (P.tasks.map taD).length ≤ sizeLine := by rw [List.length_map, sizeLine_eq]; omega
    have hzI : (P.intr.map inD').length ≤ sizeLine := by rw [List.length_map, sizeLine_eq]; omega
    walk_at "go"
    refine lcX_inv (fun j acc o => ∃ R : List (List Int), acc = RS R ∧ o1 = o ∧ R.length = j ∧ ∀ (t : Nat) (r : List Int), R[t]? = some r → SortedOf r (Rc (edg L) t)) ⟨[], rfl, rfl, rfl, fun t r h => by simp at h⟩ ?_ ?_ (fun _ _ _ _ => trivial)
    · rintro j w acc o N hw ⟨R, rfl, rfl, hRl, hR⟩ hN
      obtain ⟨rfl, hj⟩ := rng_at hw
      have hj2 : j < L.length := by rw [List.length_map] at hj; simpa using hj
      clear hj
      have e0 : (0 : Int) + (j : Nat) * 1 = (j : Nat) := by omega
      rw [e0]
      walk_at "go"
      refine callX_all (w_grow (F := [(j : Int)]) hL hnd (by simp) (fun x hx => by rcases List.mem_singleton.mp hx with rfl; omega) fun ms hms => ?_)
      refine hN _ _ _ (.refl _) ⟨R ++ [ms], (List.map_append (l₁ := R) (l₂ := [ms])).symm, rfl, by rw [List.length_append, hRl]; rfl, fun t r ht => ?_⟩
      by_cases htl : t < R.length
      · rw [List.getElem?_append_left htl] at ht
        exact hR t r ht
      · have := (List.getElem?_eq_some_iff.mp ht).1
        rw [List.length_append, List.length_singleton] at this
        have et : t = R.length := by omega
        subst et
        rw [List.getElem?_concat_length] at ht
        cases ht
        refine ⟨hms.1, fun x => ?_⟩
        rw [hms.2 x]
        constructor
        · rintro ⟨i, h1, h2⟩
          have : i = R.length := by have := List.mem_singleton.mp h1; omega
          subst this
          exact h2
        · intro h
          exact ⟨R.length, by rw [hRl]; exact List.mem_singleton.mpr rfl, h⟩
    · rintro acc o ⟨Rr, rfl, rfl, hRl, hRr⟩
      rw [rng_len, List.length_map, Int.toNat_natCast] at hRl
      walk_at "go"
      refine lcX_inv (fun j acc o => ∃ U : List (List Int), acc = RS U ∧ o1 = o ∧ UsN L ((P.tasks.take j).map fun t => calB t.body) U) ⟨[], rfl, rfl, rfl, fun i ns u h => by simp at h⟩ ?_ ?_ (fun _ _ _ _ => trivial)
      · rintro j w acc o N hw ⟨U, rfl, rfl, hUs⟩ hN
        rw [List.getElem?_map] at hw
        obtain ⟨t, ht, rfl⟩ := Option.map_eq_some_iff.mp hw
        obtain ⟨t1, t2, t3⟩ := hU.t t (List.mem_of_getElem? ht)
        generalize hw : taD t = w
        rw [← hw]
        conv in taD t => unfold taD
        walk_at "go"
        refine callX_all (w_namesN 10 (b := t.body) (by omega) (by omega) ?_)
        walk_at "go"
        refine callX_all (w_start hL hnd t3 fun ms hms => ?_)
        refine hN _ _ _ (.refl _) ⟨U ++ [ms], (List.map_append (l₁ := U) (l₂ := [ms])).symm, rfl, ?_⟩
        rw [List.take_add_one, ht, List.map_append]
        exact usN_snoc hUs hms
      · rintro acc o ⟨U, rfl, rfl, hUs⟩
        rw [List.length_map, List.take_length] at hUs
        have hUl := hUs.1
        rw [List.length_map] at hUl
        walk_at "go"
        refine lcX_inv (fun j acc o => ∃ V : List (List Int), acc = RS V ∧ o1 = o ∧ UsN L ((P.tasks.map fun t => calB t.body) ++ (P.intr.take j).map fun r => [r.th]) (U ++ V)) ⟨[], rfl, rfl, by simpa using hUs⟩ ?_ ?_ (fun _ _ _ _ => trivial)
        · rintro j w acc o N hw ⟨V, rfl, rfl, hVs⟩ hN
          rw [List.getElem?_map] at hw
          obtain ⟨x, hx, rfl⟩ := Option.map_eq_some_iff.mp hw
          have hxi := hU.i x (List.mem_of_getElem? hx)
          generalize hw : inD' x = w
          rw [← hw]
          conv in inD' x => unfold inD'
          walk_at "go"
          refine callX_all (w_start (ns := [x.th]) hL hnd (fun n hn => by rcases List.mem_singleton.mp hn with rfl; exact hxi) fun ms hms => ?_)
          refine hN _ _ _ (.refl _) ⟨V ++ [ms], (List.map_append (l₁ := V) (l₂ := [ms])).symm, rfl, ?_⟩
          rw [List.take_add_one, hx, List.map_append, ← List.append_assoc, ← List.append_assoc]
          exact usN_snoc hVs hms
        · rintro acc o ⟨V, rfl, rfl, hVs⟩
          rw [List.length_map, List.take_length] at hVs
          have hVl := hVs.1
          rw [List.length_append, List.length_append, List.length_map, List.length_map] at hVl
          have hzU : (RS U).length + (RS V).length ≤ sizeLine := by rw [List.length_map, List.length_map, sizeLine_eq]; omega
          walk_at "go"
          rw [show RS U ++ RS V = RS (U ++ V) from (List.map_append (l₁ := U) (l₂ := V)).symm]
          generalize U ++ V = Ur at hVs hVl
          have hVs : UsN L (vOf P.tasks P.intr) Ur := hVs
          have hvl : (vOf P.tasks P.intr).length ≤ 10 := by unfold vOf; rw [List.length_append, List.length_map, List.length_map]; omega
          have hUr := hVs.1
          have hurb : ∀ r ∈ Ur, r.length ≤ 4 := fun r hr => by
            obtain ⟨i, hi⟩ := List.mem_iff_getElem?.mp hr
            have hil := (List.getElem?_eq_some_iff.mp hi).1
            have hv := List.getElem?_eq_getElem (l := vOf P.tasks P.intr) (i := i) (by omega)
            exact hasU_b hL (vOf_in hU _ (List.mem_of_getElem? hv)) (hVs.2 i _ _ hv hi)
          refine forX_inv (fun i en os => ∃ y7 y8 y9 y10 : Option D, en = [some (.lst (ns.map D.int)), some (.ref p), some (.tup [.str "system", .str "s", .lst (P.ports.map portD), .lst (L.map obD), .lst (P.tasks.map taD), .lst (P.intr.map inD')]), some (.str (toP d).shown), y4, some (.lst (RS Rr)), some (.lst (RS Ur)), y7, y8, y9, y10, none, none, none] ∧ o1 = os) ⟨none, none, none, none, rfl, rfl⟩ ?_ ?_ (fun _ _ _ _ => trivial)
          · rintro i w en os N hw ⟨y7, y8, y9, y10, rfl, rfl⟩ hN
            walk_at "go"
            refine callX_none (w_reached hL fun as R hal hR => ?_)
            have hRn := hR.n
            rw [Nat.zero_add] at hRn
            have hRb := rowsM_b hL hR
            have hRe : R = Rr := rows_uniq (P := fun t r => SortedOf r (Rc (edg L) t)) (fun t r r' h1 h2 => sortedOf_uniq h1 h2) (by omega) (fun t r h => by have := hR.s t r h; rwa [Nat.zero_add] at this) hRr
            have hrl : ∀ r ∈ R, r.length ≤ 4 := fun r hr => by
              obtain ⟨t, ht⟩ := List.mem_iff_getElem?.mp hr
              exact small4 ((hR.s t r ht).1.imp fun {a b} h => Int.ne_of_lt h) (hRb r hr)
            subst hRe
            walk_at "go"
            refine callX_none (w_used hL hU fun bs U2 hbl hUs => ?_)
            have hUe : U2 = Ur := by
              refine List.ext_getElem? fun t => ?_
              have hl2 := hUs.1
              by_cases h : t < U2.length
              · have a := List.getElem?_eq_getElem h
                have b := List.getElem?_eq_getElem (l := Ur) (i := t) (by omega)
                have c := List.getElem?_eq_getElem (l := vOf P.tasks P.intr) (i := t) (by omega)
                rw [a, b, sortedOf_uniq (hUs.2 t _ _ c a) (hVs.2 t _ _ c b)]
              · rw [List.getElem?_eq_none (by omega), List.getElem?_eq_none (by omega)]
            subst hUe
            have hzz : (as.map D.ref).length + (bs.map D.ref).length ≤ sizeLine := by rw [List.length_map, List.length_map, sizeLine_eq]; omega
            walk_at "go"
            refine callX_all (w_same hal (by omega) (fun r hr => by have := hrl r hr; omega) (fun t r h => by
              obtain ⟨a, h1, h2⟩ := inn_row hal h
              exact ⟨a, (inR bs U2).length + t, h1, app_at (appL_at h2)⟩) ?_)
            walk_at "go"
            refine callX_all (w_same hbl (by omega) (fun r hr => by have := hurb r hr; omega) (fun t r h => by
              obtain ⟨a, h1, h2⟩ := inn_row hbl h
              exact ⟨a, t, h1, appL_at h2⟩) ?_)
            walk_at "go"
            have hcat : inR bs U2 ++ (inR as R ++ o1) = inR (bs ++ as) (U2 ++ R) ++ o1 := by
              rw [← List.append_assoc]
              unfold inR
              rw [List.map_append, inn_appA (by rw [List.length_map]; exact hbl)]
            rw [hcat]
            refine forX_inv (fun j en os => ∃ (y10 : Option D) (W : List (List Int)), en = [some (.lst (ns.map D.int)), some (.ref p), some (.tup [.str "system", .str "s", .lst (P.ports.map portD), .lst (L.map obD), .lst (P.tasks.map taD), .lst (P.intr.map inD')]), some (.str (toP d).shown), y4, some (.lst (RS R)), some (.lst (RS U2)), some w, some (.lst (as.map D.ref)), some (.lst (bs.map D.ref)), y10, none, none, none] ∧ os = inR (bs ++ as) W ++ o1 ∧ W.length = (bs ++ as).length ∧ ∀ l ∈ W, l.length ≤ 4 + j)
              ⟨_, U2 ++ R, rfl, rfl, by rw [List.length_append, List.length_append, hal, hbl], fun l hl => by rcases List.mem_append.mp hl with h | h; exact hurb l h; exact hrl l h⟩ ?_ ?_ (fun _ _ _ _ => trivial)
            · rintro j w2 en os N2 hw2 ⟨y10, W, rfl, rfl, hWl, hWb⟩ hN2
              rw [← List.map_append, List.getElem?_map] at hw2
              obtain ⟨x, hx, rfl⟩ := Option.map_eq_some_iff.mp hw2
              have hj := (List.getElem?_eq_some_iff.mp hx).1
              rw [List.length_append] at hj
              obtain ⟨m, hm⟩ := List.mem_iff_getElem?.mp (show x ∈ bs ++ as from (List.mem_append.mp (List.mem_of_getElem? hx)).elim (List.mem_append_right _) (List.mem_append_left _))
              have hml := (List.getElem?_eq_some_iff.mp hm).1
              obtain ⟨wl, hwl⟩ : ∃ wl, W[m]? = some wl := ⟨_, List.getElem?_eq_getElem (by omega)⟩
              have hwb := hWb wl (List.mem_of_getElem? hwl)
              have hin : (inR (bs ++ as) W)[m]? = some (x, .lst (wl.map D.int)) := inn_at hm (by rw [List.getElem?_map, hwl]; rfl)
              have hpos : (inR (bs ++ as) W ++ o1)[m]? = some (x, .lst (wl.map D.int)) := appL_at hin
              have hz : (wl.map D.int).length < sizeLine := by rw [List.length_map, sizeLine_eq]; omega
              walk_at "go"
              refine hN2 _ _ _ (.refl _) ⟨_, W.set m (wl ++ [9]), rfl, ?_, by rw [List.length_set]; exact hWl, fun l hl => ?_⟩
              · rw [appL_set (List.getElem?_eq_some_iff.mp hin).1]
                unfold inR
                rw [List.map_set, List.map_append, ← inn_set hm]
                rfl
              · rcases List.mem_or_eq_of_mem_set hl with h | rfl
                · have := hWb l h; omega
                · rw [List.length_append, List.length_singleton]; omega
            · rintro en os ⟨y10, W, rfl, rfl, hWl, hWb⟩
              exact hN _ _ _ .right ⟨_, _, _, _, rfl, rfl⟩
          · rintro en os ⟨y7, y8, y9, y10, rfl, rfl⟩
            walk_at "go"
            refine ⟨d, x1, x2, x3, x4, x5, ?_⟩
            walk_at "go"
            rw [decide_eq_true rfl]
            exact dropX_id rfl

end
/-- the law, whatever the classes are called -/
def LawT : FT := fun ws os k kx => ∀ CS : Nat → Addr, T_law CS ws os k kx
theorem all_mk {l : PySem.W.OpenLaw} {w : World} {K : PySem.W.Frag} {h : Heap} {mg : Str → Option Value} {fa : Addr} (X : K.In h) (G : h.Ns mainGlobals mg) (hfa : mg "law" = some (.ref fa))
    {f__law_state : Addr} {od__law_state an__law_state : Option Addr} {sl__law_state : Array (Option Value)} {oc__law_state kV__law_state dc__law_state pm__law_state cd__law_state ct__law_state : Value}
    {f__law_draw : Addr} {od__law_draw an__law_draw : Option Addr} {sl__law_draw : Array (Option Value)} {oc__law_draw kV__law_draw dc__law_draw pm__law_draw cd__law_draw ct__law_draw : Value}
    {f__law_pick : Addr} {od__law_pick an__law_pick : Option Addr} {sl__law_pick : Array (Option Value)} {oc__law_pick kV__law_pick dc__law_pick pm__law_pick cd__law_pick ct__law_pick : Value}
    {f__law_word : Addr} {od__law_word an__law_word : Option Addr} {sl__law_word : Array (Option Value)} {oc__law_word kV__law_word dc__law_word pm__law_word cd__law_word ct__law_word : Value}
    {f__law_expr : Addr} {od__law_expr an__law_expr : Option Addr} {sl__law_expr : Array (Option Value)} {oc__law_expr kV__law_expr dc__law_expr pm__law_expr cd__law_expr ct__law_expr : Value}
    {f__law_place : Addr} {od__law_place an__law_place : Option Addr} {sl__law_place : Array (Option Value)} {oc__law_place kV__law_place dc__law_place pm__law_place cd__law_place ct__law_place : Value}
    {f__law_body : Addr} {od__law_body an__law_body : Option Addr} {sl__law_body : Array (Option Value)} {oc__law_body kV__law_body dc__law_body pm__law_body cd__law_body ct__law_body : Value}
    {f__law_statement : Addr} {od__law_statement an__law_statement : Option Addr} {sl__law_statement : Array (Option Value)} {oc__law_statement kV__law_statement dc__law_statement pm__law_statement cd__law_statement ct__law_statement : Value}
    {f__law_objects : Addr} {od__law_objects an__law_objects : Option Addr} {sl__law_objects : Array (Option Value)} {oc__law_objects kV__law_objects dc__law_objects pm__law_objects cd__law_objects ct__law_objects : Value}
    {f__law_program : Addr} {od__law_program an__law_program : Option Addr} {sl__law_program : Array (Option Value)} {oc__law_program kV__law_program dc__law_program pm__law_program cd__law_program ct__law_program : Value}
    {f__law_names : Addr} {od__law_names an__law_names : Option Addr} {sl__law_names : Array (Option Value)} {oc__law_names kV__law_names dc__law_names pm__law_names cd__law_names ct__law_names : Value}
    {f__law_grow : Addr} {od__law_grow an__law_grow : Option Addr} {sl__law_grow : Array (Option Value)} {oc__law_grow kV__law_grow dc__law_grow pm__law_grow cd__law_grow ct__law_grow : Value}
    {f__law_start : Addr} {od__law_start an__law_start : Option Addr} {sl__law_start : Array (Option Value)} {oc__law_start kV__law_start dc__law_start pm__law_start cd__law_start ct__law_start : Value}
    {f__called : Addr} {od__called an__called : Option Addr} {sl__called : Array (Option Value)} {oc__called kV__called dc__called pm__called cd__called ct__called : Value}
    {f_find : Addr} {od_find an_find : Option Addr} {sl_find : Array (Option Value)} {oc_find kV_find dc_find pm_find cd_find ct_find : Value}
    {f__closure : Addr} {od__closure an__closure : Option Addr} {sl__closure : Array (Option Value)} {oc__closure kV__closure dc__closure pm__closure cd__closure ct__closure : Value}
    {f_reached : Addr} {od_reached an_reached : Option Addr} {sl_reached : Array (Option Value)} {oc_reached kV_reached dc_reached pm_reached cd_reached ct_reached : Value}
    {f_used : Addr} {od_used an_used : Option Addr} {sl_used : Array (Option Value)} {oc_used kV_used dc_used pm_used cd_used ct_used : Value}
    {f__law_same : Addr} {od__law_same an__law_same : Option Addr} {sl__law_same : Array (Option Value)} {oc__law_same kV__law_same dc__law_same pm__law_same cd__law_same ct__law_same : Value}
    {f_law : Addr} {od_law an_law : Option Addr} {sl_law : Array (Option Value)} {oc_law kV_law dc_law pm_law cd_law ct_law : Value}
    (z_int : PySem.W.nsIn K mainGlobals "int" = some none)
    (z_abs : PySem.W.nsIn K mainGlobals "abs" = some none)
    (z_len : PySem.W.nsIn K mainGlobals "len" = some none)
    (z_range : PySem.W.nsIn K mainGlobals "range" = some none)
    (z_str : PySem.W.nsIn K mainGlobals "str" = some none)
    (z_list : PySem.W.nsIn K mainGlobals "list" = some none)
    (z_sorted : PySem.W.nsIn K mainGlobals "sorted" = some none)
    (z_enumerate : PySem.W.nsIn K mainGlobals "enumerate" = some none)
    (z_reversed : PySem.W.nsIn K mainGlobals "reversed" = some none)
    (z_isinstance : PySem.W.nsIn K mainGlobals "isinstance" = some none)
    (z_bool : PySem.W.nsIn K mainGlobals "bool" = some none)
    (z_repr : PySem.W.nsIn K mainGlobals "repr" = some none)
    (a__law_state : PySem.W.nsIn K mainGlobals "_law_state" = some (some (.ref f__law_state)))
    (l__law_state : K.lookup f__law_state = some ⟨oc__law_state, od__law_state, .func (PySem.W.fnOf "_law_state" "_law_state" (defArgs s__law_state) (defBody s__law_state) (defScope s__law_state) .none kV__law_state dc__law_state pm__law_state an__law_state cd__law_state ct__law_state), sl__law_state⟩)
    (c__law_state : PySem.W.codeIn K cd__law_state "_law_state" = true)
    (k__law_state : PySem.W.keepIn K (.ref f__law_state) = true)
    (a__law_draw : PySem.W.nsIn K mainGlobals "_law_draw" = some (some (.ref f__law_draw)))
    (l__law_draw : K.lookup f__law_draw = some ⟨oc__law_draw, od__law_draw, .func (PySem.W.fnOf "_law_draw" "_law_draw" (defArgs s__law_draw) (defBody s__law_draw) (defScope s__law_draw) .none kV__law_draw dc__law_draw pm__law_draw an__law_draw cd__law_draw ct__law_draw), sl__law_draw⟩)
    (c__law_draw : PySem.W.codeIn K cd__law_draw "_law_draw" = true)
    (k__law_draw : PySem.W.keepIn K (.ref f__law_draw) = true)
    (a__law_pick : PySem.W.nsIn K mainGlobals "_law_pick" = some (some (.ref f__law_pick)))
    (l__law_pick : K.lookup f__law_pick = some ⟨oc__law_pick, od__law_pick, .func (PySem.W.fnOf "_law_pick" "_law_pick" (defArgs s__law_pick) (defBody s__law_pick) (defScope s__law_pick) .none kV__law_pick dc__law_pick pm__law_pick an__law_pick cd__law_pick ct__law_pick), sl__law_pick⟩)
    (c__law_pick : PySem.W.codeIn K cd__law_pick "_law_pick" = true)
    (k__law_pick : PySem.W.keepIn K (.ref f__law_pick) = true)
    (a__law_word : PySem.W.nsIn K mainGlobals "_law_word" = some (some (.ref f__law_word)))
    (l__law_word : K.lookup f__law_word = some ⟨oc__law_word, od__law_word, .func (PySem.W.fnOf "_law_word" "_law_word" (defArgs s__law_word) (defBody s__law_word) (defScope s__law_word) .none kV__law_word dc__law_word pm__law_word an__law_word cd__law_word ct__law_word), sl__law_word⟩)
    (c__law_word : PySem.W.codeIn K cd__law_word "_law_word" = true)
    (k__law_word : PySem.W.keepIn K (.ref f__law_word) = true)
    (a__law_expr : PySem.W.nsIn K mainGlobals "_law_expr" = some (some (.ref f__law_expr)))
    (l__law_expr : K.lookup f__law_expr = some ⟨oc__law_expr, od__law_expr, .func (PySem.W.fnOf "_law_expr" "_law_expr" (defArgs s__law_expr) (defBody s__law_expr) (defScope s__law_expr) .none kV__law_expr dc__law_expr pm__law_expr an__law_expr cd__law_expr ct__law_expr), sl__law_expr⟩)
    (c__law_expr : PySem.W.codeIn K cd__law_expr "_law_expr" = true)
    (k__law_expr : PySem.W.keepIn K (.ref f__law_expr) = true)
    (a__law_place : PySem.W.nsIn K mainGlobals "_law_place" = some (some (.ref f__law_place)))
    (l__law_place : K.lookup f__law_place = some ⟨oc__law_place, od__law_place, .func (PySem.W.fnOf "_law_place" "_law_place" (defArgs s__law_place) (defBody s__law_place) (defScope s__law_place) .none kV__law_place dc__law_place pm__law_place an__law_place cd__law_place ct__law_place), sl__law_place⟩)
    (c__law_place : PySem.W.codeIn K cd__law_place "_law_place" = true)
    (k__law_place : PySem.W.keepIn K (.ref f__law_place) = true)
    (a__law_body : PySem.W.nsIn K mainGlobals "_law_body" = some (some (.ref f__law_body)))
    (l__law_body : K.lookup f__law_body = some ⟨oc__law_body, od__law_body, .func (PySem.W.fnOf "_law_body" "_law_body" (defArgs s__law_body) (defBody s__law_body) (defScope s__law_body) .none kV__law_body dc__law_body pm__law_body an__law_body cd__law_body ct__law_body), sl__law_body⟩)
    (c__law_body : PySem.W.codeIn K cd__law_body "_law_body" = true)
    (k__law_body : PySem.W.keepIn K (.ref f__law_body) = true)
    (a__law_statement : PySem.W.nsIn K mainGlobals "_law_statement" = some (some (.ref f__law_statement)))
    (l__law_statement : K.lookup f__law_statement = some ⟨oc__law_statement, od__law_statement, .func (PySem.W.fnOf "_law_statement" "_law_statement" (defArgs s__law_statement) (defBody s__law_statement) (defScope s__law_statement) .none kV__law_statement dc__law_statement pm__law_statement an__law_statement cd__law_statement ct__law_statement), sl__law_statement⟩)
    (c__law_statement : PySem.W.codeIn K cd__law_statement "_law_statement" = true)
    (k__law_statement : PySem.W.keepIn K (.ref f__law_statement) = true)
    (a__law_objects : PySem.W.nsIn K mainGlobals "_law_objects" = some (some (.ref f__law_objects)))
    (l__law_objects : K.lookup f__law_objects = some ⟨oc__law_objects, od__law_objects, .func (PySem.W.fnOf "_law_objects" "_law_objects" (defArgs s__law_objects) (defBody s__law_objects) (defScope s__law_objects) .none kV__law_objects dc__law_objects pm__law_objects an__law_objects cd__law_objects ct__law_objects), sl__law_objects⟩)
    (c__law_objects : PySem.W.codeIn K cd__law_objects "_law_objects" = true)
    (k__law_objects : PySem.W.keepIn K (.ref f__law_objects) = true)
    (a__law_program : PySem.W.nsIn K mainGlobals "_law_program" = some (some (.ref f__law_program)))
    (l__law_program : K.lookup f__law_program = some ⟨oc__law_program, od__law_program, .func (PySem.W.fnOf "_law_program" "_law_program" (defArgs s__law_program) (defBody s__law_program) (defScope s__law_program) .none kV__law_program dc__law_program pm__law_program an__law_program cd__law_program ct__law_program), sl__law_program⟩)
    (c__law_program : PySem.W.codeIn K cd__law_program "_law_program" = true)
    (k__law_program : PySem.W.keepIn K (.ref f__law_program) = true)
    (a__law_names : PySem.W.nsIn K mainGlobals "_law_names" = some (some (.ref f__law_names)))
    (l__law_names : K.lookup f__law_names = some ⟨oc__law_names, od__law_names, .func (PySem.W.fnOf "_law_names" "_law_names" (defArgs s__law_names) (defBody s__law_names) (defScope s__law_names) .none kV__law_names dc__law_names pm__law_names an__law_names cd__law_names ct__law_names), sl__law_names⟩)
    (c__law_names : PySem.W.codeIn K cd__law_names "_law_names" = true)
    (k__law_names : PySem.W.keepIn K (.ref f__law_names) = true)
    (a__law_grow : PySem.W.nsIn K mainGlobals "_law_grow" = some (some (.ref f__law_grow)))
    (l__law_grow : K.lookup f__law_grow = some ⟨oc__law_grow, od__law_grow, .func (PySem.W.fnOf "_law_grow" "_law_grow" (defArgs s__law_grow) (defBody s__law_grow) (defScope s__law_grow) .none kV__law_grow dc__law_grow pm__law_grow an__law_grow cd__law_grow ct__law_grow), sl__law_grow⟩)
    (c__law_grow : PySem.W.codeIn K cd__law_grow "_law_grow" = true)
    (k__law_grow : PySem.W.keepIn K (.ref f__law_grow) = true)
    (a__law_start : PySem.W.nsIn K mainGlobals "_law_start" = some (some (.ref f__law_start)))
    (l__law_start : K.lookup f__law_start = some ⟨oc__law_start, od__law_start, .func (PySem.W.fnOf "_law_start" "_law_start" (defArgs s__law_start) (defBody s__law_start) (defScope s__law_start) .none kV__law_start dc__law_start pm__law_start an__law_start cd__law_start ct__law_start), sl__law_start⟩)
    (c__law_start : PySem.W.codeIn K cd__law_start "_law_start" = true)
    (k__law_start : PySem.W.keepIn K (.ref f__law_start) = true)
    (a__called : PySem.W.nsIn K mainGlobals "_called" = some (some (.ref f__called)))
    (l__called : K.lookup f__called = some ⟨oc__called, od__called, .func (PySem.W.fnOf "_called" "_called" (defArgs s__called) (defBody s__called) (defScope s__called) .none kV__called dc__called pm__called an__called cd__called ct__called), sl__called⟩)
    (c__called : PySem.W.codeIn K cd__called "_called" = true)
    (k__called : PySem.W.keepIn K (.ref f__called) = true)
    (a_find : PySem.W.nsIn K mainGlobals "find" = some (some (.ref f_find)))
    (l_find : K.lookup f_find = some ⟨oc_find, od_find, .func (PySem.W.fnOf "find" "find" (defArgs s_find) (defBody s_find) (defScope s_find) .none kV_find dc_find pm_find an_find cd_find ct_find), sl_find⟩)
    (c_find : PySem.W.codeIn K cd_find "find" = true)
    (k_find : PySem.W.keepIn K (.ref f_find) = true)
    (a__closure : PySem.W.nsIn K mainGlobals "_closure" = some (some (.ref f__closure)))
    (l__closure : K.lookup f__closure = some ⟨oc__closure, od__closure, .func (PySem.W.fnOf "_closure" "_closure" (defArgs s__closure) (defBody s__closure) (defScope s__closure) .none kV__closure dc__closure pm__closure an__closure cd__closure ct__closure), sl__closure⟩)
    (c__closure : PySem.W.codeIn K cd__closure "_closure" = true)
    (k__closure : PySem.W.keepIn K (.ref f__closure) = true)
    (a_reached : PySem.W.nsIn K mainGlobals "reached" = some (some (.ref f_reached)))
    (l_reached : K.lookup f_reached = some ⟨oc_reached, od_reached, .func (PySem.W.fnOf "reached" "reached" (defArgs s_reached) (defBody s_reached) (defScope s_reached) .none kV_reached dc_reached pm_reached an_reached cd_reached ct_reached), sl_reached⟩)
    (c_reached : PySem.W.codeIn K cd_reached "reached" = true)
    (k_reached : PySem.W.keepIn K (.ref f_reached) = true)
    (a_used : PySem.W.nsIn K mainGlobals "used" = some (some (.ref f_used)))
    (l_used : K.lookup f_used = some ⟨oc_used, od_used, .func (PySem.W.fnOf "used" "used" (defArgs s_used) (defBody s_used) (defScope s_used) .none kV_used dc_used pm_used an_used cd_used ct_used), sl_used⟩)
    (c_used : PySem.W.codeIn K cd_used "used" = true)
    (k_used : PySem.W.keepIn K (.ref f_used) = true)
    (a__law_same : PySem.W.nsIn K mainGlobals "_law_same" = some (some (.ref f__law_same)))
    (l__law_same : K.lookup f__law_same = some ⟨oc__law_same, od__law_same, .func (PySem.W.fnOf "_law_same" "_law_same" (defArgs s__law_same) (defBody s__law_same) (defScope s__law_same) .none kV__law_same dc__law_same pm__law_same an__law_same cd__law_same ct__law_same), sl__law_same⟩)
    (c__law_same : PySem.W.codeIn K cd__law_same "_law_same" = true)
    (k__law_same : PySem.W.keepIn K (.ref f__law_same) = true)
    (a_law : PySem.W.nsIn K mainGlobals "law" = some (some (.ref f_law)))
    (l_law : K.lookup f_law = some ⟨oc_law, od_law, .func (PySem.W.fnOf "law" "law" (defArgs s_law) (defBody s_law) (defScope s_law) .none kV_law dc_law pm_law an_law cd_law ct_law), sl_law⟩)
    (c_law : PySem.W.codeIn K cd_law "law" = true)
    (k_law : PySem.W.keepIn K (.ref f_law) = true)
    : ∃ fd : FuncData, (∀ (s : Shared) (v : Value), BindsTo s fd ⟨[v], []⟩ [("_law_script", v)]) ∧ ∀ base : Heap, K.In base → base.Ns mainGlobals mg → SysIn base → FnAt l.prog w K mg base 27 fa fd ["_law_script"] (spX K 1 LawT) := by
  have e := hfa.symm.trans (PySem.W.mg_of X G a_law)
  cases e
  obtain ⟨CS, hCS⟩ : ∃ CS : Nat → Addr, CS = fun _ => 0 := ⟨_, rfl⟩
  have T : Txt K mg CS := by subst hCS; exact ⟨PySem.W.mg_none_of X G z_int, PySem.W.mg_none_of X G z_abs, PySem.W.mg_none_of X G z_len, PySem.W.mg_none_of X G z_range, PySem.W.mg_none_of X G z_str, PySem.W.mg_none_of X G z_list, PySem.W.mg_none_of X G z_sorted, PySem.W.mg_none_of X G z_enumerate, PySem.W.mg_none_of X G z_reversed, PySem.W.mg_none_of X G z_isinstance, PySem.W.mg_none_of X G z_bool, PySem.W.mg_none_of X G z_repr⟩
  refine ⟨PySem.W.fnOf "law" "law" (defArgs s_law) (defBody s_law) (defScope s_law) .none kV_law dc_law pm_law an_law cd_law ct_law, fun s v => .of_eq rfl, fun base _ _ hsys => ?_⟩
  have C__law_state : CalX l.prog w K mg base 1 "_law_state" 1 (T__law_state CS) := ⟨f__law_state, _, _, ok__law_state (fun_mk (st := s__law_state) l__law_state c__law_state k__law_state) T , PySem.W.mg_of X G a__law_state, k__law_state, (fun_mk (st := s__law_state) l__law_state c__law_state k__law_state).binds (ps := ["_law_script"]) fun _ _ _ _ _ _ us hl => match us, hl with | [_], _ => rfl⟩
  have C__law_draw : CalX l.prog w K mg base 1 "_law_draw" 2 (T__law_draw CS) := ⟨f__law_draw, _, _, ok__law_draw (fun_mk (st := s__law_draw) l__law_draw c__law_draw k__law_draw) T , PySem.W.mg_of X G a__law_draw, k__law_draw, (fun_mk (st := s__law_draw) l__law_draw c__law_draw k__law_draw).binds (ps := ["_law_state_here", "_law_many"]) fun _ _ _ _ _ _ us hl => match us, hl with | [_, _], _ => rfl⟩
  have C__law_pick : CalX l.prog w K mg base 2 "_law_pick" 2 (T__law_pick CS) := ⟨f__law_pick, _, _, ok__law_pick (fun_mk (st := s__law_pick) l__law_pick c__law_pick k__law_pick) T C__law_draw, PySem.W.mg_of X G a__law_pick, k__law_pick, (fun_mk (st := s__law_pick) l__law_pick c__law_pick k__law_pick).binds (ps := ["_law_state_here", "_law_row"]) fun _ _ _ _ _ _ us hl => match us, hl with | [_, _], _ => rfl⟩
  have C__law_word : CalX l.prog w K mg base 3 "_law_word" 1 (T__law_word CS) := ⟨f__law_word, _, _, ok__law_word (fun_mk (st := s__law_word) l__law_word c__law_word k__law_word) T C__law_draw C__law_pick, PySem.W.mg_of X G a__law_word, k__law_word, (fun_mk (st := s__law_word) l__law_word c__law_word k__law_word).binds (ps := ["_law_state_here"]) fun _ _ _ _ _ _ us hl => match us, hl with | [_], _ => rfl⟩
  have CR_0 : ∀ n : Nat, CalX l.prog w K mg base (3 + 1 + n) "_law_expr" 3 (TS_0 CS n 0) := by
    intro n
    induction n with
    | zero => exact ⟨f__law_expr, _, _, okNo (fun_mk (st := s__law_expr) l__law_expr c__law_expr k__law_expr) sc__law_expr rfl, PySem.W.mg_of X G a__law_expr, k__law_expr, (fun_mk (st := s__law_expr) l__law_expr c__law_expr k__law_expr).binds (ps := ["_law_state_here", "_law_env", "_law_deep"]) fun _ _ _ _ _ _ us hl => match us, hl with | [_, _, _], _ => rfl⟩
    | succ n0 ih =>
      have C__law_expr := ih
      exact ⟨f__law_expr, _, _, ok__law_expr (lv := 3 + 1 + n0) (by omega) (fun_mk (st := s__law_expr) l__law_expr c__law_expr k__law_expr) T C__law_draw C__law_expr C__law_pick C__law_word, PySem.W.mg_of X G a__law_expr, k__law_expr, (fun_mk (st := s__law_expr) l__law_expr c__law_expr k__law_expr).binds (ps := ["_law_state_here", "_law_env", "_law_deep"]) fun _ _ _ _ _ _ us hl => match us, hl with | [_, _, _], _ => rfl⟩
  have C__law_expr : CalX l.prog w K mg base (12) "_law_expr" 3 (T__law_expr CS) := CR_0 8
  have C__law_place : CalX l.prog w K mg base 13 "_law_place" 2 (T__law_place CS) := ⟨f__law_place, _, _, ok__law_place (fun_mk (st := s__law_place) l__law_place c__law_place k__law_place) T C__law_pick C__law_expr, PySem.W.mg_of X G a__law_place, k__law_place, (fun_mk (st := s__law_place) l__law_place c__law_place k__law_place).binds (ps := ["_law_state_here", "_law_env"]) fun _ _ _ _ _ _ us hl => match us, hl with | [_, _], _ => rfl⟩
  have CR_1 : ∀ n : Nat, CalX l.prog w K mg base (13 + 1 + n) "_law_body" 3 (TS_1 CS n 0) ∧ CalX l.prog w K mg base (13 + 1 + n) "_law_statement" 3 (TS_1 CS n 1) := by
    intro n
    induction n with
    | zero => exact ⟨⟨f__law_body, _, _, okNo (fun_mk (st := s__law_body) l__law_body c__law_body k__law_body) sc__law_body rfl, PySem.W.mg_of X G a__law_body, k__law_body, (fun_mk (st := s__law_body) l__law_body c__law_body k__law_body).binds (ps := ["_law_state_here", "_law_env", "_law_nested"]) fun _ _ _ _ _ _ us hl => match us, hl with | [_, _, _], _ => rfl⟩, ⟨f__law_statement, _, _, okNo (fun_mk (st := s__law_statement) l__law_statement c__law_statement k__law_statement) sc__law_statement rfl, PySem.W.mg_of X G a__law_statement, k__law_statement, (fun_mk (st := s__law_statement) l__law_statement c__law_statement k__law_statement).binds (ps := ["_law_state_here", "_law_env", "_law_nested"]) fun _ _ _ _ _ _ us hl => match us, hl with | [_, _, _], _ => rfl⟩⟩
    | succ n0 ih =>
      obtain ⟨C__law_body, C__law_statement⟩ := ih
      exact ⟨⟨f__law_body, _, _, ok__law_body (lv := 13 + 1 + n0) (by omega) (fun_mk (st := s__law_body) l__law_body c__law_body k__law_body) T C__law_statement C__law_draw, PySem.W.mg_of X G a__law_body, k__law_body, (fun_mk (st := s__law_body) l__law_body c__law_body k__law_body).binds (ps := ["_law_state_here", "_law_env", "_law_nested"]) fun _ _ _ _ _ _ us hl => match us, hl with | [_, _, _], _ => rfl⟩, ⟨f__law_statement, _, _, ok__law_statement (lv := 13 + 1 + n0) (by omega) (fun_mk (st := s__law_statement) l__law_statement c__law_statement k__law_statement) T C__law_draw C__law_expr C__law_pick C__law_place C__law_body, PySem.W.mg_of X G a__law_statement, k__law_statement, (fun_mk (st := s__law_statement) l__law_statement c__law_statement k__law_statement).binds (ps := ["_law_state_here", "_law_env", "_law_nested"]) fun _ _ _ _ _ _ us hl => match us, hl with | [_, _, _], _ => rfl⟩⟩
  have C__law_body : CalX l.prog w K mg base (24) "_law_body" 3 (T__law_body CS) := (CR_1 10).1
  have C__law_statement : CalX l.prog w K mg base (24) "_law_statement" 3 (T__law_statement CS) := (CR_1 10).2
  have C__law_objects : CalX l.prog w K mg base 25 "_law_objects" 2 (T__law_objects CS) := ⟨f__law_objects, _, _, ok__law_objects (fun_mk (st := s__law_objects) l__law_objects c__law_objects k__law_objects) T C__law_draw C__law_body C__law_pick C__law_expr, PySem.W.mg_of X G a__law_objects, k__law_objects, (fun_mk (st := s__law_objects) l__law_objects c__law_objects k__law_objects).binds (ps := ["_law_state_here", "_law_most"]) fun _ _ _ _ _ _ us hl => match us, hl with | [_, _], _ => rfl⟩
  have C__law_program : CalX l.prog w K mg base 26 "_law_program" 3 (T__law_program CS) := ⟨f__law_program, _, _, ok__law_program (fun_mk (st := s__law_program) l__law_program c__law_program k__law_program) T C__law_objects C__law_body C__law_pick C__law_draw C__law_word, PySem.W.mg_of X G a__law_program, k__law_program, (fun_mk (st := s__law_program) l__law_program c__law_program k__law_program).binds (ps := ["_law_state_here", "_law_most_tasks", "_law_most_objects"]) fun _ _ _ _ _ _ us hl => match us, hl with | [_, _, _], _ => rfl⟩
  have CR_2 : ∀ n : Nat, CalX l.prog w K mg base (0 + 1 + n) "_law_names" 1 (TS_2 CS n 0) := by
    intro n
    induction n with
    | zero => exact ⟨f__law_names, _, _, okNo (fun_mk (st := s__law_names) l__law_names c__law_names k__law_names) sc__law_names rfl, PySem.W.mg_of X G a__law_names, k__law_names, (fun_mk (st := s__law_names) l__law_names c__law_names k__law_names).binds (ps := ["_law_body_here"]) fun _ _ _ _ _ _ us hl => match us, hl with | [_], _ => rfl⟩
    | succ n0 ih =>
      have C__law_names := ih
      exact ⟨f__law_names, _, _, ok__law_names (lv := 0 + 1 + n0) (by omega) (fun_mk (st := s__law_names) l__law_names c__law_names k__law_names) T C__law_names, PySem.W.mg_of X G a__law_names, k__law_names, (fun_mk (st := s__law_names) l__law_names c__law_names k__law_names).binds (ps := ["_law_body_here"]) fun _ _ _ _ _ _ us hl => match us, hl with | [_], _ => rfl⟩
  have C__law_names : CalX l.prog w K mg base (11) "_law_names" 1 (T__law_names CS) := CR_2 10
  have C__law_grow : CalX l.prog w K mg base 12 "_law_grow" 2 (T__law_grow CS) := ⟨f__law_grow, _, _, ok__law_grow (fun_mk (st := s__law_grow) l__law_grow c__law_grow k__law_grow) T C__law_names, PySem.W.mg_of X G a__law_grow, k__law_grow, (fun_mk (st := s__law_grow) l__law_grow c__law_grow k__law_grow).binds (ps := ["_law_program_here", "_law_found"]) fun _ _ _ _ _ _ us hl => match us, hl with | [_, _], _ => rfl⟩
  have C__law_start : CalX l.prog w K mg base 13 "_law_start" 2 (T__law_start CS) := ⟨f__law_start, _, _, ok__law_start (fun_mk (st := s__law_start) l__law_start c__law_start k__law_start) T C__law_grow, PySem.W.mg_of X G a__law_start, k__law_start, (fun_mk (st := s__law_start) l__law_start c__law_start k__law_start).binds (ps := ["_law_program_here", "_law_names_here"]) fun _ _ _ _ _ _ us hl => match us, hl with | [_, _], _ => rfl⟩
  have CR_3 : ∀ n : Nat, CalX l.prog w K mg base (0 + 1 + n) "_called" 1 (TS_3 CS n 0) := by
    intro n
    induction n with
    | zero => exact ⟨f__called, _, _, okNo (fun_mk (st := s__called) l__called c__called k__called) sc__called rfl, PySem.W.mg_of X G a__called, k__called, (fun_mk (st := s__called) l__called c__called k__called).binds (ps := ["body"]) fun _ _ _ _ _ _ us hl => match us, hl with | [_], _ => rfl⟩
    | succ n0 ih =>
      have C__called := ih
      exact ⟨f__called, _, _, ok__called (lv := 0 + 1 + n0) (by omega) (fun_mk (st := s__called) l__called c__called k__called) T C__called, PySem.W.mg_of X G a__called, k__called, (fun_mk (st := s__called) l__called c__called k__called).binds (ps := ["body"]) fun _ _ _ _ _ _ us hl => match us, hl with | [_], _ => rfl⟩
  have C__called : CalX l.prog w K mg base (11) "_called" 1 (T__called CS) := CR_3 10
  have C_find : CalX l.prog w K mg base 1 "find" 2 (T_find CS) := ⟨f_find, _, _, ok_find (fun_mk (st := s_find) l_find c_find k_find) T , PySem.W.mg_of X G a_find, k_find, (fun_mk (st := s_find) l_find c_find k_find).binds (ps := ["rows", "name"]) fun _ _ _ _ _ _ us hl => match us, hl with | [_, _], _ => rfl⟩
  have C__closure : CalX l.prog w K mg base 2 "_closure" 3 (T__closure CS) := ⟨f__closure, _, _, ok__closure (fun_mk (st := s__closure) l__closure c__closure k__closure) T C_find, PySem.W.mg_of X G a__closure, k__closure, (fun_mk (st := s__closure) l__closure c__closure k__closure).binds (ps := ["objects", "names", "reach"]) fun _ _ _ _ _ _ us hl => match us, hl with | [_, _, _], _ => rfl⟩
  have C_reached : CalX l.prog w K mg base 12 "reached" 1 (T_reached CS) := ⟨f_reached, _, _, ok_reached (fun_mk (st := s_reached) l_reached c_reached k_reached) T C__called C__closure, PySem.W.mg_of X G a_reached, k_reached, (fun_mk (st := s_reached) l_reached c_reached k_reached).binds (ps := ["program"]) fun _ _ _ _ _ _ us hl => match us, hl with | [_], _ => rfl⟩
  have C_used : CalX l.prog w K mg base 13 "used" 1 (T_used CS) := ⟨f_used, _, _, ok_used (fun_mk (st := s_used) l_used c_used k_used) T C_reached C__closure C__called C_find, PySem.W.mg_of X G a_used, k_used, (fun_mk (st := s_used) l_used c_used k_used).binds (ps := ["program"]) fun _ _ _ _ _ _ us hl => match us, hl with | [_], _ => rfl⟩
  have C__law_same : CalX l.prog w K mg base 1 "_law_same" 2 (T__law_same CS) := ⟨f__law_same, _, _, ok__law_same (fun_mk (st := s__law_same) l__law_same c__law_same k__law_same) T , PySem.W.mg_of X G a__law_same, k__law_same, (fun_mk (st := s__law_same) l__law_same c__law_same k__law_same).binds (ps := ["_law_actual", "_law_due"]) fun _ _ _ _ _ _ us hl => match us, hl with | [_, _], _ => rfl⟩
  have R := ok_law (fun_mk (st := s_law) l_law c_law k_law) T C__law_state C__law_program C__law_grow C__law_start C_reached C_used C__law_names C_find C__law_same
  exact R.imp fun vs H Q E ⟨hl, F, V0, os, ws, k0, x0, r, ra, hT, c1, c2⟩ => ⟨hl, F, V0, os, ws, k0, x0, r, ra, hT CS, c1, c2⟩
theorem walk {l : PySem.W.OpenLaw} {q : Program} {loose : List Str} {XP : (Str → Option Value) → Heap → Prop} {YP : World → Heap → Prop} {d : DefRec} {K : Params → PySem.W.Frag} (hn : l.most = some 63) (hdf : d.params.defaults = [])
    (hY : ∀ (w : World) (h : Heap), YP w h → (K w.params).In h) (hq : importsNone q = true)
    (F : ∀ (w : World) (mg : Str → Option Value) (fa : Addr) (h : Heap), (K w.params).In h → h.Ns mainGlobals mg → mg d.name = some (.ref fa) →
      ∃ fd : FuncData, (∀ (s : Shared) (u : Value), BindsTo s fd ⟨[u], []⟩ [("_law_script", u)]) ∧ ∀ base : Heap, (K w.params).In base → base.Ns mainGlobals mg → SysIn base → FnAt l.prog w (K w.params) mg base 27 fa fd ["_law_script"] (spX (K w.params) 1 LawT)) :
    PySem.W.WalkO q loose XP YP l.row.toRowW d [] (fun f vs => PySem.call f vs) :=
  walk_at_top (k := 27) (x := "_law_script") (K := K) hn hdf ⟨rfl, by decide, by decide⟩ hY (fun w mg fa h a b c => let ⟨fd, hb, hF⟩ := F w mg fa h a b c; ⟨fd, hb, fun base h1 h2 h3 => hF base h1 h2 (h3 hq)⟩) (fun ns h CS => law_true (CS := CS) ns h)
end My
open PySem PySem.W PyProof.Rows
set_option maxRecDepth 100000 in
set_option maxHeartbeats 0 in
theorem PySem.Challenge.cw_deadbeat_k10_reach_and_use_holds : PySem.Challenge.rw_deadbeat_k10_reach_and_use.Holds := by
  w_on; o_law; k_head; (case hw => w_witness2)
  k_fill
  refine My.walk (l := PySem.Challenge.rw_deadbeat_k10_reach_and_use) rfl rfl (fun w h Y => PySem.W.kIn_of Y) (by decide +kernel) ?F
  case F =>
    intro w mg fa h KX G hmg
    refine' My.all_mk KX G hmg ?z_int ?z_abs ?z_len ?z_range ?z_str ?z_list ?z_sorted ?z_enumerate ?z_reversed ?z_isinstance ?z_bool ?z_repr ?a__law_state ?l__law_state ?c__law_state ?k__law_state ?a__law_draw ?l__law_draw ?c__law_draw ?k__law_draw ?a__law_pick ?l__law_pick ?c__law_pick ?k__law_pick ?a__law_word ?l__law_word ?c__law_word ?k__law_word ?a__law_expr ?l__law_expr ?c__law_expr ?k__law_expr ?a__law_place ?l__law_place ?c__law_place ?k__law_place ?a__law_body ?l__law_body ?c__law_body ?k__law_body ?a__law_statement ?l__law_statement ?c__law_statement ?k__law_statement ?a__law_objects ?l__law_objects ?c__law_objects ?k__law_objects ?a__law_program ?l__law_program ?c__law_program ?k__law_program ?a__law_names ?l__law_names ?c__law_names ?k__law_names ?a__law_grow ?l__law_grow ?c__law_grow ?k__law_grow ?a__law_start ?l__law_start ?c__law_start ?k__law_start ?a__called ?l__called ?c__called ?k__called ?a_find ?l_find ?c_find ?k_find ?a__closure ?l__closure ?c__closure ?k__closure ?a_reached ?l_reached ?c_reached ?k_reached ?a_used ?l_used ?c_used ?k_used ?a__law_same ?l__law_same ?c__law_same ?k__law_same ?a_law ?l_law ?c_law ?k_law
    (case z_int => k_is)
    (case z_abs => k_is)
    (case z_len => k_is)
    (case z_range => k_is)
    (case z_str => k_is)
    (case z_list => k_is)
    (case z_sorted => k_is)
    (case z_enumerate => k_is)
    (case z_reversed => k_is)
    (case z_isinstance => k_is)
    (case z_bool => k_is)
    (case z_repr => k_is)
    (case a__law_state => k_is)
    (case l__law_state => k_is)
    (case c__law_state => k_is)
    (case k__law_state => k_is)
    (case a__law_draw => k_is)
    (case l__law_draw => k_is)
    (case c__law_draw => k_is)
    (case k__law_draw => k_is)
    (case a__law_pick => k_is)
    (case l__law_pick => k_is)
    (case c__law_pick => k_is)
    (case k__law_pick => k_is)
    (case a__law_word => k_is)
    (case l__law_word => k_is)
    (case c__law_word => k_is)
    (case k__law_word => k_is)
    (case a__law_expr => k_is)
    (case l__law_expr => k_is)
    (case c__law_expr => k_is)
    (case k__law_expr => k_is)
    (case a__law_place => k_is)
    (case l__law_place => k_is)
    (case c__law_place => k_is)
    (case k__law_place => k_is)
    (case a__law_body => k_is)
    (case l__law_body => k_is)
    (case c__law_body => k_is)
    (case k__law_body => k_is)
    (case a__law_statement => k_is)
    (case l__law_statement => k_is)
    (case c__law_statement => k_is)
    (case k__law_statement => k_is)
    (case a__law_objects => k_is)
    (case l__law_objects => k_is)
    (case c__law_objects => k_is)
    (case k__law_objects => k_is)
    (case a__law_program => k_is)
    (case l__law_program => k_is)
    (case c__law_program => k_is)
    (case k__law_program => k_is)
    (case a__law_names => k_is)
    (case l__law_names => k_is)
    (case c__law_names => k_is)
    (case k__law_names => k_is)
    (case a__law_grow => k_is)
    (case l__law_grow => k_is)
    (case c__law_grow => k_is)
    (case k__law_grow => k_is)
    (case a__law_start => k_is)
    (case l__law_start => k_is)
    (case c__law_start => k_is)
    (case k__law_start => k_is)
    (case a__called => k_is)
    (case l__called => k_is)
    (case c__called => k_is)
    (case k__called => k_is)
    (case a_find => k_is)
    (case l_find => k_is)
    (case c_find => k_is)
    (case k_find => k_is)
    (case a__closure => k_is)
    (case l__closure => k_is)
    (case c__closure => k_is)
    (case k__closure => k_is)
    (case a_reached => k_is)
    (case l_reached => k_is)
    (case c_reached => k_is)
    (case k_reached => k_is)
    (case a_used => k_is)
    (case l_used => k_is)
    (case c_used => k_is)
    (case k_used => k_is)
    (case a__law_same => k_is)
    (case l__law_same => k_is)
    (case c__law_same => k_is)
    (case k__law_same => k_is)
    (case a_law => k_is)
    (case l_law => k_is)
    (case c_law => k_is)
    (case k_law => k_is)

