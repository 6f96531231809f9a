import PyProof.Rows.All
import Wide.All
import OpenK.AllK
import Wide.FinOn
import HandS.ForMost
import HandS.Wide
import HandS.Flow
import HandS.IsInst
import HandS.WordsExc
import HandS.ExcInit
import HandS.ExcField
import HandS.ExcIs
import HandS.CallSlots
import HandS.TryOnly
import HandS.SortInts
import HandS.TupLe
import HandS.Remove
import HandS.More
import HandS.DictComp
import HandS.SetFor
import HandS.Deep
import KE.KExcIs
import KE.KTryMore
import HandS.MakeKwOnly
import HandS.Zip
import HandS.Strs
import KE.GoesEnum
import HandS.RevRange
import HandS.SortRule
import HandS.Ends
import PyProof.StrLawsRepr
import HandS.Dict
import KE.BitLaws
import KE.OsArith
import PyProof.ReprLen
import PySem.Challenge.RW_deadbeat_k11_values_of_expressions
set_option Elab.async false
set_option linter.all false
set_option maxRecDepth 100000
/-! E1: data values, owned objects, the relation between the abstract heap and them. -/
namespace EV
open PySem PySem.Spec PyProof.Rows L2

/-- names by numbers (base 256) -/
def nmD : Nat → Nat → List Nat
  | 0, _ => []
  | f + 1, n => if n = 0 then [] else nmD f (n / 256) ++ [n % 256]
def nmE : List Nat → Nat := fun l => l.foldl (fun a d => a * 256 + d) 0
theorem nmE_D : ∀ (f n : Nat), n ≤ f → nmE (nmD f n) = n
  | 0, n, h => by
    have : n = 0 := Nat.le_zero.mp h
    subst this; rfl
  | f + 1, n, h => by
    unfold nmD
    by_cases e : n = 0
    · rw [if_pos e, e]; rfl
    · rw [if_neg e]
      have ih := nmE_D f (n / 256) (by omega)
      unfold nmE at ih ⊢
      rw [List.foldl_append, ih]
      show n / 256 * 256 + n % 256 = n
      omega
/-- the name of a number -/
def nm (i : Nat) : Str := ⟨(nmD i i).toArray⟩
theorem nm_inj {i j : Nat} (h : nm i = nm j) : i = j := by
  have e : nmD i i = nmD j j := by
    have e1 : (nmD i i).toArray = (nmD j j).toArray := congrArg Str.cps h
    simpa using e1
  rw [← nmE_D i i (Nat.le_refl _), ← nmE_D j j (Nat.le_refl _), e]

/-- a value: data, or the address of an owned object -/
inductive D where
  | non | bl (b : Bool) | int (i : Int) | str (x : Str) | ty (n : String) | tup (ds : List D) | lst (ds : List D) | dK (kvs : List (Key × D)) | dT (kvs : List (List Key × D)) | exn (a dx C : Addr) (f : Nat) (w : D) | ref (a : Addr)

mutual
inductive Rp (K : PySem.W.Frag) (H : Hp) : V → D → Prop
  | non : Rp K H .non .non
  | bl (b : Bool) : Rp K H (.bl b) (.bl b)
  | int (i : Int) : Rp K H (.int i) (.int i)
  | str (x : Str) : Rp K H (.str x) (.str x)
  | ty (n : String) : Rp K H (.ty n) (.ty n)
  | tup {a : Addr} {xs : List V} {ds : List D} : SqT K H a xs → RpA K H xs ds → Rp K H (.ref a) (.tup ds)
  | lst {a : Addr} {xs : List V} {ds : List D} : SqL K H a xs → RpA K H xs ds → Rp K H (.ref a) (.lst ds)
  | dK {a : Addr} {xs : List (Key × V)} {ds : List (Key × D)} : (∃ o, H a = some (.frz o (.dK xs))) → RpK K H xs ds → Rp K H (.ref a) (.dK ds)
  | dT {a : Addr} {xs : List (List Key × V)} {ds : List (List Key × D)} : (∃ o, H a = some (.frz o (.dT xs))) → RpT K H xs ds → Rp K H (.ref a) (.dT ds)
  | exn {a dx C : Addr} {f : Nat} {v : V} {w : D} : H dx = some (.xd [(nm f, v)]) → Rp K H v w → Rp K H (.ref a) (.exn a dx C f w)
  | ref (a : Addr) : Rp K H (.ref a) (.ref a)
inductive RpA (K : PySem.W.Frag) (H : Hp) : List V → List D → Prop
  | nil : RpA K H [] []
  | cons {v : V} {vs : List V} {d : D} {ds : List D} : Rp K H v d → RpA K H vs ds → RpA K H (v :: vs) (d :: ds)
inductive RpK (K : PySem.W.Frag) (H : Hp) : List (Key × V) → List (Key × D) → Prop
  | nil : RpK K H [] []
  | cons {k : Key} {v : V} {vs : List (Key × V)} {d : D} {ds : List (Key × D)} : Rp K H v d → RpK K H vs ds → RpK K H ((k, v) :: vs) ((k, d) :: ds)
inductive RpT (K : PySem.W.Frag) (H : Hp) : List (List Key × V) → List (List Key × D) → Prop
  | nil : RpT K H [] []
  | cons {k : List Key} {v : V} {vs : List (List Key × V)} {d : D} {ds : List (List Key × D)} : Rp K H v d → RpT K H vs ds → RpT K H ((k, v) :: vs) ((k, d) :: ds)
end
theorem same_sqT {K : PySem.W.Frag} {H H' : Hp} {a : Addr} {xs : List V} (e : Same H H') (h : SqT K H a xs) : SqT K H' a xs := by
  rcases h with (h | ⟨o, h⟩) | h
  · exact .inl (.inl (e _ _ h))
  · exact .inl (.inr ⟨o, e _ _ h⟩)
  · exact .inr h
mutual
theorem Rp.mono {K : PySem.W.Frag} {H H' : Hp} (e : Same H H') : ∀ {v : V} {d : D}, Rp K H v d → Rp K H' v d
  | _, _, .non => .non
  | _, _, .bl b => .bl b
  | _, _, .int i => .int i
  | _, _, .str x => .str x
  | _, _, .ty x => .ty x
  | _, _, .tup h r => .tup (same_sqT e h) (RpA.mono e r)
  | _, _, .lst h r => .lst (e.seq h) (RpA.mono e r)
  | _, _, .dK h r => .dK (let ⟨o, h⟩ := h; ⟨o, e _ _ h⟩) (RpK.mono e r)
  | _, _, .dT h r => .dT (let ⟨o, h⟩ := h; ⟨o, e _ _ h⟩) (RpT.mono e r)
  | _, _, .exn h r => .exn (e _ _ h) (Rp.mono e r)
  | _, _, .ref a => .ref a
theorem RpA.mono {K : PySem.W.Frag} {H H' : Hp} (e : Same H H') : ∀ {vs : List V} {ds : List D}, RpA K H vs ds → RpA K H' vs ds
  | _, _, .nil => .nil
  | _, _, .cons h r => .cons (Rp.mono e h) (RpA.mono e r)
theorem RpK.mono {K : PySem.W.Frag} {H H' : Hp} (e : Same H H') : ∀ {vs : List (Key × V)} {ds : List (Key × D)}, RpK K H vs ds → RpK K H' vs ds
  | _, _, .nil => .nil
  | _, _, .cons h r => .cons (Rp.mono e h) (RpK.mono e r)
theorem RpT.mono {K : PySem.W.Frag} {H H' : Hp} (e : Same H H') : ∀ {vs : List (List Key × V)} {ds : List (List Key × D)}, RpT K H vs ds → RpT K H' vs ds
  | _, _, .nil => .nil
  | _, _, .cons h r => .cons (Rp.mono e h) (RpT.mono e r)
end
theorem RpA.length {K : PySem.W.Frag} {H : Hp} : ∀ {vs : List V} {ds : List D}, RpA K H vs ds → vs.length = ds.length
  | _, _, .nil => rfl
  | _, _, .cons _ r => congrArg (· + 1) (RpA.length r)
theorem RpA.get {K : PySem.W.Frag} {H : Hp} : ∀ {vs : List V} {ds : List D} {i : Nat} {d : D}, RpA K H vs ds → ds[i]? = some d → ∃ v, vs[i]? = some v ∧ Rp K H v d
  | _, _, _, _, .nil, e => by simp at e
  | _, _, 0, _, .cons h r, e => by simp at e; subst e; exact ⟨_, rfl, h⟩
  | _, _, i + 1, d, .cons h r, e => by
    obtain ⟨v, e1, r1⟩ := RpA.get (i := i) (d := d) r (by simpa using e)
    exact ⟨v, by simpa using e1, r1⟩
theorem RpA.getV {K : PySem.W.Frag} {H : Hp} : ∀ {vs : List V} {ds : List D} {i : Nat} {v : V}, RpA K H vs ds → vs[i]? = some v → ∃ d, ds[i]? = some d ∧ Rp K H v d
  | _, _, _, _, .nil, e => by simp at e
  | _, _, 0, _, .cons h r, e => by simp at e; subst e; exact ⟨_, rfl, h⟩
  | _, _, i + 1, d, .cons h r, e => by
    obtain ⟨v, e1, r1⟩ := RpA.getV (i := i) (v := d) r (by simpa using e)
    exact ⟨v, by simpa using e1, r1⟩
theorem RpA.append {K : PySem.W.Frag} {H : Hp} : ∀ {vs us : List V} {ds es : List D}, RpA K H vs ds → RpA K H us es → RpA K H (vs ++ us) (ds ++ es)
  | _, _, _, _, .nil, s => s
  | _, _, _, _, .cons h r, s => .cons h (RpA.append r s)
theorem RpA.take {K : PySem.W.Frag} {H : Hp} : ∀ {vs : List V} {ds : List D} (n : Nat), RpA K H vs ds → RpA K H (vs.take n) (ds.take n)
  | _, _, 0, _ => .nil
  | _, _, _ + 1, .nil => .nil
  | _, _, n + 1, .cons h r => .cons h (RpA.take n r)
theorem RpA.drop {K : PySem.W.Frag} {H : Hp} : ∀ {vs : List V} {ds : List D} (n : Nat), RpA K H vs ds → RpA K H (vs.drop n) (ds.drop n)
  | _, _, 0, r => r
  | _, _, _ + 1, .nil => .nil
  | _, _, n + 1, .cons _ r => RpA.drop n r
theorem RpA.reverse {K : PySem.W.Frag} {H : Hp} {vs : List V} {ds : List D} (h : RpA K H vs ds) : RpA K H vs.reverse ds.reverse := by
  induction vs generalizing ds with
  | nil => cases h; exact .nil
  | cons v vs ih =>
    cases h with
    | cons h r => rw [List.reverse_cons, List.reverse_cons]; exact (ih r).append (.cons h .nil)

theorem RpA.set {K : PySem.W.Frag} {H : Hp} {v : V} {w : D} (q : Rp K H v w) : ∀ {vs : List V} {ds : List D} (n : Nat), RpA K H vs ds → RpA K H (vs.set n v) (ds.set n w)
  | _, _, _, .nil => .nil
  | _, _, 0, .cons _ r => .cons q r
  | _, _, n + 1, .cons h r => .cons h (RpA.set q n r)
theorem RpA.eraseIdx {K : PySem.W.Frag} {H : Hp} : ∀ {vs : List V} {ds : List D} (n : Nat), RpA K H vs ds → RpA K H (vs.eraseIdx n) (ds.eraseIdx n)
  | _, _, _, .nil => .nil
  | _, _, 0, .cons _ r => r
  | _, _, n + 1, .cons h r => .cons h (RpA.eraseIdx n r)
theorem RpA.insertIdx {K : PySem.W.Frag} {H : Hp} {v : V} {w : D} (q : Rp K H v w) : ∀ {vs : List V} {ds : List D} (n : Nat), RpA K H vs ds → RpA K H (vs.insertIdx n v) (ds.insertIdx n w)
  | _, _, 0, .nil => .cons q .nil
  | _, _, _ + 1, .nil => .nil
  | _, _, 0, .cons h r => .cons q (.cons h r)
  | _, _, n + 1, .cons h r => .cons h (RpA.insertIdx q n r)
theorem RpA.one {K : PySem.W.Frag} {H : Hp} {vs : List V} {w : D} (h : RpA K H vs [w]) : ∃ v, vs = [v] ∧ Rp K H v w := by
  cases h with
  | cons a t => cases t; exact ⟨_, rfl, a⟩
theorem RpA.two {K : PySem.W.Frag} {H : Hp} {vs : List V} {w w2 : D} (h : RpA K H vs [w, w2]) : ∃ v v2, vs = [v, v2] ∧ Rp K H v w ∧ Rp K H v2 w2 := by
  cases h with
  | cons a t =>
    obtain ⟨v2, rfl, r2⟩ := RpA.one t
    exact ⟨_, v2, rfl, a, r2⟩
theorem Rp.toRef {K : PySem.W.Frag} {H : Hp} {v : V} {a : Addr} (h : Rp K H v (.ref a)) : v = .ref a := by cases h; rfl
/-- fields -/
abbrev RF (K : PySem.W.Frag) (V0 : Hp) : List (Str × V) → List (Nat × D) → Prop := Paired fun (p : Str × V) (q : Nat × D) => p.1 = nm q.1 ∧ Rp K V0 p.2 q.2

/-- what an owned object holds -/
inductive OO where
  | lst (ws : List D)
  | ins (C : Addr) (fs : List (Nat × D))
  | dK (kvs : List (Key × D))
  | dT (kvs : List (List Key × D))
def RO (K : PySem.W.Frag) (V0 : Hp) (ho : HO) : OO → Prop
  | .lst ws => ∃ vs, ho = .lst vs ∧ RpA K V0 vs ws
  | .ins C fs => ∃ dx vf, ho = .ins C dx vf ∧ RF K V0 vf fs
  | .dK kvs => ∃ vs, ho = .dK vs ∧ RpK K V0 vs kvs
  | .dT kvs => ∃ vs, ho = .dT vs ∧ RpT K V0 vs kvs
theorem RO.mono {K : PySem.W.Frag} {H H' : Hp} (e : Same H H') {ho : HO} : ∀ {oo : OO}, RO K H ho oo → RO K H' ho oo
  | .lst _, ⟨vs, h, r⟩ => ⟨vs, h, r.mono e⟩
  | .ins _ _, ⟨dx, vf, h, r⟩ => ⟨dx, vf, h, Paired.mapP r fun _ _ z => ⟨z.1, z.2.mono e⟩⟩
  | .dK _, ⟨vs, h, r⟩ => ⟨vs, h, r.mono e⟩
  | .dT _, ⟨vs, h, r⟩ => ⟨vs, h, r.mono e⟩
abbrev Os := List (Addr × OO)

/-- H holds, apart from one another: the frame F, the data V0, the owned objects os -/
structure Rel (K : PySem.W.Frag) (F V0 : Hp) (os : Os) (H : Hp) : Prop where
  fr : Same F H
  vi : Same V0 H
  fv : ∀ a o, F a = some o → V0 a = none
  own : ∀ p ∈ os, F p.1 = none ∧ V0 p.1 = none ∧ ∃ ho, H p.1 = some ho ∧ RO K V0 ho p.2
  nd : (os.map (·.1)).Nodup
section
variable {K : PySem.W.Frag} {F V0 H : Hp} {os : Os} {p : Addr}
theorem none_of {H1 H2 : Hp} (e : Same H1 H2) {a : Addr} (h : H2 a = none) : H1 a = none := e.free h
theorem Rel.freshO (r : Rel K F V0 os H) (h : H p = none) : p ∉ os.map (·.1) := fun hm => by
  obtain ⟨q, hq, e⟩ := List.mem_map.mp hm
  obtain ⟨_, _, ho, eh, _⟩ := r.own q hq
  have e' : q.1 = p := e
  rw [e', h] at eh
  cases eh
theorem same_upd {H : Hp} {p : Addr} {o : HO} (h : H p = none) : Same H (upd H p o) := fun a u e => by
  rw [upd_ne (ne_of_none e h)]; exact e
/-- a new thing that never changes -/
theorem Rel.addV (r : Rel K F V0 os H) (h : H p = none) (o : HO) : Rel K F (upd V0 p o) os (upd H p o) := by
  have vp := r.vi.free h
  have fp := r.fr.free h
  have sv : Same V0 (upd V0 p o) := same_upd vp
  refine ⟨fun a u e => ?_, fun a u e => ?_, fun a u e => ?_, fun q hq => ?_, r.nd⟩
  · rw [upd_ne (ne_of_none e fp)]; exact r.fr a u e
  · by_cases ha : a = p
    · subst ha; rw [upd_same] at e ⊢; exact e
    · rw [upd_ne ha] at e ⊢; exact r.vi a u e
  · rw [upd_ne (ne_of_none e fp)]; exact r.fv a u e
  · obtain ⟨h1, h2, ho, h3, h4⟩ := r.own q hq
    have ne : q.1 ≠ p := ne_of_none h3 h
    exact ⟨h1, by rw [upd_ne ne]; exact h2, ho, by rw [upd_ne ne]; exact h3, h4.mono sv⟩
/-- a new owned thing -/
theorem Rel.addO (r : Rel K F V0 os H) (h : H p = none) {ho : HO} {oo : OO} (ro : RO K V0 ho oo) : Rel K F V0 ((p, oo) :: os) (upd H p ho) := by
  have sh : Same H (upd H p ho) := same_upd h
  refine ⟨r.fr.trans sh, r.vi.trans sh, r.fv, fun q hq => ?_, ?_⟩
  · rcases List.mem_cons.mp hq with e | hq
    · subst e; exact ⟨r.fr.free h, r.vi.free h, ho, upd_same, ro⟩
    · obtain ⟨h1, h2, ho', h3, h4⟩ := r.own q hq
      exact ⟨h1, h2, ho', sh _ _ h3, h4⟩
  · rw [List.map_cons, List.nodup_cons]; exact ⟨r.freshO h, r.nd⟩
theorem nd_fst {os : Os} (nd : (os.map (·.1)).Nodup) {i : Nat} {a : Addr} {oo : OO} (h : os[i]? = some (a, oo)) : ∀ p ∈ os, p.1 = a → p = (a, oo) := fun p hp e => by
  obtain ⟨j, hj⟩ := List.getElem?_of_mem hp
  have e1 : (os.map (·.1))[i]? = some a := by rw [List.getElem?_map, h]; rfl
  have e2 : (os.map (·.1))[j]? = some a := by rw [List.getElem?_map, hj]; exact congrArg some e
  have ij := nd_ix nd e1 e2
  subst ij
  rw [h] at hj
  exact (Option.some.inj hj).symm
/-- an owned thing changes -/
theorem Rel.mut (r : Rel K F V0 os H) {i : Nat} {a : Addr} {oo oo' : OO} (h : os[i]? = some (a, oo)) {ho : HO} (ro : RO K V0 ho oo') : Rel K F V0 (os.set i (a, oo')) (upd H a ho) := by
  obtain ⟨h1, h2, _, h3, _⟩ := r.own _ (List.mem_of_getElem? h)
  have hi : i < os.length := (List.getElem?_eq_some_iff.mp h).1
  have em : (os.set i (a, oo')).map (·.1) = os.map (·.1) := by
    rw [List.map_set]
    refine List.ext_getElem? fun j => ?_
    by_cases hj : i = j
    · subst hj
      rw [List.getElem?_set_self (by simpa using hi), List.getElem?_map, h]; rfl
    · rw [List.getElem?_set_ne hj]
  refine ⟨fun b u e => ?_, fun b u e => ?_, r.fv, fun q hq => ?_, by rw [em]; exact r.nd⟩
  · rw [upd_ne (ne_of_none e h1)]; exact r.fr b u e
  · rw [upd_ne (ne_of_none e h2)]; exact r.vi b u e
  · obtain ⟨j, hj⟩ := List.getElem?_of_mem hq
    by_cases hij : i = j
    · subst hij
      rw [List.getElem?_set_self hi] at hj
      have e := Option.some.inj hj
      subst e
      exact ⟨h1, h2, ho, upd_same, ro⟩
    · rw [List.getElem?_set_ne hij] at hj
      obtain ⟨k1, k2, ho', k3, k4⟩ := r.own q (List.mem_of_getElem? hj)
      have ne : q.1 ≠ a := fun e => by
        have e1 : (os.map (·.1))[i]? = some a := by rw [List.getElem?_map, h]; rfl
        have e2 : (os.map (·.1))[j]? = some a := by rw [List.getElem?_map, hj]; exact congrArg some e
        exact hij (nd_ix r.nd e1 e2)
      exact ⟨k1, k2, ho', by rw [upd_ne ne]; exact k3, k4⟩
theorem Rel.perm (r : Rel K F V0 os H) {os' : Os} (h : os.Perm os') : Rel K F V0 os' H :=
  ⟨r.fr, r.vi, r.fv, fun q hq => r.own q (h.mem_iff.mpr hq), (h.map _).nodup_iff.mp r.nd⟩
/-- fewer owned things are told -/
theorem Rel.drop (r : Rel K F V0 os H) {os' : Os} (h : os'.Sublist os) : Rel K F V0 os' H :=
  ⟨r.fr, r.vi, r.fv, fun q hq => r.own q (h.subset hq), r.nd.sublist (h.map _)⟩
/-- an owned list becomes data -/
theorem Rel.freeze (r : Rel K F V0 os H) {i : Nat} {a : Addr} {ds : List D} (h : os[i]? = some (a, .lst ds)) :
    ∃ V1, Same V0 V1 ∧ Rel K F V1 (os.eraseIdx i) H ∧ Rp K V1 (.ref a) (.lst ds) := by
  obtain ⟨h1, h2, ho, h3, vs, rfl, h4⟩ := r.own _ (List.mem_of_getElem? h)
  have sv : Same V0 (upd V0 a (.lst vs)) := same_upd h2
  refine ⟨upd V0 a (.lst vs), sv, ⟨r.fr, fun b u e => ?_, fun b u e => ?_, fun q hq => ?_, r.nd.sublist ((List.eraseIdx_sublist _ _).map _)⟩, .lst (.inl (.inl upd_same)) (RpA.mono sv h4)⟩
  · by_cases hb : b = a
    · subst hb; rw [upd_same] at e; cases e; exact h3
    · rw [upd_ne hb] at e; exact r.vi b u e
  · rw [upd_ne (ne_of_none e h1)]; exact r.fv b u e
  · obtain ⟨j, hj⟩ := List.getElem?_of_mem hq
    obtain ⟨k1, k2, ho', k3, k4⟩ := r.own q ((List.eraseIdx_sublist _ _).subset hq)
    have ne : q.1 ≠ a := fun e => by
      have e1 : (os.map (·.1))[i]? = some a := by rw [List.getElem?_map, h]; rfl
      rw [List.getElem?_eraseIdx] at hj
      split at hj
      · have e2 : (os.map (·.1))[j]? = some a := by rw [List.getElem?_map, hj]; exact congrArg some e
        have := nd_ix r.nd e1 e2
        omega
      · have e2 : (os.map (·.1))[j + 1]? = some a := by rw [List.getElem?_map, hj]; exact congrArg some e
        have := nd_ix r.nd e1 e2
        omega
    exact ⟨k1, by rw [upd_ne ne]; exact k2, ho', k3, k4.mono sv⟩
end

/-- a part of the owned things goes to the frame, and comes back -/
theorem Rel.frame {K : PySem.W.Frag} {F V0 H : Hp} {of or : Os} (r : Rel K F V0 (of ++ or) H) :
    ∃ F2 : Hp, Rel K F2 V0 of H ∧ ∀ (V1 : Hp) (os1 : Os) (H1 : Hp), Same V0 V1 → Rel K F2 V1 os1 H1 → Rel K F V1 (os1 ++ or) H1 := by
  have nd := r.nd
  rw [List.map_append, List.nodup_append] at nd
  obtain ⟨nd1, nd2, nd3⟩ := nd
  refine ⟨fun a => if a ∈ or.map (·.1) then H a else F a, ⟨fun a o e => ?_, r.vi, fun a o e => ?_, fun q hq => ?_, nd1⟩, fun V1 os1 H1 sv r1 => ?_⟩
  · (try dsimp only at e)
    split at e
    · exact e
    · exact r.fr a o e
  · (try dsimp only at e)
    split at e
    · rename_i hm
      obtain ⟨q, hq, rfl⟩ := List.mem_map.mp hm
      exact (r.own q (List.mem_append_right _ hq)).2.1
    · exact r.fv a o e
  · obtain ⟨h1, h2, h3⟩ := r.own q (List.mem_append_left _ hq)
    refine ⟨?_, h2, h3⟩
    (try dsimp only)
    rw [if_neg fun hm => nd3 q.1 (List.mem_map.mpr ⟨q, hq, rfl⟩) q.1 hm rfl]
    exact h1
  · have inF : ∀ q ∈ or, ∃ ho, H q.1 = some ho ∧ RO K V0 ho q.2 ∧ H1 q.1 = some ho ∧ V1 q.1 = none ∧ F q.1 = none := fun q hq => by
      obtain ⟨k1, k2, ho, k3, k4⟩ := r.own q (List.mem_append_right _ hq)
      have e : (if q.1 ∈ or.map (·.1) then H q.1 else F q.1) = some ho := by rw [if_pos (List.mem_map.mpr ⟨q, hq, rfl⟩)]; exact k3
      exact ⟨ho, k3, k4, r1.fr q.1 ho e, r1.fv q.1 ho e, k1⟩
    refine ⟨fun a o e => ?_, r1.vi, fun a o e => ?_, fun q hq => ?_, ?_⟩
    · by_cases hm : a ∈ or.map (·.1)
      · obtain ⟨q, hq, rfl⟩ := List.mem_map.mp hm
        obtain ⟨_, _, _, _, _, kf⟩ := inF q hq
        rw [kf] at e; cases e
      · exact r1.fr a o (by (try dsimp only); rw [if_neg hm]; exact e)
    · by_cases hm : a ∈ or.map (·.1)
      · obtain ⟨q, hq, rfl⟩ := List.mem_map.mp hm
        obtain ⟨_, _, _, _, kv, _⟩ := inF q hq
        exact kv
      · exact r1.fv a o (by (try dsimp only); rw [if_neg hm]; exact e)
    · rcases List.mem_append.mp hq with hq | hq
      · obtain ⟨k1, k2, k3⟩ := r1.own q hq
        refine ⟨?_, k2, k3⟩
        (try dsimp only at k1)
        split at k1
        · rename_i hm
          obtain ⟨q', hq', e⟩ := List.mem_map.mp hm
          obtain ⟨ho, e1, _⟩ := inF q' hq'
          rw [e, k1] at e1; cases e1
        · exact k1
      · obtain ⟨ho, k3, k4, k5, k6, k7⟩ := inF q hq
        exact ⟨k7, k6, ho, k5, k4.mono sv⟩
    · rw [List.map_append, List.nodup_append]
      refine ⟨r1.nd, nd2, fun a ha b hb e => ?_⟩
      subst e
      obtain ⟨q, hq, rfl⟩ := List.mem_map.mp ha
      obtain ⟨k1, _⟩ := r1.own q hq
      obtain ⟨q', hq', e⟩ := List.mem_map.mp hb
      obtain ⟨ho, e1, _⟩ := inF q' hq'
      (try dsimp only at k1)
      rw [if_pos hb] at k1
      rw [e, k1] at e1; cases e1
/-- the frame's slots -/
abbrev DEnv := List (Option D)
def SR (K : PySem.W.Frag) (V0 : Hp) (σ : L2.St) (env : DEnv) : Prop := σ.length = env.length ∧ ∀ (i : Nat) (w : D), env[i]? = some (some w) → ∃ v : V, σ[i]? = some (some v) ∧ Rp K V0 v w
theorem SR.mono {K : PySem.W.Frag} {V0 V1 : Hp} (e : Same V0 V1) {σ : L2.St} {env : DEnv} (h : SR K V0 σ env) : SR K V1 σ env :=
  ⟨h.1, fun i w q => let ⟨v, a, b⟩ := h.2 i w q; ⟨v, a, b.mono e⟩⟩
theorem SR.set {K : PySem.W.Frag} {V0 : Hp} {σ : L2.St} {env : DEnv} (h : SR K V0 σ env) {v : V} {w : D} (r : Rp K V0 v w) (i : Nat) : SR K V0 (σ.set i (some v)) (env.set i (some w)) := by
  refine ⟨by rw [List.length_set, List.length_set]; exact h.1, fun j u q => ?_⟩
  by_cases e : i = j
  · subst e
    have hi : i < env.length := by
      have := (List.getElem?_eq_some_iff.mp q).1
      rw [List.length_set] at this; exact this
    rw [List.getElem?_set_self hi] at q
    cases q
    exact ⟨v, by rw [List.getElem?_set_self (by rw [h.1]; exact hi)], r⟩
  · rw [List.getElem?_set_ne e] at q ⊢
    exact h.2 j u q

/-! ### canonical readings -/
@[irreducible] def wE (X : Cx) (e : Expr) : TE := fun σ H Q => ∀ (pins : List (Addr × Obj)) (s : Shared), Inv X pins σ H s → wpAny (model X.prog X.w) X.A (eval e X.env) (EP X pins σ Q) X.xe s
theorem wE_mk {X : Cx} {e : Expr} {σ : L2.St} {H : Hp} {Q : VK} (h : ∀ (pins : List (Addr × Obj)) (s : Shared), Inv X pins σ H s → wpAny (model X.prog X.w) X.A (eval e X.env) (EP X pins σ Q) X.xe s) : wE X e σ H Q := by unfold wE; exact h
theorem wE_run {X : Cx} {e : Expr} {σ : L2.St} {H : Hp} {Q : VK} (h : wE X e σ H Q) : ∀ (pins : List (Addr × Obj)) (s : Shared), Inv X pins σ H s → wpAny (model X.prog X.w) X.A (eval e X.env) (EP X pins σ Q) X.xe s := by unfold wE at h; exact h
theorem wE_pe {X : Cx} {e : Expr} : PE X e (wE X e) := by unfold wE; exact ⟨fun pins s _ _ _ I h => h pins s I⟩
theorem wE_of {X : Cx} {e : Expr} {t : TE} (h : PE X e t) {σ : L2.St} {H : Hp} {Q : VK} (q : t σ H Q) : wE X e σ H Q := by unfold wE; exact fun pins s I => h.run pins s σ H Q I q
@[irreducible] def wTt (X : Cx) (e : Expr) : TT := fun σ H Q => ∀ (pins : List (Addr × Obj)) (s : Shared), Inv X pins σ H s → wpAny (model X.prog X.w) X.A (isTrue e X.env (eval e X.env)) (TP X pins σ Q) X.xe s
theorem wTt_pt {X : Cx} {e : Expr} : PT X e (wTt X e) := by unfold wTt; exact ⟨fun pins s _ _ _ I h => h pins s I⟩
theorem wTt_of {X : Cx} {e : Expr} {t : TT} (h : PT X e t) {σ : L2.St} {H : Hp} {Q : Bool → Hp → Prop} (q : t σ H Q) : wTt X e σ H Q := by unfold wTt; exact fun pins s I => h.run pins s σ H Q I q
@[irreducible] def wPW (X : Cx) (e : Expr) : TT := fun σ H Q => ∀ (whole : Sem Value) (pins : List (Addr × Obj)) (s : Shared), Inv X pins σ H s → wpAny (model X.prog X.w) X.A (isTrue e X.env whole) (TP X pins σ Q) X.xe s
theorem wPW_pw {X : Cx} {e : Expr} : PW X e (wPW X e) := by unfold wPW; exact ⟨fun wh pins s _ _ _ I h => h wh pins s I⟩
theorem wPW_of {X : Cx} {e : Expr} {t : TT} (h : PW X e t) {σ : L2.St} {H : Hp} {Q : Bool → Hp → Prop} (q : t σ H Q) : wPW X e σ H Q := by unfold wPW; exact fun wh pins s I => h.run wh pins s σ H Q I q
@[irreducible] def wA (X : Cx) (es : List Expr) : TA := fun σ H Q => ∀ (pos : Pos) (pins : List (Addr × Obj)) (s : Shared), Inv X pins σ H s → wpAny (model X.prog X.w) X.A (spliced (backTo pos (starEach es X.env))) (AP X pins σ Q) X.xe s
theorem wA_pa {X : Cx} {es : List Expr} : PA X es (wA X es) := by unfold wA; exact ⟨fun pos pins s _ _ _ I h => h pos pins s I⟩
theorem wA_of {X : Cx} {es : List Expr} {t : TA} (h : PA X es t) {σ : L2.St} {H : Hp} {Q : List V → Hp → Prop} (q : t σ H Q) : wA X es σ H Q := by unfold wA; exact fun pos pins s I => h.run pos pins s σ H Q I q
@[irreducible] def wS1 (X : Cx) (st : Stmt) : TS := fun D σ H => ∀ (pins : List (Addr × Obj)) (s : Shared), Inv X pins σ H s → wpAny (model X.prog X.w) X.A (exec st X.env) (SP X pins D) X.xe s
theorem wS1_ps {X : Cx} {st : Stmt} : PS X st (wS1 X st) := by unfold wS1; exact ⟨fun pins s _ _ _ I h => h pins s I⟩
theorem wS1_of {X : Cx} {st : Stmt} {t : TS} (h : PS X st t) {σ : L2.St} {H : Hp} {D : Ends} (q : t D σ H) : wS1 X st D σ H := by unfold wS1; exact fun pins s I => h.run pins s σ H D I q
@[irreducible] def wSs (X : Cx) (sts : List Stmt) : TS := fun D σ H => ∀ (pins : List (Addr × Obj)) (s : Shared), Inv X pins σ H s → wpAny (model X.prog X.w) X.A (execs sts X.env) (SP X pins D) X.xe s
theorem wSs_pss {X : Cx} {sts : List Stmt} : PSs X sts (wSs X sts) := by unfold wSs; exact ⟨fun pins s _ _ _ I h => h pins s I⟩
theorem wSs_of {X : Cx} {sts : List Stmt} {t : TS} (h : PSs X sts t) {σ : L2.St} {H : Hp} {D : Ends} (q : t D σ H) : wSs X sts D σ H := by unfold wSs; exact fun pins s I => h.run pins s σ H D I q
@[irreducible] def wG (X : Cx) (tg : Expr) : TG := fun v σ H Q => ∀ (pins : List (Addr × Obj)) (s : Shared) (u : Value), Inv X pins σ H s → RelV v u → wpAny (model X.prog X.w) X.A (assign tg X.env u) (fun _ s' => ∃ σ' H', Inv X pins σ' H' s' ∧ Q σ' H') X.xe s
theorem wG_pg {X : Cx} {tg : Expr} : PG X tg (wG X tg) := by unfold wG; exact ⟨fun pins s _ _ _ u _ I r h => h pins s u I r⟩
theorem wG_of {X : Cx} {tg : Expr} {t : TG} (h : PG X tg t) {σ : L2.St} {H : Hp} {v : V} {Q : L2.St → Hp → Prop} (q : t v σ H Q) : wG X tg v σ H Q := by unfold wG; exact fun pins s u I r => h.run pins s σ H v u Q I r q
@[irreducible] def wGs (X : Cx) (tgs : List Expr) : TGs := fun vs σ H Q => ∀ (pins : List (Addr × Obj)) (s : Shared) (us : List Value), Inv X pins σ H s → Vals vs us → wpAny (model X.prog X.w) X.A (assignInOrder ((assignEach tgs X.env).map (·.2)) us) (fun _ s' => ∃ σ' H', Inv X pins σ' H' s' ∧ Q σ' H') X.xe s
theorem wGs_pgs {X : Cx} {tgs : List Expr} : PGs X tgs (wGs X tgs) := by unfold wGs; exact ⟨fun pins s _ _ _ us _ I r h => h pins s us I r⟩
theorem wGs_of {X : Cx} {tgs : List Expr} {t : TGs} (h : PGs X tgs t) {σ : L2.St} {H : Hp} {vs : List V} {Q : L2.St → Hp → Prop} (q : t vs σ H Q) : wGs X tgs vs σ H Q := by unfold wGs; exact fun pins s us I r => h.run pins s σ H vs us Q I r q
/-- a two-place operation on values -/
@[irreducible] def wO (X : Cx) (f : Value → Value → Sem Value) : R2 := fun x y H Q => ∀ (pins : List (Addr × Obj)) (s : Shared) (σ : L2.St) (v u : Value), Inv X pins σ H s → RelV x v → RelV y u → wpAny (model X.prog X.w) X.A (f v u) (EP X pins σ Q) X.xe s
theorem wO_mk {X : Cx} {f : Value → Value → Sem Value} {x y : V} {H : Hp} {Q : VK} (h : ∀ (pins : List (Addr × Obj)) (s : Shared) (σ : L2.St) (v u : Value), Inv X pins σ H s → RelV x v → RelV y u → wpAny (model X.prog X.w) X.A (f v u) (EP X pins σ Q) X.xe s) : wO X f x y H Q := by unfold wO; exact h
theorem wO_op {X : Cx} {f : Value → Value → Sem Value} : OpR X f (wO X f) := by unfold wO; exact fun pins s σ _ _ _ v u _ I r1 r2 h => h pins s σ v u I r1 r2
theorem wO_of {X : Cx} {f : Value → Value → Sem Value} {r : R2} (h : OpR X f r) {x y : V} {H : Hp} {Q : VK} (q : r x y H Q) : wO X f x y H Q := by unfold wO; exact fun pins s σ v u I r1 r2 => h pins s σ H x y v u Q I r1 r2 q
end EV

set_option Elab.async false
set_option linter.all false
set_option maxRecDepth 100000
/-! E2: judgements over plain values, and what an expression does as a transformer. -/
namespace EV
open PySem PySem.Spec PyProof.Rows L2

/-- an exception in the air: its class, its fields -/
structure Exn where
  C : Addr
  fs : List (Nat × D)
def ExnR (K : PySem.W.Frag) (V1 : Hp) (cls : Value) (d : Option Addr) (x : Exn) : Prop := cls = .ref x.C ∧ ∃ (dx : Addr) (vf : List (Str × V)), d = some dx ∧ V1 dx = some (.xd vf) ∧ RF K V1 vf x.fs
theorem ExnR.mono {K : PySem.W.Frag} {V1 V2 : Hp} {cls : Value} {d : Option Addr} {x : Exn} (s : Same V1 V2) (h : ExnR K V1 cls d x) : ExnR K V2 cls d x :=
  let ⟨e, dx, vf, e1, e2, r⟩ := h
  ⟨e, dx, vf, e1, s _ _ e2, Paired.mapP r fun _ _ z => ⟨z.1, z.2.mono s⟩⟩
abbrev Kx := Exn → Os → Prop
structure XkOk (X : Cx) (F V0 : Hp) (σ : L2.St) (kx : Kx) (W : WX) : Prop where
  tk : Takes X W
  ex : ∀ (V1 : Hp) (os1 : Os) (H1 : Hp) (cls : Value) (d : Option Addr) (x : Exn), Same V0 V1 → Rel X.K F V1 os1 H1 → ExnR X.K V1 cls d x → kx x os1 → W cls d σ H1
theorem XkOk.mono {X : Cx} {F V0 V1 : Hp} {σ : L2.St} {kx : Kx} {W : WX} (h : XkOk X F V0 σ kx W) (s : Same V0 V1) : XkOk X F V1 σ kx W :=
  ⟨h.tk, fun V2 os1 H1 cls d x s2 => h.ex V2 os1 H1 cls d x (s.trans s2)⟩
theorem XkOk.none {X : Cx} {F V0 : Hp} {σ : L2.St} : XkOk X F V0 σ (fun _ _ => False) (fun _ _ _ _ => False) := ⟨takes0, fun _ _ _ _ _ _ _ _ _ z => z⟩

def JE (X : Cx) (kx : Kx) (e : Expr) (env : DEnv) (os : Os) (k : D → Os → Prop) : Prop :=
  ∀ (F V0 H : Hp) (σ : L2.St) (Q : VK) (W : WX), Rel X.K F V0 os H → SR X.K V0 σ env → XkOk X F V0 σ kx W →
    (∀ (V1 : Hp) (os1 : Os) (H1 : Hp) (v : V) (w : D), Same V0 V1 → Rel X.K F V1 os1 H1 → Rp X.K V1 v w → k w os1 → Q v H1) → wE X e σ H Q
def JT (X : Cx) (kx : Kx) (e : Expr) (env : DEnv) (os : Os) (k : Bool → Os → Prop) : Prop :=
  ∀ (F V0 H : Hp) (σ : L2.St) (Q : Bool → Hp → Prop) (W : WX), Rel X.K F V0 os H → SR X.K V0 σ env → XkOk X F V0 σ kx W →
    (∀ (V1 : Hp) (os1 : Os) (H1 : Hp) (b : Bool), Same V0 V1 → Rel X.K F V1 os1 H1 → k b os1 → Q b H1) → wTt X e σ H Q
def JPW (X : Cx) (kx : Kx) (e : Expr) (env : DEnv) (os : Os) (k : Bool → Os → Prop) : Prop :=
  ∀ (F V0 H : Hp) (σ : L2.St) (Q : Bool → Hp → Prop) (W : WX), Rel X.K F V0 os H → SR X.K V0 σ env → XkOk X F V0 σ kx W →
    (∀ (V1 : Hp) (os1 : Os) (H1 : Hp) (b : Bool), Same V0 V1 → Rel X.K F V1 os1 H1 → k b os1 → Q b H1) → wPW X e σ H Q
def JA (X : Cx) (kx : Kx) (es : List Expr) (env : DEnv) (os : Os) (k : List D → Os → Prop) : Prop :=
  ∀ (F V0 H : Hp) (σ : L2.St) (Q : List V → Hp → Prop) (W : WX), Rel X.K F V0 os H → SR X.K V0 σ env → XkOk X F V0 σ kx W →
    (∀ (V1 : Hp) (os1 : Os) (H1 : Hp) (vs : List V) (ws : List D), Same V0 V1 → Rel X.K F V1 os1 H1 → RpA X.K V1 vs ws → k ws os1 → Q vs H1) → wA X es σ H Q
/-- a two-place operation by values -/
def JO (X : Cx) (f : Value → Value → Sem Value) (x y : D) (os : Os) (k : D → Os → Prop) : Prop :=
  ∀ (F V0 H : Hp) (v u : V) (Q : VK), Rel X.K F V0 os H → Rp X.K V0 v x → Rp X.K V0 u y →
    (∀ (V1 : Hp) (os1 : Os) (H1 : Hp) (z : V) (w : D), Same V0 V1 → Rel X.K F V1 os1 H1 → Rp X.K V1 z w → k w os1 → Q z H1) → wO X f v u H Q
theorem JE.mono {X : Cx} {kx : Kx} {e : Expr} {env : DEnv} {os : Os} {k k' : D → Os → Prop} (h : JE X kx e env os k) (hk : ∀ w o, k w o → k' w o) : JE X kx e env os k' :=
  fun F V0 H σ Q W r sr ek c => h F V0 H σ Q W r sr ek fun V1 o1 H1 v w a b d q => c V1 o1 H1 v w a b d (hk _ _ q)
theorem JE.drop {X : Cx} {kx : Kx} {e : Expr} {env : DEnv} {os os' : Os} {k : D → Os → Prop} (s : os'.Sublist os) (h : JE X kx e env os' k) : JE X kx e env os k := fun F V0 H σ Q W r => h F V0 H σ Q W (r.drop s)

/-! ### transformers -/
abbrev TrE := Kx → DEnv → Os → (D → Os → Prop) → Prop
abbrev TrT := Kx → DEnv → Os → (Bool → Os → Prop) → Prop
abbrev TrA := Kx → DEnv → Os → (List D → Os → Prop) → Prop
abbrev TrO := D → D → Os → (D → Os → Prop) → Prop
def Cm (X : Cx) (e : Expr) (t : TrE) : Prop := ∀ kx env os k, t kx env os k → JE X kx e env os k
def CmT (X : Cx) (e : Expr) (t : TrT) : Prop := ∀ kx env os k, t kx env os k → JT X kx e env os k
def CmPW (X : Cx) (e : Expr) (t : TrT) : Prop := ∀ kx env os k, t kx env os k → JPW X kx e env os k
def CmA (X : Cx) (es : List Expr) (t : TrA) (n : Nat) : Prop := es.length = n ∧ ∀ kx env os k, t kx env os k → JA X kx es env os fun ws os1 => ws.length = n ∧ k ws os1
def CmO (X : Cx) (f : Value → Value → Sem Value) (t : TrO) : Prop := ∀ x y os k, t x y os k → JO X f x y os k

/-- slots -/
def getE : DEnv → Nat → Option D
  | [], _ => none
  | x :: _, 0 => x
  | _ :: r, n + 1 => getE r n
def setE : DEnv → Nat → Option D → DEnv
  | [], _, _ => []
  | _ :: r, 0, y => y :: r
  | x :: r, n + 1, y => x :: setE r n y
theorem getE_eq : ∀ (env : DEnv) (i : Nat) (w : D), getE env i = some w → env[i]? = some (some w)
  | [], _, _, h => by cases h
  | x :: _, 0, w, h => by
    have h : x = some w := h
    rw [h]; rfl
  | _ :: r, n + 1, w, h => getE_eq r n w h
theorem setE_eq : ∀ (env : DEnv) (i : Nat) (y : Option D), setE env i y = env.set i y
  | [], _, _ => rfl
  | _ :: _, 0, _ => rfl
  | _ :: r, n + 1, y => congrArg (_ :: ·) (setE_eq r n y)

theorem rwI {K : PySem.W.Frag} {H : Hp} {i : Int} : Rp K H (.int i) (.int i) := .int i
theorem rwB {K : PySem.W.Frag} {H : Hp} {i : Bool} : Rp K H (.bl i) (.bl i) := .bl i
theorem rwS {K : PySem.W.Frag} {H : Hp} {i : Str} : Rp K H (.str i) (.str i) := .str i
theorem rwN {K : PySem.W.Frag} {H : Hp} : Rp K H .non .non := .non

section
variable {X : Cx} {kx : Kx} {env : DEnv} {os : Os} {k : D → Os → Prop} {kb : Bool → Os → Prop} {pos : Pos} {a b c e : Expr} {ta tb te : TrE}
theorem je_pure {t : TE} {w : D} (h : PE X e t) (hr : ∀ (F V0 H : Hp) (σ : L2.St) (Q : VK), Rel X.K F V0 os H → SR X.K V0 σ env → (∀ v, Rp X.K V0 v w → Q v H) → t σ H Q) (q : k w os) : JE X kx e env os k :=
  fun F V0 H σ Q W r sr ek c => wE_of h (hr F V0 H σ Q r sr fun v rv => c V0 os H v w (Same.refl _) r rv q)
def eV (i : Nat) : TrE := fun _ env os k => match getE env i with
  | some w => k w os
  | none => False
theorem cm_v {i : Nat} {x : Str} (hN : X.N[i]? = some x) (hv : Vis X.env.scope x) (hd : (x == ("__debug__" : Str)) = false) (hcd : (x == ("__classdict__" : Str)) = false) : Cm X (.Name x pos) (eV i) := by
  intro kx env os k h
  unfold eV at h
  split at h
  · rename_i w he
    refine je_pure (w := w) (pe_var hN hv hd hcd) (fun F V0 H σ Q r sr c => ?_) h
    obtain ⟨v, e1, r1⟩ := sr.2 i w (getE_eq _ _ _ he)
    exact ⟨v, e1, c v r1⟩
  · exact h.elim
/-- a value known beforehand -/
def eC (d : D) : TrE := fun _ _ os k => k d os
theorem cm_int {i : Int} {j} : Cm X (.Constant (.int i) j pos) (eC (.int i)) := fun _ _ _ _ q => je_pure (w := .int i) pe_int (fun _ _ _ _ _ _ _ c => c _ rwI) q
theorem cm_str {x : Str} {j} : Cm X (.Constant (.str x) j pos) (eC (.str x)) := fun _ _ _ _ q => je_pure (w := .str x) pe_str (fun _ _ _ _ _ _ _ c => c _ rwS) q
theorem cm_bl {x : Bool} {j} : Cm X (.Constant (.bool x) j pos) (eC (.bl x)) := fun _ _ _ _ q => je_pure (w := .bl x) pe_bl (fun _ _ _ _ _ _ _ c => c _ rwB) q
theorem cm_non {j} : Cm X (.Constant .none j pos) (eC .non) := fun _ _ _ _ q => je_pure (w := .non) pe_non (fun _ _ _ _ _ _ _ c => c _ rwN) q
/-- a constant of the module -/
structure Glb (K : PySem.W.Frag) (mg : Str → Option Value) (x : Str) (d : D) : Prop where
  ex : ∃ (v : V) (u : Value), mg x = some u ∧ RelV v u ∧ ∀ V0 : Hp, Rp K V0 v d
theorem cm_glob {x : Str} {d : D} (g : Glb X.K X.mg x d) (hg : Gl X x) (hd : (x == ("__debug__" : Str)) = false) : Cm X (.Name x pos) (eC d) := fun _ _ _ _ q => by
  obtain ⟨v, u, h1, h2, h3⟩ := g.ex
  exact je_pure (w := d) (pe_glob hg h1 h2 hd) (fun _ V0 _ _ _ _ _ c => c _ (h3 V0)) q
/-- a built-in class as a value -/
theorem cm_ty {x : Str} {n : String} (hv : bootBuiltins x = some (.type n)) (hm : X.mg x = none) (hg : Gl X x) (hn : x ≠ "__name__") (hd : (x == ("__debug__" : Str)) = false) : Cm X (.Name x pos) (eC (.ty n)) := fun _ _ _ _ q =>
  je_pure (w := .ty n) (pe_bltn hg hm hv (v := .ty n) rfl hn hd) (fun _ _ _ _ _ _ _ c => c _ (Rp.ty n)) q

/-! ### operators -/
def eBin (o : TrO) (ta tb : TrE) : TrE := fun kx env os k => ta kx env os fun x os1 => tb kx env os1 fun y os2 => o x y os2 k
theorem cm_bin {op : Operator} {o : TrO} (ho : CmO X (binaryOp op) o) (ha : Cm X a ta) (hb : Cm X b tb) : Cm X (.BinOp a op b pos) (eBin o ta tb) := by
  intro kx env os k h F V0 H σ Q W r sr ek c
  refine wE_of (pe_op (r := wO X (binaryOp op)) wO_op wE_pe wE_pe) ?_
  refine ha _ _ _ _ h F V0 H σ _ W r sr ek fun V1 os1 H1 v x s1 r1 rx hx => ?_
  refine hb _ _ _ _ hx F V1 H1 σ _ W r1 (sr.mono s1) (ek.mono s1) fun V2 os2 H2 u y s2 r2 ry hy => ?_
  exact ho _ _ _ _ hy F V2 H2 v u Q r2 (rx.mono s2) ry fun V3 os3 H3 z w s3 r3 rw' q => c V3 os3 H3 z w ((s1.trans s2).trans s3) r3 rw' q
theorem cm_cmp {op : CmpOp} {o : TrO} (ho : CmO X (compareOp op) o) (ha : Cm X a ta) (hb : Cm X b tb) (hm : behindInMarks op b = false) : Cm X (.Compare a [op] [b] pos) (eBin o ta tb) := by
  intro kx env os k h F V0 H σ Q W r sr ek c
  refine wE_of (pe_cmpR (r := wO X (compareOp op)) wO_op wE_pe wE_pe hm) ?_
  refine ha _ _ _ _ h F V0 H σ _ W r sr ek fun V1 os1 H1 v x s1 r1 rx hx => ?_
  refine hb _ _ _ _ hx F V1 H1 σ _ W r1 (sr.mono s1) (ek.mono s1) fun V2 os2 H2 u y s2 r2 ry hy => ?_
  exact ho _ _ _ _ hy F V2 H2 v u Q r2 (rx.mono s2) ry fun V3 os3 H3 z w s3 r3 rw' q => c V3 os3 H3 z w ((s1.trans s2).trans s3) r3 rw' q
/-- the answer of a test among values -/
def onB (kb : Bool → Os → Prop) (w : D) (os : Os) : Prop := match w with
  | .bl b => kb b os
  | _ => False
def tCmp (o : TrO) (ta tb : TrE) : TrT := fun kx env os kb => ta kx env os fun x os1 => tb kx env os1 fun y os2 => o x y os2 (onB kb)
theorem onB_bl {kb : Bool → Os → Prop} {w : D} {os : Os} (h : onB kb w os) : ∃ b, w = .bl b ∧ kb b os := by
  unfold onB at h
  split at h
  · exact ⟨_, rfl, h⟩
  · exact h.elim
theorem ct_cmp {op : CmpOp} {o : TrO} (ho : CmO X (compareOp op) o) (ha : Cm X a ta) (hb : Cm X b tb) (hm : behindInMarks op b = false) : CmT X (.Compare a [op] [b] pos) (tCmp o ta tb) := by
  intro kx env os k h F V0 H σ Q W r sr ek c
  refine wTt_of (pt_cmpR (r := wO X (compareOp op)) wO_op wE_pe wE_pe hm) ?_
  refine ha _ _ _ _ h F V0 H σ _ W r sr ek fun V1 os1 H1 v x s1 r1 rx hx => ?_
  refine hb _ _ _ _ hx F V1 H1 σ _ W r1 (sr.mono s1) (ek.mono s1) fun V2 os2 H2 u y s2 r2 ry hy => ?_
  refine ho _ _ _ _ hy F V2 H2 v u _ r2 (rx.mono s2) ry fun V3 os3 H3 z w s3 r3 rw' q => ?_
  obtain ⟨bo, e, q⟩ := onB_bl q
  subst e
  cases rw'
  exact ⟨bo, rfl, c V3 os3 H3 bo ((s1.trans s2).trans s3) r3 q⟩
/-- a op1 b op2 c as a test -/
def tChain (o o' : TrO) (ta tb tc : TrE) : TrT := fun kx env os kb => ta kx env os fun x os1 => tb kx env os1 fun y os2 => o x y os2 fun w os3 => onB (fun b1 os3 =>
  (b1 = true → tc kx env os3 fun z os4 => o' y z os4 (onB kb)) ∧ (b1 = false → kb false os3)) w os3
theorem ct_chain {op op' : CmpOp} {o o' : TrO} {tc : TrE} (ho : CmO X (compareOp op) o) (ho' : CmO X (compareOp op') o') (ha : Cm X a ta) (hb : Cm X b tb) (hc : Cm X c tc)
    (hm : lastMarks [op, op'] [b, c] = false) : CmT X (.Compare a [op, op'] [b, c] pos) (tChain o o' ta tb tc) := by
  intro kx env os k h F V0 H σ Q W r sr ek cc
  refine wTt_of (pt_chain (r := wO X (compareOp op)) (r' := wO X (compareOp op')) wO_op wO_op wE_pe wE_pe wE_pe hm) ?_
  refine ha _ _ _ _ h F V0 H σ _ W r sr ek fun V1 os1 H1 v x s1 r1 rx hx => ?_
  refine hb _ _ _ _ hx F V1 H1 σ _ W r1 (sr.mono s1) (ek.mono s1) fun V2 os2 H2 u y s2 r2 ry hy => ?_
  refine ho _ _ _ _ hy F V2 H2 v u _ r2 (rx.mono s2) ry fun V3 os3 H3 z w s3 r3 rw' q => ?_
  obtain ⟨bo, e, q1, q2⟩ := onB_bl q
  subst e
  cases rw'
  refine ⟨bo, rfl, ?_⟩
  cases bo with
  | false => exact iteF ⟨false, rfl, cc V3 os3 H3 false ((s1.trans s2).trans s3) r3 (q2 rfl)⟩
  | true =>
    refine iteT ?_
    refine hc _ _ _ _ (q1 rfl) F V3 H3 σ _ W r3 (sr.mono ((s1.trans s2).trans s3)) (ek.mono ((s1.trans s2).trans s3)) fun V4 os4 H4 v4 z4 s4 r4 rz hz => ?_
    refine ho' _ _ _ _ hz F V4 H4 u v4 _ r4 (ry.mono (s3.trans s4)) rz fun V5 os5 H5 z5 w5 s5 r5 rw5 q => ?_
    obtain ⟨bo2, e2, q3⟩ := onB_bl q
    subst e2
    cases rw5
    exact ⟨bo2, rfl, cc V5 os5 H5 bo2 ((((s1.trans s2).trans s3).trans s4).trans s5) r5 q3⟩

theorem JO.mk {f : Value → Value → Sem Value} {r : R2} {x y : D} (hf : OpR X f r)
    (h : ∀ (F V0 H : Hp) (v u : V) (Q : VK), Rel X.K F V0 os H → Rp X.K V0 v x → Rp X.K V0 u y →
      (∀ (V1 : Hp) (os1 : Os) (H1 : Hp) (z : V) (w : D), Same V0 V1 → Rel X.K F V1 os1 H1 → Rp X.K V1 z w → k w os1 → Q z H1) → r v u H Q) : JO X f x y os k :=
  fun F V0 H v u Q r1 rx ry c => wO_of hf (h F V0 H v u Q r1 rx ry c)
theorem jo_rI {f : Value → Value → Sem Value} {C : Int → Int → Prop} {g : Int → Int → Int} {i j : Int} (hf : OpR X f (rI C fun i j => .int (g i j))) (hc : C i j) (q : k (.int (g i j)) os) : JO X f (.int i) (.int j) os k :=
  JO.mk hf fun F V0 H v u Q r rx ry c => by
    cases rx; cases ry
    exact ⟨i, j, rfl, rfl, hc, c V0 os H _ _ (Same.refl _) r rwI q⟩
theorem jo_rI0 {f : Value → Value → Sem Value} {g : Int → Int → Int} {i j : Int} (hf : OpR X f (rI0 fun i j => .int (g i j))) (q : k (.int (g i j)) os) : JO X f (.int i) (.int j) os k :=
  JO.mk hf fun F V0 H v u Q r rx ry c => by
    cases rx; cases ry
    exact ⟨i, j, rfl, rfl, c V0 os H _ _ (Same.refl _) r rwI q⟩
theorem jo_rB0 {f : Value → Value → Sem Value} {g : Int → Int → Bool} {i j : Int} (hf : OpR X f (rI0 fun i j => .bl (g i j))) (q : k (.bl (g i j)) os) : JO X f (.int i) (.int j) os k :=
  JO.mk hf fun F V0 H v u Q r rx ry c => by
    cases rx; cases ry
    exact ⟨i, j, rfl, rfl, c V0 os H _ _ (Same.refl _) r rwB q⟩
/-- an operation on two ints with a condition -/
def oI (C : Int → Int → Prop) (g : Int → Int → Int) : TrO := fun x y os k => match x, y with
  | .int i, .int j => C i j ∧ k (.int (g i j)) os
  | _, _ => False
def oI0 (g : Int → Int → Int) : TrO := fun x y os k => match x, y with
  | .int i, .int j => k (.int (g i j)) os
  | _, _ => False
def oB0 (g : Int → Int → Bool) : TrO := fun x y os k => match x, y with
  | .int i, .int j => k (.bl (g i j)) os
  | _, _ => False
theorem cmo_I {f : Value → Value → Sem Value} {C C' : Int → Int → Prop} {g : Int → Int → Int} (hf : OpR X f (rI C fun i j => .int (g i j))) (hc : ∀ i j, C' i j → C i j) : CmO X f (oI C' g) := by
  intro x y os k h
  unfold oI at h
  split at h
  · exact jo_rI hf (hc _ _ h.1) h.2
  · exact h.elim
theorem cmo_I0 {f : Value → Value → Sem Value} {g : Int → Int → Int} (hf : OpR X f (rI0 fun i j => .int (g i j))) : CmO X f (oI0 g) := by
  intro x y os k h
  unfold oI0 at h
  split at h
  · exact jo_rI0 hf h
  · exact h.elim
theorem cmo_B0 {f : Value → Value → Sem Value} {g : Int → Int → Bool} (hf : OpR X f (rI0 fun i j => .bl (g i j))) : CmO X f (oB0 g) := by
  intro x y os k h
  unfold oB0 at h
  split at h
  · exact jo_rB0 hf h
  · exact h.elim
def MulOk (i j : Int) : Prop := (-18446744073709551616 < i ∧ i < 18446744073709551616) ∨ (-18446744073709551616 < j ∧ j < 18446744073709551616) ∨ CMulW i j
def DivOk (_ j : Int) : Prop := 0 < j ∧ j < 340282366920938463463374607431768211456
def ModOk (_ j : Int) : Prop := 0 < j
def PowOk (i j : Int) : Prop := 0 ≤ j ∧ j ≤ 1000000 ∧ -18446744073709551616 < i ∧ i < 18446744073709551616
def ShrOk (_ j : Int) : Prop := 0 ≤ j
def oSub : TrO := fun x y os k => match x, y with
  | .int i, .int j => k (.int (i - j)) os
  | _, _ => False
def oMul : TrO := fun x y os k => match x, y with
  | .int i, .int j => MulOk i j ∧ k (.int (i * j)) os
  | _, _ => False
def oDiv : TrO := fun x y os k => match x, y with
  | .int i, .int j => DivOk i j ∧ k (.int (i / j)) os
  | _, _ => False
def oMod : TrO := fun x y os k => match x, y with
  | .int i, .int j => ModOk i j ∧ k (.int (i % j)) os
  | _, _ => False
def oPow : TrO := fun x y os k => match x, y with
  | .int i, .int j => PowOk i j ∧ k (.int (i ^ j.toNat)) os
  | _, _ => False
def oShl : TrO := fun x y os k => match x, y with
  | .int i, .int j => PowOk i j ∧ k (.int (i * 2 ^ j.toNat)) os
  | _, _ => False
def oShr : TrO := fun x y os k => match x, y with
  | .int i, .int j => ShrOk i j ∧ k (.int (i / 2 ^ j.toNat)) os
  | _, _ => False
def oBand : TrO := fun x y os k => match x, y with
  | .int i, .int j => k (.int (Builtin.bitAnd i j)) os
  | _, _ => False
def oBor : TrO := fun x y os k => match x, y with
  | .int i, .int j => k (.int (Builtin.bitOr i j)) os
  | _, _ => False
def oBxor : TrO := fun x y os k => match x, y with
  | .int i, .int j => k (.int (Builtin.bitXor i j)) os
  | _, _ => False
def oLt : TrO := fun x y os k => match x, y with
  | .int i, .int j => k (.bl (decide (i < j))) os
  | _, _ => False
def oLe : TrO := fun x y os k => match x, y with
  | .int i, .int j => k (.bl (decide (i ≤ j))) os
  | _, _ => False
def oGt : TrO := fun x y os k => match x, y with
  | .int i, .int j => k (.bl (decide (j < i))) os
  | _, _ => False
def oGe : TrO := fun x y os k => match x, y with
  | .int i, .int j => k (.bl (decide (j ≤ i))) os
  | _, _ => False
theorem cmo_sub : CmO X (binaryOp .Sub) oSub := cmo_I0 op_sub
theorem pow64 : (2 : Nat) ^ 64 = 18446744073709551616 := by decide
theorem cmo_mul : CmO X (binaryOp .Mult) oMul := by
  intro x y os k h
  unfold oMul at h
  split at h
  · obtain ⟨hc | hc | hc, q⟩ := h
    · exact jo_rI op_mul (.inl hc) q
    · exact jo_rI op_mul (.inr hc) q
    · exact jo_rI op_mulW hc q
  · exact h.elim
theorem cmo_div : CmO X (binaryOp .FloorDiv) oDiv := cmo_I op_fdivW fun i j h => wide_div (b := 128) h.1 (by rw [show (2 : Nat) ^ 128 = 340282366920938463463374607431768211456 from by decide]; have := h.1; have := h.2; omega) (by decide) (by decide)
theorem cmo_mod : CmO X (binaryOp .Mod) oMod := cmo_I op_mod fun _ _ h => h
theorem cmo_pow : CmO X (binaryOp .Pow) oPow := cmo_I op_pow fun i j h => ⟨h.1, h.2.1, by rw [pow64]; have := h.2.2; omega⟩
theorem cmo_shl : CmO X (binaryOp .LShift) oShl := cmo_I op_shl fun i j h => ⟨h.1, h.2.1, by rw [pow64]; have := h.2.2; omega⟩
theorem cmo_shr : CmO X (binaryOp .RShift) oShr := cmo_I op_shr fun _ _ h => h
theorem cmo_band : CmO X (binaryOp .BitAnd) oBand := cmo_I0 op_and
theorem cmo_bor : CmO X (binaryOp .BitOr) oBor := cmo_I0 op_or
theorem cmo_bxor : CmO X (binaryOp .BitXor) oBxor := cmo_I0 op_xor
theorem cmo_lt : CmO X (compareOp .Lt) oLt := cmo_B0 op_lt
theorem cmo_le : CmO X (compareOp .LtE) oLe := cmo_B0 op_le
theorem cmo_gt : CmO X (compareOp .Gt) oGt := cmo_B0 op_gt
theorem cmo_ge : CmO X (compareOp .GtE) oGe := cmo_B0 op_ge
/-- the list behind an address or in data -/
theorem rp_lst {K : PySem.W.Frag} {V0 : Hp} {v : V} {ds : List D} (h : Rp K V0 v (.lst ds)) : ∃ a xs, v = .ref a ∧ SqL K V0 a xs ∧ RpA K V0 xs ds := by
  cases h with
  | lst h1 h2 => exact ⟨_, _, rfl, h1, h2⟩
theorem rp_tup {K : PySem.W.Frag} {V0 : Hp} {v : V} {ds : List D} (h : Rp K V0 v (.tup ds)) : ∃ a xs, v = .ref a ∧ SqT K V0 a xs ∧ RpA K V0 xs ds := by
  cases h with
  | tup h1 h2 => exact ⟨_, _, rfl, h1, h2⟩
/-- w is a list of ds: data, or owned -/
def LstOf (os : Os) (w : D) (ds : List D) : Prop := match w with
  | .lst es => ds = es
  | .ref p => ∃ n : Nat, os[n]? = some (p, .lst ds)
  | _ => False
theorem lstOf_of {K : PySem.W.Frag} {F V0 H : Hp} {v : V} {w : D} {ds : List D} (r : Rel K F V0 os H) (rv : Rp K V0 v w) (h : LstOf os w ds) : ∃ a vs, v = .ref a ∧ SqL K H a vs ∧ RpA K V0 vs ds := by
  unfold LstOf at h
  split at h
  · subst h
    obtain ⟨a, xs, rfl, h1, h2⟩ := rp_lst rv
    exact ⟨a, xs, rfl, r.vi.seq h1, h2⟩
  · obtain ⟨n, ho⟩ := h
    obtain rfl := rv.toRef
    obtain ⟨_, _, ho', h3, vs, rfl, h4⟩ := r.own _ (List.mem_of_getElem? ho)
    exact ⟨_, vs, rfl, SqL.of h3, h4⟩
  · exact h.elim
/-- a new tuple, a new list, of data -/
theorem rel_newT {K : PySem.W.Frag} {F V0 H : Hp} {p : Addr} {vs : List V} {ds : List D} (r : Rel K F V0 os H) (hp : H p = none) (rs : RpA K V0 vs ds) :
    Same V0 (upd V0 p (.tup vs)) ∧ Rel K F (upd V0 p (.tup vs)) os (upd H p (.tup vs)) ∧ Rp K (upd V0 p (.tup vs)) (.ref p) (.tup ds) :=
  have s := same_upd (o := .tup vs) (r.vi.free hp)
  ⟨s, r.addV hp _, .tup (.inl (.inl upd_same)) (RpA.mono s rs)⟩
theorem rel_newL {K : PySem.W.Frag} {F V0 H : Hp} {p : Addr} {vs : List V} {ds : List D} (r : Rel K F V0 os H) (hp : H p = none) (rs : RpA K V0 vs ds) :
    Same V0 (upd V0 p (.lst vs)) ∧ Rel K F (upd V0 p (.lst vs)) os (upd H p (.lst vs)) ∧ Rp K (upd V0 p (.lst vs)) (.ref p) (.lst ds) :=
  have s := same_upd (o := .lst vs) (r.vi.free hp)
  ⟨s, r.addV hp _, .lst (.inl (.inl upd_same)) (RpA.mono s rs)⟩
/-- list + list -/
def rCatS (K : PySem.W.Frag) : R2 := fun x y H Q => ∃ a b xs ys, x = .ref a ∧ y = .ref b ∧ SqL K H a xs ∧ SqL K H b ys ∧ xs.length + ys.length ≤ sizeLine ∧ ∀ l, H l = none → Q (.ref l) (upd H l (.lst (xs ++ ys)))
end
end EV

set_option Elab.async false
set_option linter.all false
set_option maxRecDepth 100000
/-! E3: +, ==, in, is; tests; displays; subscripts; slices. -/
namespace EV
open PySem PySem.Spec PyProof.Rows L2
section
variable {X : Cx} {os : Os} {k : D → Os → Prop} {env : DEnv}
theorem op_catS : OpR X (binaryOp .Add) (rCatS X.K) := by
  intro pins s σ H x y v u Q I rx ry h
  obtain ⟨a, b, xs, ys, rfl, rfl, h1, h2, hz, q⟩ := h
  cases rx
  cases ry
  obtain ⟨us, r1, ⟨⟨cls, dd, data, sl⟩, n, ho, hc, hn, hd⟩, _⟩ := I.list h1
  obtain ⟨ws, r2, ⟨⟨cls2, dd2, data2, sl2⟩, n2, ho2, hc2, hn2, hd2⟩, _⟩ := I.list h2
  simp only at hc hd hc2 hd2
  subst hc hd hc2 hd2
  have hl : (us ++ ws).length ≤ sizeLine := by rw [List.length_append, ← r1.length, ← r2.length]; exact hz
  have ee : us.toArray ++ ws.toArray = (us ++ ws).toArray := by simp
  have kk := list_addW a b us.toArray ws.toArray n n2 dd dd2 sl sl2 (by rw [List.length_append] at hl; simpa using hl)
  refine concat_meets ⟨_, ho, rfl⟩ ⟨_, ho2, rfl⟩ noFill_list_add seq_list_add PySem.F.slot_list_add PySem.F.entry_list_add (PySem.F.args_list_add_2 _ _) kk ⟨ho, ho2, ?_⟩
  rw [ee]
  exact ⟨.ref _, _, I.lnew (t' := s.toks) (r1.append r2) (by rw [(r1.append r2).length]; exact hl), rfl, q _ I.fresh⟩
theorem jo_cat {x y : D} {ds es : List D} (hx : LstOf os x ds) (hy : LstOf os y es) (hl : ds.length + es.length ≤ sizeLine) (q : k (.lst (ds ++ es)) os) : JO X (binaryOp .Add) x y os k :=
  JO.mk op_catS fun F V0 H v u Q r rx ry c => by
    obtain ⟨a, xs, rfl, h1, r1⟩ := lstOf_of r rx hx
    obtain ⟨b, ys, rfl, h2, r2⟩ := lstOf_of r ry hy
    refine ⟨a, b, xs, ys, rfl, rfl, h1, h2, by rw [r1.length, r2.length]; exact hl, fun p hp => ?_⟩
    obtain ⟨s2, r3, rp⟩ := rel_newL r hp (r1.append r2)
    exact c _ os _ _ (.lst (ds ++ es)) s2 r3 rp q
theorem jo_catO {x y : D} {ds es : List D} (hx : LstOf os x ds) (hy : LstOf os y es) (hl : ds.length + es.length ≤ sizeLine) (q : ∀ p, k (.ref p) ((p, .lst (ds ++ es)) :: os)) : JO X (binaryOp .Add) x y os k :=
  JO.mk op_catS fun F V0 H v u Q r rx ry c => by
    obtain ⟨a, xs, rfl, h1, r1⟩ := lstOf_of r rx hx
    obtain ⟨b, ys, rfl, h2, r2⟩ := lstOf_of r ry hy
    refine ⟨a, b, xs, ys, rfl, rfl, h1, h2, by rw [r1.length, r2.length]; exact hl, fun p hp => ?_⟩
    exact c V0 _ _ _ (.ref p) (Same.refl _) (r.addO hp (oo := .lst (ds ++ es)) ⟨_, rfl, r1.append r2⟩) (.ref p) (q p)
theorem jo_addS {x y : Str} (h : x.length + y.length ≤ sizeLine) (q : k (.str (x ++ y)) os) : JO X (binaryOp .Add) (.str x) (.str y) os k :=
  JO.mk op_add_str fun F V0 H v u Q r rx ry c => by
    cases rx; cases ry
    exact ⟨x, y, rfl, rfl, h, c V0 os H _ _ (Same.refl _) r rwS q⟩
def catL (x y : D) (os : Os) (k : D → Os → Prop) : Prop := ∃ ds es, LstOf os x ds ∧ LstOf os y es ∧ ds.length + es.length ≤ sizeLine ∧ k (.lst (ds ++ es)) os
def oAdd : TrO := fun x y os k => match x with
  | .int i => (match y with
    | .int j => k (.int (i + j)) os
    | _ => False)
  | .str a => (match y with
    | .str b => a.length + b.length ≤ sizeLine ∧ k (.str (a ++ b)) os
    | _ => False)
  | .lst ds => (match y with
    | .lst es => ds.length + es.length ≤ sizeLine ∧ k (.lst (ds ++ es)) os
    | y => catL (.lst ds) y os k)
  | x => catL x y os k
theorem cmo_add : CmO X (binaryOp .Add) oAdd := by
  intro x y os k h
  have gen : ∀ x y, catL x y os k → JO X (binaryOp .Add) x y os k := fun x y ⟨ds, es, h1, h2, h3, q⟩ => jo_cat h1 h2 h3 q
  unfold oAdd at h
  split at h
  · split at h
    · exact jo_rI0 op_add h
    · exact h.elim
  · split at h
    · exact jo_addS h.1 h.2
    · exact h.elim
  · split at h
    · exact jo_cat (ds := _) (es := _) rfl rfl h.1 h.2
    · exact gen _ _ h
  · exact gen _ _ h
/-- list + list, the new one owned -/
def oAddO : TrO := fun x y os k => ∃ ds es, LstOf os x ds ∧ LstOf os y es ∧ ds.length + es.length ≤ sizeLine ∧ ∀ p, k (.ref p) ((p, .lst (ds ++ es)) :: os)
theorem cmo_addO : CmO X (binaryOp .Add) oAddO := fun x y os k ⟨ds, es, h1, h2, h3, q⟩ => jo_catO h1 h2 h3 q
end

/-! ### == -/
mutual
def toP : D → PyData
  | .non => .none
  | .bl b => .bool b
  | .int i => .int i
  | .str x => .str x
  | .ty _ => .none
  | .tup ds => .tuple (toPs ds)
  | .lst ds => .list (toPs ds)
  | .dK _ => .none
  | .dT _ => .none
  | .exn .. => .none
  | .ref _ => .none
def toPs : List D → List PyData
  | [] => []
  | d :: ds => toP d :: toPs ds
end
mutual
/-- no types inside, not too deep, texts that can be held -/
def shp : D → Nat → Bool
  | .non, _ => true
  | .bl _, _ => true
  | .int _, _ => true
  | .str x, _ => PyData.canLay0 (.str x)
  | .ty _, _ => false
  | .tup ds, n => decide (0 < n) && shpA ds (n - 1)
  | .lst ds, n => decide (0 < n) && shpA ds (n - 1)
  | .dK _, _ => false
  | .dT _, _ => false
  | .exn .., _ => false
  | .ref _, _ => false
def shpA : List D → Nat → Bool
  | [], _ => true
  | d :: ds, n => shp d n && shpA ds n
end
theorem toPs_map (ds : List D) : toPs ds = ds.map toP := by
  induction ds with
  | nil => rfl
  | cons d ds ih => rw [toPs, ih, List.map_cons]
theorem shpA_all {ds : List D} {n : Nat} : shpA ds n = true ↔ ∀ d ∈ ds, shp d n = true := by
  induction ds with
  | nil => simp [shpA]
  | cons d ds ih => rw [shpA, Bool.and_eq_true, ih]; simp
mutual
theorem shp_lay : ∀ {d : D} {n : Nat}, shp d n = true → (toP d).canLay0 = true ∧ (toP d).depth ≤ n + 1
  | .non, n, _ => by simp [toP, PyData.canLay0, PyData.depth]
  | .bl b, n, _ => by simp [toP, PyData.canLay0, PyData.depth]
  | .int i, n, _ => by simp [toP, PyData.canLay0, PyData.depth]
  | .str x, n, h => ⟨h, by simp [toP, PyData.depth]⟩
  | .tup ds, n, h => by
    rw [shp, Bool.and_eq_true, decide_eq_true_iff] at h
    obtain ⟨h1, h2⟩ := shpA_lay h.2
    simp only [toP, PyData.canLay0, PyData.depth]
    exact ⟨h1, by omega⟩
  | .lst ds, n, h => by
    rw [shp, Bool.and_eq_true, decide_eq_true_iff] at h
    obtain ⟨h1, h2⟩ := shpA_lay h.2
    simp only [toP, PyData.canLay0, PyData.depth]
    exact ⟨h1, by omega⟩
theorem shpA_lay : ∀ {ds : List D} {n : Nat}, shpA ds n = true → PyData.canLayAll0 (toPs ds) = true ∧ PyData.depthAll (toPs ds) ≤ n + 1
  | [], n, _ => by simp [toPs, PyData.canLayAll0, PyData.depthAll]
  | d :: ds, n, h => by
    rw [shpA, Bool.and_eq_true] at h
    obtain ⟨h1, h2⟩ := shp_lay h.1
    obtain ⟨h3, h4⟩ := shpA_lay h.2
    simp only [toPs, PyData.canLayAll0, PyData.depthAll, Bool.and_eq_true]
    exact ⟨⟨h1, h3⟩, by omega⟩
end
theorem shp_shaped {d : D} (h : shp d 60 = true) : SeqAt.shaped (toP d) = true := by
  obtain ⟨h1, h2⟩ := shp_lay h
  show (PyData.canLay0 (toP d) && decide ((toP d).depth ≤ 64)) = true
  rw [h1, Bool.true_and, decide_eq_true_iff]
  omega
mutual
/-- w is the data d: owned lists inside are read -/
inductive AsD (os : Os) : D → D → Prop
  | same (d : D) : AsD os d d
  | tup {ws ds : List D} : AsDs os ws ds → AsD os (.tup ws) (.tup ds)
  | lst {ws ds : List D} : AsDs os ws ds → AsD os (.lst ws) (.lst ds)
  | own {p : Addr} {n : Nat} {ws ds : List D} : os[n]? = some (p, .lst ws) → AsDs os ws ds → AsD os (.ref p) (.lst ds)
inductive AsDs (os : Os) : List D → List D → Prop
  | same (ds : List D) : AsDs os ds ds
  | nil : AsDs os [] []
  | cons {w d : D} {ws ds : List D} : AsD os w d → AsDs os ws ds → AsDs os (w :: ws) (d :: ds)
end
theorem AsD.own1 {os : Os} {p : Addr} {n : Nat} {ws : List D} (h : os[n]? = some (p, .lst ws)) : AsD os (.ref p) (.lst ws) := .own h (.same ws)
mutual
theorem dp_of {K : PySem.W.Frag} {H : Hp} : ∀ {d : D} {v : V} {n : Nat}, shp d n = true → Rp K H v d → Dp K H v (toP d)
  | .non, _, _, _, h => by cases h; exact .non
  | .bl b, _, _, _, h => by cases h; exact .bl b
  | .int b, _, _, _, h => by cases h; exact .int b
  | .str b, _, _, _, h => by cases h; exact .str b
  | .tup ds, _, n, s, h => by
    rw [shp, Bool.and_eq_true] at s
    cases h with
    | tup h1 h2 => exact .tup h1 (dpA_of s.2 h2)
  | .lst ds, _, n, s, h => by
    rw [shp, Bool.and_eq_true] at s
    cases h with
    | lst h1 h2 => exact .lst h1 (dpA_of s.2 h2)
theorem dpA_of {K : PySem.W.Frag} {H : Hp} : ∀ {ds : List D} {vs : List V} {n : Nat}, shpA ds n = true → RpA K H vs ds → DpAll K H vs (toPs ds)
  | [], _, _, _, h => by cases h; exact .nil
  | d :: ds, _, n, s, h => by
    rw [shpA, Bool.and_eq_true] at s
    cases h with
    | cons h1 h2 => exact .cons (dp_of s.1 h1) (dpA_of s.2 h2)
end
mutual
theorem asD_dp {K : PySem.W.Frag} {F V0 H : Hp} {os : Os} (r : Rel K F V0 os H) : ∀ {w d : D} {v : V} {n : Nat}, AsD os w d → shp d n = true → Rp K V0 v w → Dp K H v (toP d)
  | _, _, _, _, .same d, s, rv => dp_of s (Rp.mono r.vi rv)
  | _, _, _, n, .tup h, s, rv => by
    rw [shp, Bool.and_eq_true] at s
    cases rv with
    | tup h1 h2 => exact .tup (same_sqT r.vi h1) (asDs_dp r h s.2 h2)
  | _, _, _, n, .lst h, s, rv => by
    rw [shp, Bool.and_eq_true] at s
    cases rv with
    | lst h1 h2 => exact .lst (r.vi.seq h1) (asDs_dp r h s.2 h2)
  | _, _, _, n, .own ho h, s, rv => by
    rw [shp, Bool.and_eq_true] at s
    obtain rfl := rv.toRef
    obtain ⟨_, _, ho', h3, vs, rfl, h4⟩ := r.own _ (List.mem_of_getElem? ho)
    exact .lst (SqL.of h3) (asDs_dp r h s.2 h4)
theorem asDs_dp {K : PySem.W.Frag} {F V0 H : Hp} {os : Os} (r : Rel K F V0 os H) : ∀ {ws ds : List D} {vs : List V} {n : Nat}, AsDs os ws ds → shpA ds n = true → RpA K V0 vs ws → DpAll K H vs (toPs ds)
  | _, _, _, _, .same d, s, rv => dpA_of s (RpA.mono r.vi rv)
  | _, _, _, _, .nil, s, rv => by cases rv; exact .nil
  | _, _, _, _, .cons h1 h2, s, rv => by
    rw [shpA, Bool.and_eq_true] at s
    cases rv with
    | cons a b => exact .cons (asD_dp r h1 s.1 a) (asDs_dp r h2 s.2 b)
end
def eqD (d e : D) : Bool := PyData.eqv (toP d) (toP e)
def genEq (x y : D) (os : Os) (k : Bool → Prop) : Prop := ∃ d e, AsD os x d ∧ AsD os y e ∧ shp d 60 = true ∧ shp e 60 = true ∧ k (eqD d e)
/-- data that == tells apart by their value -/
def scalD : D → V
  | .non => .non | .bl b => .bl b | .int i => .int i | .str x => .str x | .ty n => .ty n | _ => .flt 0
def isScal : D → Bool
  | .non => true | .bl _ => true | .int _ => true | .str _ => true | _ => false
theorem rp_scal {K : PySem.W.Frag} {V0 : Hp} {v : V} : ∀ {d : D}, isScal d = true → Rp K V0 v d → v = scalD d
  | .non, _, h => by cases h; rfl
  | .bl _, _, h => by cases h; rfl
  | .int _, _, h => by cases h; rfl
  | .str _, _, h => by cases h; rfl
def oEq : TrO := fun x y os k => match x with
  | .int i => (match y with
    | .int j => k (.bl (decide (i = j))) os
    | y => genEq (.int i) y os fun b => k (.bl b) os)
  | .str i => (match y with
    | .str j => k (.bl (decide (i = j))) os
    | y => genEq (.str i) y os fun b => k (.bl b) os)
  | .bl i => (match y with
    | .bl j => k (.bl (decide (i = j))) os
    | y => genEq (.bl i) y os fun b => k (.bl b) os)
  | x => genEq x y os fun b => k (.bl b) os
def oNe : TrO := fun x y os k => match x with
  | .int i => (match y with
    | .int j => k (.bl (!decide (i = j))) os
    | y => genEq (.int i) y os fun b => k (.bl (!b)) os)
  | .str i => (match y with
    | .str j => k (.bl (!decide (i = j))) os
    | y => genEq (.str i) y os fun b => k (.bl (!b)) os)
  | .bl i => (match y with
    | .bl j => k (.bl (!decide (i = j))) os
    | y => genEq (.bl i) y os fun b => k (.bl (!b)) os)
  | x => genEq x y os fun b => k (.bl (!b)) os
section
variable {X : Cx} {os : Os} {k : D → Os → Prop} {env : DEnv} {kb : Bool → Os → Prop}
theorem jo_gen {lvl : Nat} {x y : D} (hr : Room lvl X.A) (h : genEq x y os fun b => k (.bl b) os) : JO X (compareOp .Eq) x y os k := by
  obtain ⟨d, e, h1, h2, s1, s2, q⟩ := h
  exact JO.mk (op_eqD hr.units) fun F V0 H v u Q r rx ry c => ⟨_, _, asD_dp r h1 s1 rx, asD_dp r h2 s2 ry, shp_shaped s1, shp_shaped s2, c V0 os H _ _ (Same.refl _) r rwB q⟩
theorem jo_genN {lvl : Nat} {x y : D} (hr : Room lvl X.A) (h : genEq x y os fun b => k (.bl (!b)) os) : JO X (compareOp .NotEq) x y os k := by
  obtain ⟨d, e, h1, h2, s1, s2, q⟩ := h
  exact JO.mk (op_neD hr.units) fun F V0 H v u Q r rx ry c => ⟨_, _, asD_dp r h1 s1 rx, asD_dp r h2 s2 ry, shp_shaped s1, shp_shaped s2, c V0 os H _ _ (Same.refl _) r rwB q⟩
theorem jo_eqS {d1 d2 : D} (h1 : isScal d1 = true) (h2 : isScal d2 = true) (h : scal (scalD d1) (scalD d2) = true) (q : k (.bl (decide (scalD d1 = scalD d2))) os) : JO X (compareOp .Eq) d1 d2 os k :=
  JO.mk op_eq fun F V0 H v u Q r rx ry c => by
    have e1 := rp_scal h1 rx
    have e2 := rp_scal h2 ry
    subst e1 e2
    exact ⟨h, c V0 os H _ _ (Same.refl _) r rwB q⟩
theorem jo_neS {d1 d2 : D} (h1 : isScal d1 = true) (h2 : isScal d2 = true) (h : scal (scalD d1) (scalD d2) = true) (q : k (.bl (!decide (scalD d1 = scalD d2))) os) : JO X (compareOp .NotEq) d1 d2 os k :=
  JO.mk op_ne fun F V0 H v u Q r rx ry c => by
    have e1 := rp_scal h1 rx
    have e2 := rp_scal h2 ry
    subst e1 e2
    exact ⟨h, c V0 os H _ _ (Same.refl _) r rwB q⟩
theorem cmo_eq {lvl : Nat} (hr : Room lvl X.A) : CmO X (compareOp .Eq) oEq := by
  intro x y os k h
  unfold oEq at h
  split at h
  · rename_i i
    split at h
    · rename_i j
      refine jo_eqS rfl rfl rfl ?_
      rw [show decide (scalD (.int i) = scalD (.int j)) = decide (i = j) from decide_eq_decide.mpr ⟨fun h => V.int.inj h, fun h => congrArg V.int h⟩]; exact h
    · exact jo_gen hr h
  · rename_i i
    split at h
    · rename_i j
      refine jo_eqS rfl rfl rfl ?_
      rw [show decide (scalD (.str i) = scalD (.str j)) = decide (i = j) from decide_eq_decide.mpr ⟨fun h => V.str.inj h, fun h => congrArg V.str h⟩]; exact h
    · exact jo_gen hr h
  · rename_i i
    split at h
    · rename_i j
      refine jo_gen hr ⟨_, _, .same _, .same _, rfl, rfl, ?_⟩
      rw [show eqD (.bl i) (.bl j) = decide (i = j) from by cases i <;> cases j <;> rfl]
      exact h
    · exact jo_gen hr h
  · exact jo_gen hr h
theorem cmo_ne {lvl : Nat} (hr : Room lvl X.A) : CmO X (compareOp .NotEq) oNe := by
  intro x y os k h
  unfold oNe at h
  split at h
  · rename_i i
    split at h
    · rename_i j
      refine jo_neS rfl rfl rfl ?_
      rw [show decide (scalD (.int i) = scalD (.int j)) = decide (i = j) from decide_eq_decide.mpr ⟨fun h => V.int.inj h, fun h => congrArg V.int h⟩]; exact h
    · exact jo_genN hr h
  · rename_i i
    split at h
    · rename_i j
      refine jo_neS rfl rfl rfl ?_
      rw [show decide (scalD (.str i) = scalD (.str j)) = decide (i = j) from decide_eq_decide.mpr ⟨fun h => V.str.inj h, fun h => congrArg V.str h⟩]; exact h
    · exact jo_genN hr h
  · rename_i i
    split at h
    · rename_i j
      refine jo_genN hr ⟨_, _, .same _, .same _, rfl, rfl, ?_⟩
      rw [show eqD (.bl i) (.bl j) = decide (i = j) from by cases i <;> cases j <;> rfl]
      exact h
    · exact jo_genN hr h
  · exact jo_genN hr h
/-- is None -/
def isNonD : D → Bool
  | .non => true | _ => false
theorem rw_non {K : PySem.W.Frag} {V0 : Hp} {v : V} : ∀ {w : D}, Rp K V0 v w → decide (v = .non) = isNonD w
  | .non, h => by cases h; rfl
  | .bl _, h => by cases h; rfl
  | .int _, h => by cases h; rfl
  | .str _, h => by cases h; rfl
  | .ty _, h => by cases h; rfl
  | .tup _, h => by cases h; rfl
  | .lst _, h => by cases h; rfl
  | .dK _, h => by cases h; rfl
  | .dT _, h => by cases h; rfl
  | .exn .., h => by cases h; rfl
  | .ref _, h => by cases h; rfl
def oIsN : TrO := fun x y os k => match y with
  | .non => k (.bl (isNonD x)) os
  | .bl b => (match x with
    | .bl a => k (.bl (decide (a = b))) os
    | _ => False)
  | _ => False
def oNotN : TrO := fun x y os k => match y with
  | .non => k (.bl (!isNonD x)) os
  | .bl b => (match x with
    | .bl a => k (.bl (!decide (a = b))) os
    | _ => False)
  | _ => False
theorem cmo_isN : CmO X (compareOp .Is) oIsN := by
  intro x y os k h
  unfold oIsN at h
  split at h
  · exact JO.mk op_isN fun F V0 H v u Q r rx ry c => by
      cases ry
      exact ⟨rfl, by rw [rw_non rx]; exact c V0 os H _ _ (Same.refl _) r rwB h⟩
  · split at h
    · exact JO.mk op_is_bl fun F V0 H v u Q r rx ry c => by
        cases ry
        cases rx
        exact ⟨_, _, rfl, rfl, c V0 os H _ _ (Same.refl _) r rwB h⟩
    · exact h.elim
  · exact h.elim
theorem cmo_notN : CmO X (compareOp .IsNot) oNotN := by
  intro x y os k h
  unfold oNotN at h
  split at h
  · exact JO.mk op_notN fun F V0 H v u Q r rx ry c => by
      cases ry
      exact ⟨rfl, by rw [rw_non rx]; exact c V0 os H _ _ (Same.refl _) r rwB h⟩
  · split at h
    · exact JO.mk op_isnot_bl fun F V0 H v u Q r rx ry c => by
        cases ry
        cases rx
        exact ⟨_, _, rfl, rfl, c V0 os H _ _ (Same.refl _) r rwB h⟩
    · exact h.elim
  · exact h.elim
/-- the items of a list or tuple at hand -/
def SeqOf (os : Os) (w : D) (ds : List D) : Prop := match w with
  | .lst es => ds = es
  | .tup es => ds = es
  | .ref p => ∃ n : Nat, os[n]? = some (p, .lst ds)
  | _ => False
theorem seqOf_of {K : PySem.W.Frag} {F V0 H : Hp} {v : V} {w : D} {ds : List D} (r : Rel K F V0 os H) (rv : Rp K V0 v w) (h : SeqOf os w ds) : ∃ a vs, v = .ref a ∧ (SqL K H a vs ∨ SqT K H a vs) ∧ RpA K V0 vs ds := by
  unfold SeqOf at h
  split at h
  · subst h
    obtain ⟨a, xs, rfl, h1, h2⟩ := rp_lst rv
    exact ⟨a, xs, rfl, .inl (r.vi.seq h1), h2⟩
  · subst h
    obtain ⟨a, xs, rfl, h1, h2⟩ := rp_tup rv
    exact ⟨a, xs, rfl, .inr (same_sqT r.vi h1), h2⟩
  · obtain ⟨n, ho⟩ := h
    obtain rfl := rv.toRef
    obtain ⟨_, _, ho', h3, vs, rfl, h4⟩ := r.own _ (List.mem_of_getElem? ho)
    exact ⟨_, vs, rfl, .inl (SqL.of h3), h4⟩
  · exact h.elim
theorem rpA_scal {K : PySem.W.Frag} {V0 : Hp} : ∀ {ds : List D} {vs : List V}, ds.all isScal = true → RpA K V0 vs ds → vs = ds.map scalD
  | [], _, _, h => by cases h; rfl
  | d :: ds, _, s, h => by
    rw [List.all_cons, Bool.and_eq_true] at s
    cases h with
    | cons a b => rw [rp_scal s.1 a, rpA_scal s.2 b]; rfl
def inD (x : D) (ds : List D) : Bool := inV (scalD x) (ds.map scalD)
theorem flat_scal : ∀ {d : D}, isScal d = true → flatV (scalD d) = true
  | .non, _ => rfl
  | .bl _, _ => rfl
  | .int _, _ => rfl
  | .str _, _ => rfl
theorem flat_all {ds : List D} (h : ds.all isScal = true) : (ds.map scalD).all flatV = true := by
  rw [List.all_map, List.all_eq_true]
  rw [List.all_eq_true] at h
  exact fun d hd => flat_scal (h d hd)
def oIn : TrO := fun x w os k => isScal x = true ∧ ∃ ds, SeqOf os w ds ∧ ds.all isScal = true ∧ k (.bl (inD x ds)) os
def oNotIn : TrO := fun x w os k => isScal x = true ∧ ∃ ds, SeqOf os w ds ∧ ds.all isScal = true ∧ k (.bl (!inD x ds)) os
theorem cmo_in : CmO X (compareOp .In) oIn := fun x w os k ⟨hx, ds, hs, hd, q⟩ =>
  JO.mk op_in_seq fun F V0 H v u Q r rx ry c => by
    have e := rp_scal hx rx
    subst e
    obtain ⟨a, vs, rfl, h1, ra⟩ := seqOf_of r ry hs
    have e := rpA_scal hd ra
    subst e
    refine ⟨a, _, rfl, h1, flat_scal hx, flat_all hd, c V0 os H _ _ (Same.refl _) r ?_ q⟩
    rw [if_neg (by decide)]
    exact rwB
theorem cmo_notIn : CmO X (compareOp .NotIn) oNotIn := fun x w os k ⟨hx, ds, hs, hd, q⟩ =>
  JO.mk op_notIn_seq fun F V0 H v u Q r rx ry c => by
    have e := rp_scal hx rx
    subst e
    obtain ⟨a, vs, rfl, h1, ra⟩ := seqOf_of r ry hs
    have e := rpA_scal hd ra
    subst e
    refine ⟨a, _, rfl, h1, flat_scal hx, flat_all hd, c V0 os H _ _ (Same.refl _) r ?_ q⟩
    rw [if_pos rfl]
    exact rwB

/-! ### tests -/
/-- truth of any value -/
def truD : D → Option Bool
  | .non => some false | .bl b => some b | .int i => some (i != 0) | .str x => if x.length ≤ sizeLine then some ((x.length : Int) != 0) else none
  | .lst ds => some (!ds.isEmpty) | .tup ds => some (!ds.isEmpty) | _ => none
def truW (os : Os) (w : D) (b : Bool) : Prop := match w with
  | .ref a => ∃ (n : Nat) (ws : List D), os[n]? = some (a, OO.lst ws) ∧ b = !ws.isEmpty
  | d => truD d = some b
theorem isE {α β : Type} {xs : List α} {ys : List β} (h : xs.length = ys.length) : (!xs.isEmpty) = !ys.isEmpty := by
  cases xs <;> cases ys <;> simp_all
theorem truV_of {K : PySem.W.Frag} {F V0 H : Hp} {v : V} {w : D} {b : Bool} (r : Rel K F V0 os H) (rv : Rp K V0 v w) (t : truW os w b) : TruV K v H b := by
  cases w with
  | non => cases rv; exact (Option.some.inj (show some false = some b from t)).symm
  | bl _ => cases rv; exact (Option.some.inj (show some _ = some b from t)).symm
  | int _ => cases rv; exact (Option.some.inj (show some _ = some b from t)).symm
  | str z =>
    cases rv
    have t : (if z.length ≤ sizeLine then some ((z.length : Int) != 0) else none) = some b := t
    by_cases hz : z.length ≤ sizeLine
    · rw [if_pos hz] at t; exact ⟨hz, (Option.some.inj t).symm⟩
    · rw [if_neg hz] at t; cases t
  | ty _ => cases (show none = some b from t)
  | dK _ => cases (show none = some b from t)
  | dT _ => cases (show none = some b from t)
  | exn _ _ _ _ _ => cases (show none = some b from t)
  | tup ds =>
    have t : some (!ds.isEmpty) = some b := t
    obtain ⟨p, xs, rfl, h1, h2⟩ := rp_tup rv
    exact .inr (.inl ⟨xs, same_sqT r.vi h1, by rw [isE h2.length]; exact (Option.some.inj t).symm⟩)
  | lst ds =>
    have t : some (!ds.isEmpty) = some b := t
    obtain ⟨p, xs, rfl, h1, h2⟩ := rp_lst rv
    exact .inl ⟨xs, r.vi.seq h1, by rw [isE h2.length]; exact (Option.some.inj t).symm⟩
  | ref p =>
    obtain rfl := rv.toRef
    obtain ⟨n, ws, ho, e⟩ := t
    obtain ⟨_, _, ho', h3, vs, rfl, h4⟩ := r.own _ (List.mem_of_getElem? ho)
    exact .inl ⟨vs, SqL.of h3, by rw [isE h4.length]; exact e⟩
def tV (te : TrE) : TrT := fun kx env os kb => te kx env os fun w os1 => match w with
  | .bl b => kb b os1
  | w => ∃ b, truW os1 w b ∧ kb b os1
variable {a b c e : Expr} {ta tb te : TrE} {pos : Pos} {tc td : TrT}
theorem ct_v (h : Cm X e te) (he : ∀ whole, isTrue e X.env whole = (do let v ← whole; standAt e.pos; holding [v] (truthy v)) := by intro _; rfl) : CmT X e (tV te) := by
  intro kx env os kb q F V0 H σ Q W r sr ek c
  refine wTt_of (pt_truth wE_pe he) ?_
  refine h _ _ _ _ q F V0 H σ _ W r sr ek fun V1 os1 H1 v x s1 r1 rx q1 => ?_
  have key : ∃ b, truW os1 x b ∧ kb b os1 := by
    split at q1
    · exact ⟨_, rfl, q1⟩
    · exact q1
  obtain ⟨b, e1, q2⟩ := key
  exact ⟨b, truV_of r1 rx e1, c V1 os1 H1 b s1 r1 q2⟩
def tNot (t : TrT) : TrT := fun kx env os kb => t kx env os fun b os1 => kb (!b) os1
theorem ct_not (h : CmT X a tc) : CmT X (.UnaryOp .Not a pos) (tNot tc) := by
  intro kx env os kb q F V0 H σ Q W r sr ek c
  refine wTt_of (pt_not wTt_pt) ?_
  exact h _ _ _ _ q F V0 H σ _ W r sr ek fun V1 os1 H1 b s1 r1 q => c V1 os1 H1 (!b) s1 r1 q
def tAnd (t u : TrT) : TrT := fun kx env os kb => t kx env os fun b os1 => (b = true → u kx env os1 kb) ∧ (b = false → kb false os1)
def tOr (t u : TrT) : TrT := fun kx env os kb => t kx env os fun b os1 => (b = false → u kx env os1 kb) ∧ (b = true → kb true os1)
theorem ct_pw (h : CmPW X e tc) : CmT X e tc := fun kx env os kb q F V0 H σ Q W r sr ek c => wTt_of wPW_pw.pt (h _ _ _ _ q F V0 H σ Q W r sr ek c)
theorem cpw_and1 (h : CmT X a tc) : CmPW X (.BoolOp .And [a] pos) tc := fun kx env os kb q F V0 H σ Q W r sr ek c => wPW_of (pw_and1 wTt_pt) (h _ _ _ _ q F V0 H σ Q W r sr ek c)
theorem cpw_or1 (h : CmT X a tc) : CmPW X (.BoolOp .Or [a] pos) tc := fun kx env os kb q F V0 H σ Q W r sr ek c => wPW_of (pw_or1 wTt_pt) (h _ _ _ _ q F V0 H σ Q W r sr ek c)
theorem cpw_and {rest : List Expr} (h : CmT X a tc) (h2 : CmPW X (.BoolOp .And (b :: rest) pos) td) : CmPW X (.BoolOp .And (a :: b :: rest) pos) (tAnd tc td) := by
  intro kx env os kb q F V0 H σ Q W r sr ek c
  refine wPW_of (pw_and wTt_pt wPW_pw) ?_
  refine h _ _ _ _ q F V0 H σ _ W r sr ek fun V1 os1 H1 b1 s1 r1 q => ?_
  cases b1 with
  | false => exact iteF (c V1 os1 H1 false s1 r1 (q.2 rfl))
  | true => exact iteT (h2 _ _ _ _ (q.1 rfl) F V1 H1 σ Q W r1 (sr.mono s1) (ek.mono s1) fun V2 os2 H2 b2 s2 r2 q2 => c V2 os2 H2 b2 (s1.trans s2) r2 q2)
theorem cpw_or {rest : List Expr} (h : CmT X a tc) (h2 : CmPW X (.BoolOp .Or (b :: rest) pos) td) : CmPW X (.BoolOp .Or (a :: b :: rest) pos) (tOr tc td) := by
  intro kx env os kb q F V0 H σ Q W r sr ek c
  refine wPW_of (pw_or wTt_pt wPW_pw) ?_
  refine h _ _ _ _ q F V0 H σ _ W r sr ek fun V1 os1 H1 b1 s1 r1 q => ?_
  cases b1 with
  | true => exact iteT (c V1 os1 H1 true s1 r1 (q.2 rfl))
  | false => exact iteF (h2 _ _ _ _ (q.1 rfl) F V1 H1 σ Q W r1 (sr.mono s1) (ek.mono s1) fun V2 os2 H2 b2 s2 r2 q2 => c V2 os2 H2 b2 (s1.trans s2) r2 q2)
/-- bools as values -/
def eAnd (ta tb : TrE) : TrE := fun kx env os k => ta kx env os fun w os1 => onB (fun b1 os1 => (b1 = true → tb kx env os1 k) ∧ (b1 = false → k (.bl false) os1)) w os1
def eOr (ta tb : TrE) : TrE := fun kx env os k => ta kx env os fun w os1 => onB (fun b1 os1 => (b1 = false → tb kx env os1 k) ∧ (b1 = true → k (.bl true) os1)) w os1
def eNot (ta : TrE) : TrE := fun kx env os k => ta kx env os fun w os1 => onB (fun b1 os1 => k (.bl (!b1)) os1) w os1
theorem cm_one {op} (h : Cm X a ta) : Cm X (.BoolOp op [a] pos) ta := fun kx env os k q F V0 H σ Q W r sr ek c => wE_of (pe_one wE_pe) (h _ _ _ _ q F V0 H σ Q W r sr ek c)
theorem cm_and {rest : List Expr} (h : Cm X a ta) (h2 : Cm X (.BoolOp .And (b :: rest) pos) tb) : Cm X (.BoolOp .And (a :: b :: rest) pos) (eAnd ta tb) := by
  intro kx env os k q F V0 H σ Q W r sr ek c
  refine wE_of (pe_and wE_pe wE_pe) ?_
  refine h _ _ _ _ q F V0 H σ _ W r sr ek fun V1 os1 H1 v w s1 r1 rv q => ?_
  obtain ⟨b1, e, q⟩ := onB_bl q
  subst e
  cases rv
  refine ⟨b1, rfl, ?_⟩
  cases b1 with
  | false => exact iteF (c V1 os1 H1 _ _ s1 r1 rwB (q.2 rfl))
  | true => exact iteT (h2 _ _ _ _ (q.1 rfl) F V1 H1 σ Q W r1 (sr.mono s1) (ek.mono s1) fun V2 os2 H2 z w s2 r2 rz q2 => c V2 os2 H2 z w (s1.trans s2) r2 rz q2)
theorem cm_or {rest : List Expr} (h : Cm X a ta) (h2 : Cm X (.BoolOp .Or (b :: rest) pos) tb) : Cm X (.BoolOp .Or (a :: b :: rest) pos) (eOr ta tb) := by
  intro kx env os k q F V0 H σ Q W r sr ek c
  refine wE_of (pe_or wE_pe wE_pe) ?_
  refine h _ _ _ _ q F V0 H σ _ W r sr ek fun V1 os1 H1 v w s1 r1 rv q => ?_
  obtain ⟨b1, e, q⟩ := onB_bl q
  subst e
  cases rv
  refine ⟨b1, rfl, ?_⟩
  cases b1 with
  | true => exact iteT (c V1 os1 H1 _ _ s1 r1 rwB (q.2 rfl))
  | false => exact iteF (h2 _ _ _ _ (q.1 rfl) F V1 H1 σ Q W r1 (sr.mono s1) (ek.mono s1) fun V2 os2 H2 z w s2 r2 rz q2 => c V2 os2 H2 z w (s1.trans s2) r2 rz q2)
theorem cm_not (h : Cm X a ta) : Cm X (.UnaryOp .Not a pos) (eNot ta) := by
  intro kx env os k q F V0 H σ Q W r sr ek c
  refine wE_of (pe_not wE_pe) ?_
  refine h _ _ _ _ q F V0 H σ _ W r sr ek fun V1 os1 H1 v w s1 r1 rv q => ?_
  obtain ⟨b1, e, q⟩ := onB_bl q
  subst e
  cases rv
  exact ⟨b1, rfl, c V1 os1 H1 _ _ s1 r1 rwB q⟩
def eIf (t : TrT) (ta tb : TrE) : TrE := fun kx env os k => t kx env os fun b1 os1 => (b1 = true → ta kx env os1 k) ∧ (b1 = false → tb kx env os1 k)
theorem cm_if (h : CmT X c tc) (h1 : Cm X a ta) (h2 : Cm X b tb) : Cm X (.IfExp c a b pos) (eIf tc ta tb) := by
  intro kx env os k q F V0 H σ Q W r sr ek cc
  refine wE_of (pe_ifExp wTt_pt wE_pe wE_pe) ?_
  refine h _ _ _ _ q F V0 H σ _ W r sr ek fun V1 os1 H1 b1 s1 r1 q => ?_
  cases b1 with
  | true => exact iteT (h1 _ _ _ _ (q.1 rfl) F V1 H1 σ Q W r1 (sr.mono s1) (ek.mono s1) fun V2 os2 H2 z w s2 r2 rz q2 => cc V2 os2 H2 z w (s1.trans s2) r2 rz q2)
  | false => exact iteF (h2 _ _ _ _ (q.2 rfl) F V1 H1 σ Q W r1 (sr.mono s1) (ek.mono s1) fun V2 os2 H2 z w s2 r2 rz q2 => cc V2 os2 H2 z w (s1.trans s2) r2 rz q2)
/-- a test as a value: a bool -/
def eNeg (ta : TrE) : TrE := fun kx env os k => ta kx env os fun w os1 => match w with
  | .int i => k (.int (-i)) os1
  | _ => False
theorem cm_neg (h : Cm X a ta) : Cm X (.UnaryOp .USub a pos) (eNeg ta) := by
  intro kx env os k q F V0 H σ Q W r sr ek c
  refine wE_of (pe_un un_neg wE_pe) ?_
  refine h _ _ _ _ q F V0 H σ _ W r sr ek fun V1 os1 H1 v x s1 r1 rx q => ?_
  split at q
  · cases rx
    exact ⟨_, rfl, c V1 os1 H1 _ _ s1 r1 rwI q⟩
  · exact q.elim

/-! ### arguments, displays -/
variable {es : List Expr} {n : Nat} {tl : TrA}
def aN : TrA := fun _ _ os k => k [] os
def aC (t : TrE) (ts : TrA) : TrA := fun kx env os k => t kx env os fun w os1 => ts kx env os1 fun ws os2 => k (w :: ws) os2
theorem ca_nil : CmA X [] aN 0 := ⟨rfl, fun kx env os kl q F V0 H σ Q W r sr ek c => wA_of pa_nil (c V0 os H [] [] (Same.refl _) r .nil ⟨rfl, q⟩)⟩
theorem ca_cons (h : Cm X e te) (h2 : CmA X es tl n) (hs : starEach (e :: es) X.env = (false, eval e X.env) :: starEach es X.env) : CmA X (e :: es) (aC te tl) (n + 1) := by
  refine ⟨congrArg (· + 1) h2.1, ?_⟩
  intro kx env os kl q F V0 H σ Q W r sr ek c
  refine wA_of (pa_cons wE_pe wA_pa hs) ?_
  refine h _ _ _ _ q F V0 H σ _ W r sr ek fun V1 os1 H1 v w s1 r1 rv q => ?_
  exact h2.2 _ _ _ _ q F V1 H1 σ _ W r1 (sr.mono s1) (ek.mono s1) fun V2 os2 H2 vs ws s2 r2 rs ⟨hl, q2⟩ => c V2 os2 H2 (v :: vs) (w :: ws) (s1.trans s2) r2 (.cons (rv.mono s2) rs) ⟨congrArg (· + 1) hl, q2⟩
def eTup (tl : TrA) : TrE := fun kx env os k => tl kx env os fun ws os1 => k (.tup ws) os1
def eLst (tl : TrA) : TrE := fun kx env os k => tl kx env os fun ws os1 => k (.lst ws) os1
def eLstO (tl : TrA) : TrE := fun kx env os k => tl kx env os fun ws os1 => ∀ p, k (.ref p) ((p, .lst ws) :: os1)
theorem cm_tup {x1} (h : CmA X es tl n) (hn : n ≤ 1000) : Cm X (.Tuple es x1 pos) (eTup tl) := by
  intro kx env os k q F V0 H σ Q W r sr ek c
  refine wE_of (pe_tup wA_pa) ?_
  refine h.2 _ _ _ _ q F V0 H σ _ W r sr ek fun V1 os1 H1 vs ws s1 r1 rs ⟨hl, q⟩ => ?_
  refine ⟨by rw [rs.length, hl]; exact Nat.le_of_lt (small1000 hn), fun p hp => ?_⟩
  obtain ⟨s2, r2, rp⟩ := rel_newT r1 hp rs
  exact c _ os1 _ _ (.tup ws) (s1.trans s2) r2 rp q
theorem cm_lst (h : CmA X es tl n) (hn : n ≤ 1000) : Cm X (.List es pos) (eLst tl) := by
  intro kx env os k q F V0 H σ Q W r sr ek c
  refine wE_of (pe_lst wA_pa) ?_
  refine h.2 _ _ _ _ q F V0 H σ _ W r sr ek fun V1 os1 H1 vs ws s1 r1 rs ⟨hl, q⟩ => ?_
  refine ⟨by rw [rs.length, hl]; exact Nat.le_of_lt (small1000 hn), fun p hp => ?_⟩
  obtain ⟨s2, r2, rp⟩ := rel_newL r1 hp rs
  exact c _ os1 _ _ (.lst ws) (s1.trans s2) r2 rp q
theorem cm_lstO (h : CmA X es tl n) (hn : n ≤ 1000) : Cm X (.List es pos) (eLstO tl) := by
  intro kx env os k q F V0 H σ Q W r sr ek c
  refine wE_of (pe_lst wA_pa) ?_
  refine h.2 _ _ _ _ q F V0 H σ _ W r sr ek fun V1 os1 H1 vs ws s1 r1 rs ⟨hl, q⟩ => ?_
  refine ⟨by rw [rs.length, hl]; exact Nat.le_of_lt (small1000 hn), fun p hp => ?_⟩
  exact c V1 _ _ _ (.ref p) s1 (r1.addO hp (oo := .lst ws) ⟨vs, rfl, rs⟩) (.ref p) (q p)
/-- an owned list becomes data -/
def frzK (w : D) (os : Os) (k : D → Os → Prop) : Prop := match w with
  | .ref a => ∃ (n : Nat) (ds : List D), os[n]? = some (a, OO.lst ds) ∧ k (.lst ds) (os.eraseIdx n)
  | w => k w os
def eFrz (t : TrE) : TrE := fun kx env os k => t kx env os fun w os1 => frzK w os1 k
theorem frzK_of {K : PySem.W.Frag} {F V0 H : Hp} {v : V} {w : D} (r : Rel K F V0 os H) (rv : Rp K V0 v w) (h : frzK w os k) : ∃ V1 os1 w1, Same V0 V1 ∧ Rel K F V1 os1 H ∧ Rp K V1 v w1 ∧ k w1 os1 := by
  unfold frzK at h
  split at h
  · obtain ⟨n, ds, ho, q⟩ := h
    obtain rfl := rv.toRef
    obtain ⟨V1, s1, r1, rp⟩ := r.freeze ho
    exact ⟨V1, _, _, s1, r1, rp, q⟩
  · exact ⟨V0, os, w, Same.refl _, r, rv, h⟩
theorem cm_frz (h : Cm X e te) : Cm X e (eFrz te) := by
  intro kx env os k q F V0 H σ Q W r sr ek c
  refine h _ _ _ _ q F V0 H σ _ W r sr ek fun V1 os1 H1 v w s1 r1 rv q => ?_
  obtain ⟨V2, os2, w2, s2, r2, rp, q2⟩ := frzK_of r1 rv q
  exact c V2 os2 H1 v w2 (s1.trans s2) r2 rp q2

/-! ### subscripts -/
@[irreducible] def wIx (X : Cx) : R2 := fun x y H Q => ∀ (value slice : Expr) (pins : List (Addr × Obj)) (s : Shared) (σ : L2.St) (v u : Value), Inv X pins σ H s → RelV x v → RelV y u →
  subscripted slice false v u = operate [v, u] (getItem v u) → wpAny (model X.prog X.w) X.A (subscriptTail value slice v u) (EP X pins σ Q) X.xe s
theorem wIx_ix : IxR X (wIx X) := by unfold wIx; exact fun value slice pins s σ _ _ _ v u _ I rx ry h hs => h value slice pins s σ v u I rx ry hs
theorem wIx_of {r : R2} (h : IxR X r) {x y : V} {H : Hp} {Q : VK} (q : r x y H Q) : wIx X x y H Q := by unfold wIx; exact fun value slice pins s σ v u I rx ry hs => h value slice pins s σ H x y v u Q I rx ry q hs
theorem atI_map {α β : Type} {xs : List α} {ys : List β} (hl : xs.length = ys.length) {i : Int} {y : β} (h : atI ys i = some y) : ∃ j, ixN xs.length i = some j ∧ ys[j]? = some y := by
  unfold atI at h
  rw [← hl] at h
  cases e : ixN xs.length i with
  | none => rw [e] at h; cases h
  | some j => rw [e] at h; exact ⟨j, rfl, h⟩
theorem atI_of {α : Type} {xs : List α} {i : Int} {j : Nat} {x : α} (h1 : ixN xs.length i = some j) (h2 : xs[j]? = some x) : atI xs i = some x := by
  unfold atI
  rw [h1]; exact h2
/-- w[i] -/
def oIx : TrO := fun x y os k => match y with
  | .int i => (match x with
    | .lst ds => ∃ d, atI ds i = some d ∧ k d os
    | .tup ds => ∃ d, atI ds i = some d ∧ k d os
    | .ref p => ∃ (n : Nat) (ws : List D) (w : D), os[n]? = some (p, .lst ws) ∧ atI ws i = some w ∧ k w os
    | .str x => x.length ≤ sizeLine ∧ ∃ n, atI x.cps.toList i = some n ∧ k (.str ⟨#[n]⟩) os
    | _ => False)
  | _ => False
def eIx (o : TrO) (ta tb : TrE) : TrE := fun kx env os k => ta kx env os fun x os1 => tb kx env os1 fun y os2 => o x y os2 k
def CmIx (X : Cx) (o : TrO) : Prop := ∀ x y os k, o x y os k → ∀ (F V0 H : Hp) (v u : V) (Q : VK), Rel X.K F V0 os H → Rp X.K V0 v x → Rp X.K V0 u y →
    (∀ (V1 : Hp) (os1 : Os) (H1 : Hp) (z : V) (w : D), Same V0 V1 → Rel X.K F V1 os1 H1 → Rp X.K V1 z w → k w os1 → Q z H1) → wIx X v u H Q
theorem cmi_ix : CmIx X oIx := by
  intro x y os k h F V0 H v u Q r rx ry c
  unfold oIx at h
  split at h
  · split at h
    · obtain ⟨d, h, q⟩ := h
      obtain ⟨p, xs, rfl, h1, h2⟩ := rp_lst rx
      cases ry
      obtain ⟨j, e1, e2⟩ := atI_map h2.length h
      obtain ⟨z, e3, rz⟩ := h2.get e2
      exact wIx_of ix_list ⟨p, xs, _, z, rfl, rfl, r.vi.seq h1, atI_of e1 e3, c V0 os H z d (Same.refl _) r rz q⟩
    · obtain ⟨d, h, q⟩ := h
      obtain ⟨p, xs, rfl, h1, h2⟩ := rp_tup rx
      cases ry
      obtain ⟨j, e1, e2⟩ := atI_map h2.length h
      obtain ⟨z, e3, rz⟩ := h2.get e2
      exact wIx_of ix_tup ⟨p, xs, _, z, rfl, rfl, same_sqT r.vi h1, atI_of e1 e3, c V0 os H z d (Same.refl _) r rz q⟩
    · obtain ⟨n, ws, w, ho, h, q⟩ := h
      obtain rfl := rx.toRef
      cases ry
      obtain ⟨_, _, ho', h3, vs, rfl, h4⟩ := r.own _ (List.mem_of_getElem? ho)
      obtain ⟨j, e1, e2⟩ := atI_map h4.length h
      obtain ⟨z, e3, rz⟩ := h4.get e2
      exact wIx_of ix_list ⟨_, vs, _, z, rfl, rfl, SqL.of h3, atI_of e1 e3, c V0 os H z w (Same.refl _) r rz q⟩
    · obtain ⟨hx, n, h, q⟩ := h
      cases rx; cases ry
      exact wIx_of ix_str ⟨_, _, n, rfl, rfl, hx, h, c V0 os H _ _ (Same.refl _) r rwS q⟩
    · exact h.elim
  · exact h.elim
theorem cm_ix {o : TrO} (ho : CmIx X o) (ha : Cm X a ta) (hb : Cm X b tb) (hs : PlainIx b) : Cm X (.Subscript a b pos) (eIx o ta tb) := by
  intro kx env os k h F V0 H σ Q W r sr ek c
  refine wE_of (pe_ix (r := wIx X) wIx_ix wE_pe wE_pe hs) ?_
  refine ha _ _ _ _ h F V0 H σ _ W r sr ek fun V1 os1 H1 v x s1 r1 rx hx => ?_
  refine hb _ _ _ _ hx F V1 H1 σ _ W r1 (sr.mono s1) (ek.mono s1) fun V2 os2 H2 u y s2 r2 ry hy => ?_
  exact ho _ _ _ _ hy F V2 H2 v u Q r2 (rx.mono s2) ry fun V3 os3 H3 z w s3 r3 rw' q => c V3 os3 H3 z w ((s1.trans s2).trans s3) r3 rw' q

/-! ### slices -/
def cutA {α : Type} (xs : List α) (lo hi : Option Int) : List α := (xs.drop (HT.sIx xs.length 0 lo)).take (HT.sIx xs.length xs.length hi - HT.sIx xs.length 0 lo)
@[irreducible] def wPO (X : Cx) (e : Option Expr) : TO := fun σ H Q => ∀ (pins : List (Addr × Obj)) (s : Shared), Inv X pins σ H s → wpAny (model X.prog X.w) X.A (evalPart e X.env) (fun u s' => ∃ o H', Inv X pins σ H' s' ∧ IsPart u o ∧ Q o H') X.xe s
theorem wPO_po {e : Option Expr} : PO X e (wPO X e) := by unfold wPO; exact ⟨fun pins s _ _ _ I h => h pins s I⟩
theorem wPO_of {e : Option Expr} {t : TO} (h : PO X e t) {σ : L2.St} {H : Hp} {Q : Option Int → Hp → Prop} (q : t σ H Q) : wPO X e σ H Q := by unfold wPO; exact fun pins s I => h.run pins s σ H Q I q
abbrev TrPO := Kx → DEnv → Os → (Option Int → Os → Prop) → Prop
def CmPO (X : Cx) (e : Option Expr) (t : TrPO) : Prop := ∀ kx env os ko, t kx env os ko → ∀ (F V0 H : Hp) (σ : L2.St) (Q : Option Int → Hp → Prop) (W : WX), Rel X.K F V0 os H → SR X.K V0 σ env → XkOk X F V0 σ kx W →
    (∀ (V1 : Hp) (os1 : Os) (H1 : Hp) (o : Option Int), Same V0 V1 → Rel X.K F V1 os1 H1 → ko o os1 → Q o H1) → wPO X e σ H Q
def pN : TrPO := fun _ _ os k => k none os
def pS (t : TrE) : TrPO := fun kx env os k => t kx env os fun w os1 => match w with
  | .int i => k (some i) os1
  | _ => False
theorem cp_none : CmPO X none pN := fun kx env os ko q F V0 H σ Q W r sr ek c => wPO_of po_none (c V0 os H none (Same.refl _) r q)
theorem cp_some (h : Cm X e te) : CmPO X (some e) (pS te) := by
  intro kx env os ko q F V0 H σ Q W r sr ek c
  refine wPO_of (po_some wE_pe) ?_
  refine h _ _ _ _ q F V0 H σ _ W r sr ek fun V1 os1 H1 v w s1 r1 rv q => ?_
  split at q
  · cases rv
    exact ⟨_, rfl, c V1 os1 H1 _ s1 r1 q⟩
  · exact q.elim
/-- what a slice of a value gives -/
def slW (w : D) (os : Os) (lo hi : Option Int) (k : D → Os → Prop) : Prop := match w with
  | .lst ds => k (.lst (cutA ds lo hi)) os
  | .tup ds => (cutA ds lo hi).length < ds.length ∧ k (.tup (cutA ds lo hi)) os
  | .str x => x.length ≤ sizeLine ∧ k (.str (cutS x lo hi)) os
  | .ref p => ∃ (n : Nat) (ds : List D), os[n]? = some (p, OO.lst ds) ∧ k (.lst (cutA ds lo hi)) os
  | _ => False
def slO (w : D) (os : Os) (lo hi : Option Int) (k : D → Os → Prop) : Prop := ∃ ds, LstOf os w ds ∧ ∀ p, k (.ref p) ((p, .lst (cutA ds lo hi)) :: os)
theorem RpA.cut {K : PySem.W.Frag} {H : Hp} {vs : List V} {ds : List D} (h : RpA K H vs ds) (lo hi : Option Int) : RpA K H (cutV vs lo hi) (cutA ds lo hi) := by
  unfold cutV cutA
  rw [h.length]
  exact (h.drop _).take _
variable {lo hi : Option Expr} {p2 : Pos} {tlo thi : TrPO}
theorem cut_len {α : Type} (xs : List α) (lo hi : Option Int) : (cutA xs lo hi).length ≤ xs.length := by
  unfold cutA
  rw [List.length_take, List.length_drop]
  omega
def wSl (X : Cx) : V → Option Int → Option Int → Hp → VK → Prop := fun x l u H Q => rSlL X.K x l u H Q ∨ rSlT X.K x l u H Q ∨ rSlS x l u H Q
theorem wSl_sl : SlR X (wSl X) := sl_list.or (sl_tup.or sl_str)
def eSl (t : TrE) (tlo thi : TrPO) : TrE := fun kx env os k => t kx env os fun w os1 => tlo kx env os1 fun l os2 => thi kx env os2 fun u os3 => slW w os3 l u k
def eSlO (t : TrE) (tlo thi : TrPO) : TrE := fun kx env os k => t kx env os fun w os1 => tlo kx env os1 fun l os2 => thi kx env os2 fun u os3 => slO w os3 l u k
theorem slW_of {F V0 H : Hp} {v : V} {w : D} {l u : Option Int} {Q : VK} (r3 : Rel X.K F V0 os H) (rv3 : Rp X.K V0 v w) (q : slW w os l u k)
    (c : ∀ (V1 : Hp) (os1 : Os) (H1 : Hp) (v : V) (w : D), Same V0 V1 → Rel X.K F V1 os1 H1 → Rp X.K V1 v w → k w os1 → Q v H1) : wSl X v l u H Q := by
  unfold slW at q
  split at q
  · rename_i ds
    obtain ⟨p, xs, rfl, h1, h2⟩ := rp_lst rv3
    refine .inl ⟨p, xs, rfl, r3.vi.seq h1, fun p' hp' => ?_⟩
    obtain ⟨s4, r4, rp⟩ := rel_newL r3 hp' (h2.cut l u)
    exact c _ os _ _ (.lst _) s4 r4 rp q
  · rename_i ds
    obtain ⟨hlt, q⟩ := q
    obtain ⟨p, xs, rfl, h1, h2⟩ := rp_tup rv3
    have hl : (cutV xs l u).length < xs.length := by
      rw [(h2.cut l u).length, h2.length]; exact hlt
    refine .inr (.inl ⟨p, xs, rfl, same_sqT r3.vi h1, ?_⟩)
    first
      | (refine ⟨hl, fun p' hp' => ?_⟩
         obtain ⟨s4, r4, rp⟩ := rel_newT r3 hp' (h2.cut l u)
         exact c _ os _ _ (.tup _) s4 r4 rp q)
      | (refine ⟨fun e => ?_, fun p' hp' => ?_⟩
         · exact absurd hl (by unfold cutV; simp_all)
         · obtain ⟨s4, r4, rp⟩ := rel_newT r3 hp' (h2.cut l u)
           exact c _ os _ _ (.tup _) s4 r4 rp q)
      | skip
  · obtain ⟨hl, q⟩ := q
    cases rv3
    exact .inr (.inr ⟨_, rfl, hl, c V0 os H _ _ (Same.refl _) r3 rwS q⟩)
  · obtain ⟨n, ds, ho, q⟩ := q
    obtain rfl := rv3.toRef
    obtain ⟨_, _, ho', h3, vs, rfl, h4⟩ := r3.own _ (List.mem_of_getElem? ho)
    refine .inl ⟨_, vs, rfl, SqL.of h3, fun p' hp' => ?_⟩
    obtain ⟨s4, r4, rp⟩ := rel_newL r3 hp' (h4.cut l u)
    exact c _ os _ _ (.lst _) s4 r4 rp q
  · exact q.elim
theorem cm_sl (h : Cm X e te) (hlo : CmPO X lo tlo) (hhi : CmPO X hi thi) : Cm X (.Subscript e (.Slice lo hi none p2) pos) (eSl te tlo thi) := by
  intro kx env os k q F V0 H σ Q W r sr ek c
  refine wE_of (pe_slice (r := wSl X) wSl_sl wE_pe wPO_po wPO_po) ?_
  refine h _ _ _ _ q F V0 H σ _ W r sr ek fun V1 os1 H1 v w s1 r1 rv q => ?_
  refine hlo _ _ _ _ q F V1 H1 σ _ W r1 (sr.mono s1) (ek.mono s1) fun V2 os2 H2 l s2 r2 q => ?_
  refine hhi _ _ _ _ q F V2 H2 σ _ W r2 (sr.mono (s1.trans s2)) (ek.mono (s1.trans s2)) fun V3 os3 H3 u s3 r3 q => ?_
  exact slW_of r3 (rv.mono (s2.trans s3)) q fun V4 os4 H4 v4 w4 s4 r4 rp q => c V4 os4 H4 v4 w4 (((s1.trans s2).trans s3).trans s4) r4 rp q
theorem cm_slO (h : Cm X e te) (hlo : CmPO X lo tlo) (hhi : CmPO X hi thi) : Cm X (.Subscript e (.Slice lo hi none p2) pos) (eSlO te tlo thi) := by
  intro kx env os k q F V0 H σ Q W r sr ek c
  refine wE_of (pe_slice (r := wSl X) wSl_sl wE_pe wPO_po wPO_po) ?_
  refine h _ _ _ _ q F V0 H σ _ W r sr ek fun V1 os1 H1 v w s1 r1 rv q => ?_
  refine hlo _ _ _ _ q F V1 H1 σ _ W r1 (sr.mono s1) (ek.mono s1) fun V2 os2 H2 l s2 r2 q => ?_
  refine hhi _ _ _ _ q F V2 H2 σ _ W r2 (sr.mono (s1.trans s2)) (ek.mono (s1.trans s2)) fun V3 os3 H3 u s3 r3 q => ?_
  obtain ⟨ds, hl, q⟩ := q
  obtain ⟨a, vs, rfl, h1, ra⟩ := lstOf_of r3 (rv.mono (s2.trans s3)) hl
  refine .inl ⟨a, vs, rfl, h1, fun p' hp' => ?_⟩
  exact c V3 _ _ _ (.ref p') ((s1.trans s2).trans s3) (r3.addO hp' (oo := .lst (cutA ds l u)) ⟨_, rfl, ra.cut l u⟩) (.ref p') (q p')
end
end EV

set_option Elab.async false
set_option linter.all false
set_option maxRecDepth 100000
/-! E4: calls of built-ins, methods of lists, statements, loops. -/
namespace EV
open PySem PySem.Spec PyProof.Rows L2

/-! ### calls of built-ins -/
/-- a call of a known built-in by values -/
def JC (X : Cx) (f : Value) (ws : List D) (os : Os) (k : D → Os → Prop) : Prop :=
  ∀ (F V0 H : Hp) (vs : List V) (Q : VK), Rel X.K F V0 os H → RpA X.K V0 vs ws →
    (∀ (V1 : Hp) (os1 : Os) (H1 : Hp) (z : V) (w : D), Same V0 V1 → Rel X.K F V1 os1 H1 → Rp X.K V1 z w → k w os1 → Q z H1) →
    ∀ (pins : List (Addr × Obj)) (s : Shared) (σ : L2.St) (us : List Value), Inv X pins σ H s → Vals vs us → wpAny (model X.prog X.w) X.A (call f us) (EP X pins σ Q) X.xe s
abbrev TrC := List D → Os → (D → Os → Prop) → Prop
def CmC (X : Cx) (f : Value) (c : TrC) : Prop := ∀ ws os k, c ws os k → JC X f ws os k
theorem JC.mk {X : Cx} {os : Os} {k : D → Os → Prop} {f : Value} {r : List V → Hp → VK → Prop} {ws : List D} (hf : CallR X f r)
    (h : ∀ (F V0 H : Hp) (vs : List V) (Q : VK), Rel X.K F V0 os H → RpA X.K V0 vs ws →
      (∀ (V1 : Hp) (os1 : Os) (H1 : Hp) (z : V) (w : D), Same V0 V1 → Rel X.K F V1 os1 H1 → Rp X.K V1 z w → k w os1 → Q z H1) → r vs H Q) : JC X f ws os k :=
  fun F V0 H vs Q r1 rs c pins s σ us I rv => hf pins s σ H vs us Q I rv (h F V0 H vs Q r1 rs c)
def eCB (c : TrC) (tl : TrA) : TrE := fun kx env os k => tl kx env os fun ws os1 => c ws os1 k
section
variable {X : Cx} {os : Os} {k : D → Os → Prop} {env : DEnv} {pos p : Pos} {a b e : Expr} {es : List Expr} {x : Str} {tl : TrA} {n : Nat} {te : TrE}
theorem cm_callB {id : String} {c : TrC} (hc : CmC X (.builtin id) c) (hv : bootBuiltins x = some (.builtin id)) (hm : X.mg x = none) (hg : Gl X x) (h : CmA X (e :: es) tl n) (hn : x ≠ "__name__") (hdb : (x == ("__debug__" : Str)) = false)
    (he : starEach (e :: es) X.env = (false, eval e X.env) :: starEach es X.env) (hpl : (backTo pos (starEach es X.env)).any (·.1) = false) : Cm X (.Call (.Name x p) (e :: es) [] pos) (eCB c tl) := by
  intro kx env os k q F V0 H σ Q W r sr ek cc
  refine wE_of (pe_callB (id := id) (r := fun vs H Q => ∀ (pins : List (Addr × Obj)) (s : Shared) (σ : L2.St) (us : List Value), Inv X pins σ H s → Vals vs us → wpAny (model X.prog X.w) X.A (call (.builtin id) us) (EP X pins σ Q) X.xe s)
    (fun pins s σ H vs us Q I rv h => h pins s σ us I rv) hg hm hv wA_pa hn hdb he hpl) ?_
  refine h.2 _ _ _ _ q F V0 H σ _ W r sr ek fun V1 os1 H1 vs ws s1 r1 rs ⟨_, q⟩ => ?_
  exact hc _ _ _ q F V1 H1 vs Q r1 rs fun V2 os2 H2 z w s2 r2 rz q2 => cc V2 os2 H2 z w (s1.trans s2) r2 rz q2
theorem cm_callTy {id : String} {c : TrC} (hc : CmC X (.type id) c) (hv : bootBuiltins x = some (.type id)) (hm : X.mg x = none) (hg : Gl X x) (h : CmA X (e :: es) tl n) (hn : x ≠ "__name__") (hdb : (x == ("__debug__" : Str)) = false)
    (he : starEach (e :: es) X.env = (false, eval e X.env) :: starEach es X.env) (hpl : (backTo pos (starEach es X.env)).any (·.1) = false) : Cm X (.Call (.Name x p) (e :: es) [] pos) (eCB c tl) := by
  intro kx env os k q F V0 H σ Q W r sr ek cc
  refine wE_of (pe_callTy (T := id) (r := fun vs H Q => ∀ (pins : List (Addr × Obj)) (s : Shared) (σ : L2.St) (us : List Value), Inv X pins σ H s → Vals vs us → wpAny (model X.prog X.w) X.A (call (.type id) us) (EP X pins σ Q) X.xe s)
    (fun pins s σ H vs us Q I rv h => h pins s σ us I rv) hg hm hv wA_pa hn hdb he hpl) ?_
  refine h.2 _ _ _ _ q F V0 H σ _ W r sr ek fun V1 os1 H1 vs ws s1 r1 rs ⟨_, q⟩ => ?_
  exact hc _ _ _ q F V1 H1 vs Q r1 rs fun V2 os2 H2 z w s2 r2 rz q2 => cc V2 os2 H2 z w (s1.trans s2) r2 rz q2
/-- len -/
def lenK (w : D) (os : Os) (k : D → Os → Prop) : Prop := match w with
  | .lst ds => k (.int ds.length) os
  | .tup ds => k (.int ds.length) os
  | .str x => x.length ≤ sizeLine ∧ k (.int x.length) os
  | .ref p => ∃ (n : Nat) (ws : List D), os[n]? = some (p, .lst ws) ∧ k (.int ws.length) os
  | _ => False
def cLen : TrC := fun ws os k => match ws with
  | [w] => lenK w os k
  | _ => False
theorem cmc_len : CmC X (.builtin "len") cLen := by
  intro ws os k h
  unfold cLen at h
  split at h
  · refine JC.mk call_len fun F V0 H vs Q r rs c => ?_
    obtain ⟨v, rfl, rv⟩ := rs.one
    unfold lenK at h
    split at h
    · obtain ⟨p, xs, rfl, h1, h2⟩ := rp_lst rv
      exact ⟨_, _, rfl, .inl ⟨xs, r.vi.seq h1, h2.length.symm⟩, c V0 os H _ _ (Same.refl _) r rwI h⟩
    · obtain ⟨p, xs, rfl, h1, h2⟩ := rp_tup rv
      exact ⟨_, _, rfl, .inr ⟨xs, same_sqT r.vi h1, h2.length.symm⟩, c V0 os H _ _ (Same.refl _) r rwI h⟩
    · cases rv
      exact ⟨_, _, rfl, ⟨h.1, rfl⟩, c V0 os H _ _ (Same.refl _) r rwI h.2⟩
    · obtain ⟨n, ws, ho, q⟩ := h
      obtain rfl := rv.toRef
      obtain ⟨_, _, ho', h3, vs, rfl, h4⟩ := r.own _ (List.mem_of_getElem? ho)
      exact ⟨_, _, rfl, .inl ⟨vs, SqL.of h3, h4.length.symm⟩, c V0 os H _ _ (Same.refl _) r rwI q⟩
    · exact h.elim
  · exact h.elim
def cInt : TrC := fun ws os k => match ws with
  | [.int i] => k (.int i) os
  | [.bl b] => k (.int (if b then 1 else 0)) os
  | _ => False
theorem cmc_int : CmC X (.type "int") cInt := by
  intro ws os k h
  unfold cInt at h
  split at h
  · exact JC.mk call_int1 fun F V0 H vs Q r rs c => by
      obtain ⟨v, rfl, rv⟩ := rs.one
      cases rv
      exact .inl ⟨_, rfl, c V0 os H _ _ (Same.refl _) r rwI h⟩
  · exact JC.mk call_int1 fun F V0 H vs Q r rs c => by
      obtain ⟨v, rfl, rv⟩ := rs.one
      cases rv
      exact .inr ⟨_, rfl, c V0 os H _ _ (Same.refl _) r rwI h⟩
  · exact h.elim
def cAbs : TrC := fun ws os k => match ws with
  | [.int i] => k (.int (if i < 0 then -i else i)) os
  | _ => False
theorem cmc_abs : CmC X (.builtin "abs") cAbs := by
  intro ws os k h
  unfold cAbs at h
  split at h
  · exact JC.mk call_abs fun F V0 H vs Q r rs c => by
      obtain ⟨v, rfl, rv⟩ := rs.one
      cases rv
      exact ⟨_, rfl, c V0 os H _ _ (Same.refl _) r rwI h⟩
  · exact h.elim
def cStrI : TrC := fun ws os k => match ws with
  | [.int i] => i.natAbs.log2 < 1920 ∧ k (.str (toString i)) os
  | _ => False
theorem cmc_strI : CmC X (.type "str") cStrI := by
  intro ws os k h
  unfold cStrI at h
  split at h
  · exact JC.mk call_str_int fun F V0 H vs Q r rs c => by
      obtain ⟨v, rfl, rv⟩ := rs.one
      cases rv
      exact ⟨_, rfl, h.1, c V0 os H _ _ (Same.refl _) r rwS h.2⟩
  · exact h.elim
theorem rpA_int {K : PySem.W.Frag} {H : Hp} : ∀ {ns : List Int} {vs : List V}, RpA K H vs (ns.map D.int) → vs = ns.map V.int
  | [], _, h => by cases h; rfl
  | n :: ns, _, h => by
    cases h with
    | cons a b => cases a; rw [rpA_int b]; rfl
theorem rpA_ints {K : PySem.W.Frag} {H : Hp} : ∀ ns : List Int, RpA K H (ns.map V.int) (ns.map D.int)
  | [] => .nil
  | n :: ns => .cons (.int n) (rpA_ints ns)
/-- max, min: of two ints, of a list of ints -/
def cMax : TrC := fun ws os k => match ws with
  | [.int i, .int j] => k (.int (if j > i then j else i)) os
  | [w] => ∃ ns : List Int, LstOf os w (ns.map D.int) ∧ 0 < ns.length ∧ ∀ m, m ∈ ns → (∀ y, y ∈ ns → y ≤ m) → k (.int m) os
  | _ => False
def cMin : TrC := fun ws os k => match ws with
  | [.int i, .int j] => k (.int (if j < i then j else i)) os
  | [w] => ∃ ns : List Int, LstOf os w (ns.map D.int) ∧ 0 < ns.length ∧ ∀ m, m ∈ ns → (∀ y, y ∈ ns → m ≤ y) → k (.int m) os
  | _ => False
theorem cmc_max (hc : X.calm = true) : CmC X (.builtin "max") cMax := by
  intro ws os k h
  unfold cMax at h
  split at h
  · exact JC.mk (call_max2 hc) fun F V0 H vs Q r rs c => by
      obtain ⟨v, v2, rfl, rv, rv2⟩ := rs.two
      cases rv; cases rv2
      exact ⟨_, _, rfl, c V0 os H _ _ (Same.refl _) r rwI h⟩
  · obtain ⟨ns, h1, hn, q⟩ := h
    exact JC.mk (cr_max hc) fun F V0 H vs Q r rs c => by
      obtain ⟨v, rfl, rv⟩ := rs.one
      obtain ⟨a, xs, rfl, hs, ra⟩ := lstOf_of r rv h1
      have e := rpA_int ra
      subst e
      exact ⟨a, ns, rfl, hs, hn, fun m h1 h2 => c V0 os H _ _ (Same.refl _) r rwI (q m h1 h2)⟩
  · exact h.elim
theorem cmc_min (hc : X.calm = true) : CmC X (.builtin "min") cMin := by
  intro ws os k h
  unfold cMin at h
  split at h
  · exact JC.mk (call_min2 hc) fun F V0 H vs Q r rs c => by
      obtain ⟨v, v2, rfl, rv, rv2⟩ := rs.two
      cases rv; cases rv2
      exact ⟨_, _, rfl, c V0 os H _ _ (Same.refl _) r rwI h⟩
  · obtain ⟨ns, h1, hn, q⟩ := h
    exact JC.mk (cr_min hc) fun F V0 H vs Q r rs c => by
      obtain ⟨v, rfl, rv⟩ := rs.one
      obtain ⟨a, xs, rfl, hs, ra⟩ := lstOf_of r rv h1
      have e := rpA_int ra
      subst e
      exact ⟨a, ns, rfl, hs, hn, fun m h1 h2 => c V0 os H _ _ (Same.refl _) r rwI (q m h1 h2)⟩
  · exact h.elim
def cSum : TrC := fun ws os k => match ws with
  | [w] => ∃ ns : List Int, LstOf os w (ns.map D.int) ∧ k (.int ns.sum) os
  | _ => False
theorem cmc_sum (hc : X.calm = true) : CmC X (.builtin "sum") cSum := by
  intro ws os k h
  unfold cSum at h
  split at h
  · obtain ⟨ns, h1, q⟩ := h
    exact JC.mk (cr_sum hc) fun F V0 H vs Q r rs c => by
      obtain ⟨v, rfl, rv⟩ := rs.one
      obtain ⟨a, xs, rfl, hs, ra⟩ := lstOf_of r rv h1
      have e := rpA_int ra
      subst e
      exact ⟨a, ns, rfl, hs, c V0 os H _ _ (Same.refl _) r rwI q⟩
  · exact h.elim
/-- sorted of ints -/
def cSortI : TrC := fun ws os k => match ws with
  | [w] => ∃ ns : List Int, LstOf os w (ns.map D.int) ∧ ∀ ms : List Int, ms.Perm ns → ms.Pairwise (· ≤ ·) → k (.lst (ms.map D.int)) os
  | _ => False
theorem cmc_sortI : CmC X (.builtin "sorted") cSortI := by
  intro ws os k h
  unfold cSortI at h
  split at h
  · obtain ⟨ns, h1, q⟩ := h
    exact JC.mk cr_sortedI fun F V0 H vs Q r rs c => by
      obtain ⟨v, rfl, rv⟩ := rs.one
      obtain ⟨a, xs, rfl, hs, ra⟩ := lstOf_of r rv h1
      have e := rpA_int ra
      subst e
      refine ⟨a, ns, rfl, hs, fun ms p h1 h2 hp => ?_⟩
      obtain ⟨s2, r2, rp⟩ := rel_newL r hp (rpA_ints (K := X.K) (H := V0) ms)
      exact c _ os _ _ (.lst (ms.map D.int)) s2 r2 rp (q ms h1 h2)
  · exact h.elim
/-- list(x) -/
def seqK (w : D) (os : Os) (k : List D → Prop) : Prop := match w with
  | .lst ds => k ds
  | .tup ds => k ds
  | .ref p => ∃ (n : Nat) (ws : List D), os[n]? = some (p, .lst ws) ∧ k ws
  | _ => False
theorem seqK_of {w : D} {kk : List D → Prop} (h : seqK w os kk) : ∃ ds, SeqOf os w ds ∧ kk ds := by
  unfold seqK at h
  split at h
  · exact ⟨_, rfl, h⟩
  · exact ⟨_, rfl, h⟩
  · obtain ⟨n, ws, ho, q⟩ := h
    exact ⟨ws, ⟨n, ho⟩, q⟩
  · exact h.elim
def cList : TrC := fun ws os k => match ws with
  | [w] => seqK w os fun ds => k (.lst ds) os
  | _ => False
def cListO : TrC := fun ws os k => match ws with
  | [w] => seqK w os fun ds => ∀ p, k (.ref p) ((p, .lst ds) :: os)
  | _ => False
theorem cmc_list : CmC X (.type "list") cList := by
  intro ws os k h
  unfold cList at h
  split at h
  · obtain ⟨ds, hs, q⟩ := seqK_of h
    exact JC.mk call_list_of fun F V0 H vs Q r rs c => by
      obtain ⟨v, rfl, rv⟩ := rs.one
      obtain ⟨a, xs, rfl, hs, ra⟩ := seqOf_of r rv hs
      refine ⟨a, xs, rfl, hs, fun l hl => ?_⟩
      obtain ⟨s2, r2, rp⟩ := rel_newL r hl ra
      exact c _ os _ _ (.lst ds) s2 r2 rp q
  · exact h.elim
theorem cmc_listO : CmC X (.type "list") cListO := by
  intro ws os k h
  unfold cListO at h
  split at h
  · obtain ⟨ds, hs, q⟩ := seqK_of h
    exact JC.mk call_list_of fun F V0 H vs Q r rs c => by
      obtain ⟨v, rfl, rv⟩ := rs.one
      obtain ⟨a, xs, rfl, hs, ra⟩ := seqOf_of r rv hs
      refine ⟨a, xs, rfl, hs, fun l hl => ?_⟩
      exact c V0 _ _ _ (.ref l) (Same.refl _) (r.addO hl (oo := .lst ds) ⟨xs, rfl, ra⟩) (.ref l) (q l)
  · exact h.elim
/-- isinstance(x, T) of a built-in class -/
def tyD : D → Option String
  | .non => some "NoneType" | .bl _ => some "bool" | .int _ => some "int" | .str _ => some "str" | .tup _ => some "tuple" | .lst _ => some "list" | _ => none
theorem tyX_of {K : PySem.W.Frag} {V0 H : Hp} {v : V} {n : String} (vi : Same V0 H) : ∀ {w : D}, Rp K V0 v w → tyD w = some n → TyX K H v (.type n)
  | .non, rv, t => by cases rv; cases t; exact .base .non
  | .bl _, rv, t => by cases rv; cases t; exact .base (.bl _)
  | .int _, rv, t => by cases rv; cases t; exact .base (.int _)
  | .str _, rv, t => by cases rv; cases t; exact .base (.str _)
  | .tup ds, rv, t => by
      cases t
      obtain ⟨p, xs, rfl, h1, h2⟩ := rp_tup rv
      rcases h1 with (h1 | ⟨o, h1⟩) | ⟨o, its, m, h1, h3, _⟩
      · exact .base (.tup (vi _ _ h1))
      · exact .fTuple (vi _ _ h1)
      · exact .kTuple h1 h3
  | .lst ds, rv, t => by
      cases t
      obtain ⟨p, xs, rfl, h1, h2⟩ := rp_lst rv
      rcases h1 with (h1 | ⟨o, h1⟩) | ⟨o, its, m, h1, h3, _⟩
      · exact .base (.lst (vi _ _ h1))
      · exact .base (.frz (vi _ _ h1))
      · exact .kList h1 h3
/-- the answers, by a table that reduces -/
def kitN (n m : String) : Option Bool :=
  match n with
  | "NoneType" => some false
  | "bool" => some (match m with | "bool" => true | "int" => true | _ => false)
  | _ => some (decide (n = m))
def isiD (w : D) (m : String) : Option Bool := match w with
  | .non => kitB "NoneType" m | .bl _ => kitB "bool" m | .int _ => kitB "int" m | .str _ => kitB "str" m | .tup _ => kitB "tuple" m | .lst _ => kitB "list" m | _ => none
def isiK (w : D) (m : String) (os : Os) (k : D → Os → Prop) : Prop := match w with
  | .ref p => ∃ (n : Nat) (ws : List D), os[n]? = some (p, .lst ws) ∧ ∃ b, kitB "list" m = some b ∧ k (.bl b) os
  | w => ∃ b, isiD w m = some b ∧ k (.bl b) os
def cIsi : TrC := fun ws os k => match ws with
  | [w, .ty m] => isiK w m os k
  | _ => False
theorem cmc_isi : CmC X (.builtin "isinstance") cIsi := by
  intro ws os k h
  unfold cIsi at h
  split at h
  · rename_i w m
    refine JC.mk call_isi fun F V0 H vs Q r rs c => ?_
    obtain ⟨v, v2, rfl, rv, rv2⟩ := rs.two
    cases rv2
    have key : ∃ n b, TyX X.K H v (.type n) ∧ kitB n m = some b ∧ k (.bl b) os := by
      unfold isiK at h
      split at h
      · obtain ⟨n, ws, ho, b, hb, q⟩ := h
        obtain rfl := rv.toRef
        obtain ⟨_, _, ho', h3, vs, rfl, h4⟩ := r.own _ (List.mem_of_getElem? ho)
        exact ⟨"list", b, .base (.lst h3), hb, q⟩
      · obtain ⟨b, hb, q⟩ := h
        unfold isiD at hb
        split at hb
        · exact ⟨_, b, tyX_of r.vi rv rfl, hb, q⟩
        · exact ⟨_, b, tyX_of r.vi rv rfl, hb, q⟩
        · exact ⟨_, b, tyX_of r.vi rv rfl, hb, q⟩
        · exact ⟨_, b, tyX_of r.vi rv rfl, hb, q⟩
        · exact ⟨_, b, tyX_of r.vi rv rfl, hb, q⟩
        · exact ⟨_, b, tyX_of r.vi rv rfl, hb, q⟩
        · cases hb
    obtain ⟨n, b, t, hb, q⟩ := key
    exact ⟨v, .ty m, _, _, b, rfl, .ty m, t, kit_ty hb, c V0 os H _ _ (Same.refl _) r rwB q⟩
  · exact h.elim

/-! ### methods of lists -/
theorem own_ty {K : PySem.W.Frag} {F V0 H : Hp} {p : Addr} {ws : List D} {n : Nat} (r : Rel K F V0 os H) (ho : os[n]? = some (p, .lst ws)) : ∃ vs, H p = some (.lst vs) ∧ RpA K V0 vs ws ∧ tyV K "list" (.ref p) H := by
  obtain ⟨_, _, ho', h3, vs, rfl, h4⟩ := r.own _ (List.mem_of_getElem? ho)
  exact ⟨vs, h3, h4, .inl ⟨rfl, vs, SqL.of h3⟩⟩
variable {o : Expr} {apos cpos : Pos} {to : TrE}
/-- an owned list at hand -/
def onL (w : D) (os : Os) (k : Addr → Prop) : Prop := match w with
  | .ref p => (∃ (n : Nat) (ws : List D), os[n]? = some (p, OO.lst ws)) ∧ k p
  | _ => False
theorem onL_ref {w : D} {kk : Addr → Prop} (h : onL w os kk) : ∃ (p : Addr) (n : Nat) (ws : List D), w = .ref p ∧ os[n]? = some (p, OO.lst ws) ∧ kk p := by
  unfold onL at h
  split at h
  · obtain ⟨⟨n, ws, ho⟩, q⟩ := h
    exact ⟨_, n, ws, rfl, ho, q⟩
  · exact h.elim
/-- xs.append(e): the receiver first, then the item -/
def eApp (to te : TrE) : TrE := fun kx env os k => to kx env os fun w os1 => onL w os1 fun p => te kx env os1 fun y os2 => ∃ (m : Nat) (us : List D), os2[m]? = some (p, .lst us) ∧ us.length < sizeLine ∧ k .non (os2.set m (p, .lst (us ++ [y])))
theorem cm_app (h : Cm X o to) (h2 : Cm X e te) (hbase : attributeBase o "append" X.env (eval o X.env) = eval o X.env)
    (hfew : ((backTo cpos (starEach [e] X.env)).all (fun x => !x.1) && (backToKw cpos (keywordEach [] X.env)).all (fun x => x.1.isSome)
      && decide ([e].length + ([] : List Keyword).length + (if ([] : List Keyword).isEmpty then 0 else 1) < 30)) = true)
    (hline : (apos.endLine == cpos.line) = true) (hs : starEach [e] X.env = (false, eval e X.env) :: starEach [] X.env) :
    Cm X (.Call (.Attribute o "append" apos) [e] [] cpos) (eApp to te) := by
  intro kx env os k q F V0 H σ Q W r sr ek c
  refine wE_of (pe_bm PySem.F.plainAttrs_list PySem.F.slot_list_append PySem.F.type_list_append mt_append wE_pe (pa_cons wE_pe pa_nil hs) hbase hfew hline hs) ?_
  refine h _ _ _ _ q F V0 H σ _ W r sr ek fun V1 os1 H1 v w s1 r1 rv q => ?_
  obtain ⟨pl, n, ws, rfl, ho, q⟩ := onL_ref q
  obtain rfl := rv.toRef
  obtain ⟨vs, h3, h4, ty⟩ := own_ty r1 ho
  refine ⟨ty, ?_⟩
  refine h2 _ _ _ _ q F V1 H1 σ _ W r1 (sr.mono s1) (ek.mono s1) fun V2 os2 H2 u y s2 r2 ru ⟨m, us, ho2, hl, q⟩ => ?_
  obtain ⟨vs2, h5, h6, _⟩ := own_ty r2 ho2
  refine ⟨pl, vs2, u, rfl, rfl, h5, by rw [h6.length]; exact hl, ?_⟩
  exact c V2 _ _ _ .non (s1.trans s2) (r2.mut ho2 (oo' := .lst (us ++ [y])) ⟨vs2 ++ [u], rfl, h6.append (.cons ru .nil)⟩) rwN q
/-- xs.pop(i) -/
def ePopAt (to te : TrE) : TrE := fun kx env os k => to kx env os fun w os1 => onL w os1 fun p => te kx env os1 fun y os2 => match y with
  | .int i => ∃ (m : Nat) (us : List D) (j : Nat) (z : D), os2[m]? = some (p, .lst us) ∧ -(2 ^ 63) ≤ i ∧ i < 2 ^ 63 ∧ seqIndex? i us.length = some j ∧ us[j]? = some z ∧ k z (os2.set m (p, .lst (us.eraseIdx j)))
  | _ => False
theorem cm_popAt (h : Cm X o to) (h2 : Cm X e te) (hbase : attributeBase o "pop" X.env (eval o X.env) = eval o X.env)
    (hfew : ((backTo cpos (starEach [e] X.env)).all (fun x => !x.1) && (backToKw cpos (keywordEach [] X.env)).all (fun x => x.1.isSome)
      && decide ([e].length + ([] : List Keyword).length + (if ([] : List Keyword).isEmpty then 0 else 1) < 30)) = true)
    (hline : (apos.endLine == cpos.line) = true) (hs : starEach [e] X.env = (false, eval e X.env) :: starEach [] X.env) :
    Cm X (.Call (.Attribute o "pop" apos) [e] [] cpos) (ePopAt to te) := by
  intro kx env os k q F V0 H σ Q W r sr ek c
  refine wE_of (pe_bm PySem.F.plainAttrs_list PySem.F.slot_list_pop PySem.F.type_list_pop mt_popAt wE_pe (pa_cons wE_pe pa_nil hs) hbase hfew hline hs) ?_
  refine h _ _ _ _ q F V0 H σ _ W r sr ek fun V1 os1 H1 v w s1 r1 rv q => ?_
  obtain ⟨pl, n, ws, rfl, ho, q⟩ := onL_ref q
  obtain rfl := rv.toRef
  obtain ⟨vs, h3, h4, ty⟩ := own_ty r1 ho
  refine ⟨ty, ?_⟩
  refine h2 _ _ _ _ q F V1 H1 σ _ W r1 (sr.mono s1) (ek.mono s1) fun V2 os2 H2 u y s2 r2 ru q => ?_
  split at q
  · obtain ⟨m, us, j, z, ho2, b1, b2, hj, hz, q⟩ := q
    cases ru
    obtain ⟨vs2, h5, h6, _⟩ := own_ty r2 ho2
    obtain ⟨zv, ez, rz⟩ := h6.get hz
    refine ⟨pl, vs2, _, j, zv, rfl, rfl, h5, b1, b2, by rw [h6.length]; exact hj, ez, ?_⟩
    exact c V2 _ _ _ z (s1.trans s2) (r2.mut ho2 (oo' := .lst (us.eraseIdx j)) ⟨vs2.eraseIdx j, rfl, h6.eraseIdx j⟩) rz q
  · exact q.elim
/-- xs.pop() -/
def ePop (to : TrE) : TrE := fun kx env os k => to kx env os fun w os1 => match w with
  | .ref p => ∃ (n : Nat) (ws : List D) (z : D), os1[n]? = some (p, .lst ws) ∧ ws[ws.length - 1]? = some z ∧ k z (os1.set n (p, .lst ws.dropLast))
  | _ => False
theorem cm_pop (h : Cm X o to) (hbase : attributeBase o "pop" X.env (eval o X.env) = eval o X.env) (hline : (apos.endLine == cpos.line) = true) :
    Cm X (.Call (.Attribute o "pop" apos) [] [] cpos) (ePop to) := by
  intro kx env os k q F V0 H σ Q W r sr ek c
  refine wE_of (pe_bm0 PySem.F.plainAttrs_list PySem.F.slot_list_pop PySem.F.type_list_pop mt_pop wE_pe hbase hline) ?_
  refine h _ _ _ _ q F V0 H σ _ W r sr ek fun V1 os1 H1 v w s1 r1 rv q => ?_
  split at q
  · obtain ⟨n, ws, z, ho, hz, q⟩ := q
    obtain rfl := rv.toRef
    obtain ⟨vs, h3, h4, ty⟩ := own_ty r1 ho
    refine ⟨ty, ?_⟩
    obtain ⟨zv, ez, rz⟩ := h4.get (i := ws.length - 1) hz
    refine ⟨_, vs, zv, rfl, rfl, h3, by rw [h4.length]; exact ez, ?_⟩
    refine c V1 _ _ _ z s1 (r1.mut ho (oo' := .lst ws.dropLast) ⟨vs.dropLast, rfl, ?_⟩) rz q
    rw [List.dropLast_eq_take, List.dropLast_eq_take, h4.length]
    exact h4.take _
  · exact q.elim
theorem rpA_rep {K : PySem.W.Frag} {H : Hp} {vs : List V} {ws : List D} (h : RpA K H vs ws) : ∀ n : Nat, RpA K H (List.replicate n vs).flatten (List.replicate n ws).flatten
  | 0 => .nil
  | n + 1 => by
    rw [List.replicate_succ, List.replicate_succ, List.flatten_cons, List.flatten_cons]
    exact h.append (rpA_rep h n)
/-- [e] * n: a new list of n times the one item: data or owned -/
def repK (own : Bool) (es : List D) (y : D) (os : Os) (k : D → Os → Prop) : Prop := match y with
  | .int j => -(2 ^ 63) ≤ j ∧ j < 2 ^ 63 ∧ es.length * j.toNat ≤ sizeLine ∧ (if own then ∀ a, k (.ref a) ((a, .lst (List.replicate j.toNat es).flatten) :: os) else k (.lst (List.replicate j.toNat es).flatten) os)
  | _ => False
def eRep (own : Bool) (tl : TrA) (tb : TrE) : TrE := fun kx env os k => tl kx env os fun es os1 => tb kx env os1 fun y os2 => repK own es y os2 k
theorem cm_rep {own : Bool} {p1 : Pos} (h : CmA X es tl n) (hn : n ≤ 1000) (h2 : Cm X b te) : Cm X (.BinOp (.List es p1) .Mult b pos) (eRep own tl te) := by
  intro kx env os k q F V0 H σ Q W r sr ek c
  refine wE_of (pe_op (r := wO X (binaryOp .Mult)) wO_op wE_pe wE_pe) ?_
  refine wE_of (pe_lst wA_pa) ?_
  refine h.2 _ _ _ _ q F V0 H σ _ W r sr ek fun V1 os1 H1 vs ws s1 r1 rs ⟨hl, q⟩ => ?_
  refine ⟨by rw [rs.length, hl]; exact Nat.le_of_lt (small1000 hn), fun p hp => ?_⟩
  obtain ⟨s1', r1', rp⟩ := rel_newL r1 hp rs
  refine h2 _ _ _ _ q F _ _ σ _ W r1' (sr.mono (s1.trans s1')) (ek.mono (s1.trans s1')) fun V2 os2 H2 u y s2 r2 ru q => ?_
  obtain ⟨a0, xs, e0, h3, h4⟩ := rp_lst (Rp.mono s2 rp)
  cases e0
  have s12 := (s1.trans s1').trans s2
  unfold repK at q
  split at q
  · obtain ⟨b1, b2, hsz, q⟩ := q
    cases ru
    refine wO_of op_rep ?_
    have hH : H2 p = some (.lst vs) := r2.vi _ _ (s2 _ _ upd_same)
    have h4' : RpA X.K V2 vs ws := RpA.mono (s1'.trans s2) rs
    refine ⟨p, _, vs, rfl, rfl, hH, b1, b2, by rw [h4'.length]; exact hsz, fun a ha => ?_⟩
    split at q
    · exact c V2 _ _ _ (.ref a) s12 (r2.addO ha (oo := .lst _) ⟨_, rfl, rpA_rep h4' _⟩) (.ref a) (q a)
    · obtain ⟨s3, r3, rp3⟩ := rel_newL r2 ha (rpA_rep h4' _)
      exact c _ os2 _ _ (.lst _) (s12.trans s3) r3 rp3 q
  · exact q.elim
end

/-! ### statements -/
structure KR where
  rt : D → Os → Prop
  bk : DEnv → Os → Prop := fun _ _ => False
  ct : DEnv → Os → Prop := fun _ _ => False
  ex : Exn → DEnv → Os → Prop := fun _ _ _ => False
structure KS where
  nx : DEnv → Os → Prop
  r : KR
abbrev KS.rt (K : KS) := K.r.rt
abbrev KS.bk (K : KS) := K.r.bk
abbrev KS.ct (K : KS) := K.r.ct
abbrev KS.ex (K : KS) := K.r.ex
structure EndsOk (X : Cx) (F V0 : Hp) (K : KS) (D : Ends) (W : WX) : Prop where
  nx : ∀ (V1 : Hp) (os1 : Os) (H1 : Hp) (σ1 : L2.St) (env1 : DEnv), Same V0 V1 → Rel X.K F V1 os1 H1 → SR X.K V1 σ1 env1 → K.nx env1 os1 → D.nx σ1 H1
  rt : ∀ (V1 : Hp) (os1 : Os) (H1 : Hp) (v : V) (w : EV.D), Same V0 V1 → Rel X.K F V1 os1 H1 → Rp X.K V1 v w → K.rt w os1 → D.rt v H1
  bk : ∀ (V1 : Hp) (os1 : Os) (H1 : Hp) (σ1 : L2.St) (env1 : DEnv), Same V0 V1 → Rel X.K F V1 os1 H1 → SR X.K V1 σ1 env1 → K.bk env1 os1 → D.bk σ1 H1
  ct : ∀ (V1 : Hp) (os1 : Os) (H1 : Hp) (σ1 : L2.St) (env1 : DEnv), Same V0 V1 → Rel X.K F V1 os1 H1 → SR X.K V1 σ1 env1 → K.ct env1 os1 → D.ct σ1 H1
  tk : Takes X W
  ex : ∀ (V1 : Hp) (os1 : Os) (H1 : Hp) (σ1 : L2.St) (env1 : DEnv) (cls : Value) (d : Option Addr) (x : Exn), Same V0 V1 → Rel X.K F V1 os1 H1 → SR X.K V1 σ1 env1 → ExnR X.K V1 cls d x → K.ex x env1 os1 → W cls d σ1 H1
theorem EndsOk.mono {X : Cx} {F V0 V1 : Hp} {K : KS} {D : Ends} {W : WX} (h : EndsOk X F V0 K D W) (s : Same V0 V1) : EndsOk X F V1 K D W :=
  ⟨fun V2 o H σ e s2 => h.nx V2 o H σ e (s.trans s2), fun V2 o H v w s2 => h.rt V2 o H v w (s.trans s2), fun V2 o H σ e s2 => h.bk V2 o H σ e (s.trans s2), fun V2 o H σ e s2 => h.ct V2 o H σ e (s.trans s2), h.tk,
    fun V2 o H σ e c d x s2 => h.ex V2 o H σ e c d x (s.trans s2)⟩
theorem EndsOk.xk {X : Cx} {F V0 : Hp} {K : KS} {D : Ends} {W : WX} (h : EndsOk X F V0 K D W) {σ : L2.St} {env : DEnv} (sr : SR X.K V0 σ env) : XkOk X F V0 σ (fun x os => K.ex x env os) W :=
  ⟨h.tk, fun V1 os1 H1 cls d x s r e q => h.ex V1 os1 H1 σ env cls d x s r (sr.mono s) e q⟩
def JS1 (X : Cx) (st : Stmt) (env : DEnv) (os : Os) (K : KS) : Prop :=
  ∀ (F V0 H : Hp) (σ : L2.St) (D : Ends) (W : WX), Rel X.K F V0 os H → SR X.K V0 σ env → EndsOk X F V0 K D W → wS1 X st D σ H
def JSs (X : Cx) (sts : List Stmt) (env : DEnv) (os : Os) (K : KS) : Prop :=
  ∀ (F V0 H : Hp) (σ : L2.St) (D : Ends) (W : WX), Rel X.K F V0 os H → SR X.K V0 σ env → EndsOk X F V0 K D W → wSs X sts D σ H
def JG (X : Cx) (tg : Expr) (w : D) (env : DEnv) (os : Os) (kg : DEnv → Os → Prop) : Prop :=
  ∀ (F V0 H : Hp) (σ : L2.St) (v : V) (Q : L2.St → Hp → Prop) (W : WX), Rel X.K F V0 os H → SR X.K V0 σ env → Rp X.K V0 v w → Takes X W →
    (∀ (V1 : Hp) (os1 : Os) (H1 : Hp) (σ1 : L2.St) (env1 : DEnv), Same V0 V1 → Rel X.K F V1 os1 H1 → SR X.K V1 σ1 env1 → kg env1 os1 → Q σ1 H1) → wG X tg v σ H Q
abbrev TrS := (DEnv → Os → Prop) → KR → DEnv → Os → Prop
abbrev TrG := D → DEnv → Os → (DEnv → Os → Prop) → Prop
def CmS (X : Cx) (st : Stmt) (t : TrS) : Prop := ∀ N R env os, t N R env os → JS1 X st env os ⟨N, R⟩
def CmSs (X : Cx) (sts : List Stmt) (t : TrS) : Prop := ∀ N R env os, t N R env os → JSs X sts env os ⟨N, R⟩
def CmG (X : Cx) (tg : Expr) (t : TrG) : Prop := ∀ w env os kg, t w env os kg → JG X tg w env os kg
theorem XkOk.no {X : Cx} {F V0 : Hp} {σ : L2.St} {W : WX} (t : Takes X W) : XkOk X F V0 σ (fun _ _ => False) W := ⟨t, fun _ _ _ _ _ _ _ _ _ z => z.elim⟩
/-- what is raised within a statement -/
abbrev KR.xk (R : KR) (env : DEnv) : Kx := fun x os => R.ex x env os
/-- a block -/
def sNo : TrS := fun N _ env os => N env os
def sCo (t u : TrS) : TrS := fun N R env os => t (fun e o => u N R e o) R env os
section
variable {X : Cx} {pos : Pos} {e : Expr} {st : Stmt} {sts : List Stmt} {te to : TrE} {t : TrS} {ts : List TrS}
theorem cs_nil : CmSs X [] sNo := fun N R env os q F V0 H σ D W r sr ek => wSs_of pss_nil (ek.nx V0 os H σ env (Same.refl _) r sr q)
theorem cs_one (h : CmS X st t) : CmSs X [st] t := fun N R env os q F V0 H σ D W r sr ek => wSs_of (pss_one wS1_ps) (h _ _ _ _ q F V0 H σ D W r sr ek)
theorem cs_cons {u : TrS} (h : CmS X st t) (h2 : CmSs X sts u) : CmSs X (st :: sts) (sCo t u) := by
  intro N R env os q F V0 H σ D W r sr ek
  refine wSs_of (pss_cons wS1_ps wSs_pss) ?_
  refine h _ _ _ _ q F V0 H σ { D with nx := wSs X sts D } W r sr ⟨fun V1 os1 H1 σ1 env1 s1 r1 sr1 q => ?_, ek.rt, ek.bk, ek.ct, ek.tk, ek.ex⟩
  exact h2 _ _ _ _ q F V1 H1 σ1 D W r1 sr1 (ek.mono s1)
def sPass : TrS := fun N R env os => N env os
def sBrk : TrS := fun N R env os => R.bk env os
def sCnt : TrS := fun N R env os => R.ct env os
theorem c1_pass : CmS X (.Pass pos) sPass := fun N R env os q F V0 H σ D W r sr ek => wS1_of ps_pass (ek.nx V0 os H σ env (Same.refl _) r sr q)
theorem c1_brk : CmS X (.Break pos) sBrk := fun N R env os q F V0 H σ D W r sr ek => wS1_of ps_break (ek.bk V0 os H σ env (Same.refl _) r sr q)
theorem c1_cnt : CmS X (.Continue pos) sCnt := fun N R env os q F V0 H σ D W r sr ek => wS1_of ps_continue (ek.ct V0 os H σ env (Same.refl _) r sr q)
def sRet (te : TrE) : TrS := fun N R env os => te (R.xk env) env os fun w os1 => R.rt w os1
def sRetN : TrS := fun N R _ os => R.rt .non os
theorem c1_ret (h : Cm X e te) : CmS X (.Return (some e) pos) (sRet te) := by
  intro N R env os q F V0 H σ D W r sr ek
  refine wS1_of (ps_ret wE_pe) ?_
  exact h _ _ _ _ q F V0 H σ _ W r sr (ek.xk sr) fun V1 os1 H1 v w s1 r1 rv q => ek.rt V1 os1 H1 v w s1 r1 rv q
theorem c1_retN : CmS X (.Return none pos) sRetN := fun N R env os q F V0 H σ D W r sr ek => wS1_of ps_retN (ek.rt V0 os H .non .non (Same.refl _) r rwN q)
def sExpr (te : TrE) : TrS := fun N R env os => te (R.xk env) env os fun _ os1 => N env os1
theorem c1_expr (h : Cm X e te) (hs : swapsWith e none pos.line X.env = pure false) : CmS X (.Expr e pos) (sExpr te) := by
  intro N R env os q F V0 H σ D W r sr ek
  refine wS1_of (ps_expr wE_pe hs) ?_
  exact h _ _ _ _ q F V0 H σ _ W r sr (ek.xk sr) fun V1 os1 H1 v w s1 r1 rv q => ek.nx V1 os1 H1 σ env s1 r1 (sr.mono s1) q
def sIf (c : TrT) (p q : TrS) : TrS := fun N R env os => c (R.xk env) env os fun b os1 => (b = true → p N R env os1) ∧ (b = false → q N R env os1)
/-- both ways meet in J -/
def sIfJ (c : TrT) (p q : TrS) : TrS := fun N R env os => ∃ J : DEnv → Os → Prop, (c (R.xk env) env os fun b os1 => (b = true → p J R env os1) ∧ (b = false → q J R env os1)) ∧ ∀ e o, J e o → N e o
theorem c1_if {c : Expr} {p q : List Stmt} {tc : TrT} {tp tq : TrS} (h : CmT X c tc) (h1 : CmSs X p tp) (h2 : CmSs X q tq) : CmS X (.If c p q pos) (sIf tc tp tq) := by
  intro N R env os q F V0 H σ D W r sr ek
  refine wS1_of (ps_if wTt_pt wSs_pss wSs_pss) ?_
  refine h _ _ _ _ q F V0 H σ _ W r sr (ek.xk sr) fun V1 os1 H1 b s1 r1 q => ?_
  cases b with
  | true => exact iteT (h1 _ _ _ _ (q.1 rfl) F V1 H1 σ D W r1 (sr.mono s1) (ek.mono s1))
  | false => exact iteF (h2 _ _ _ _ (q.2 rfl) F V1 H1 σ D W r1 (sr.mono s1) (ek.mono s1))
theorem c1_ifJ {c : Expr} {p q : List Stmt} {tc : TrT} {tp tq : TrS} (h : CmT X c tc) (h1 : CmSs X p tp) (h2 : CmSs X q tq) : CmS X (.If c p q pos) (sIfJ tc tp tq) := by
  intro N R env os ⟨J, q, hJ⟩ F V0 H σ D W r sr ek
  exact c1_if h h1 h2 J R env os q F V0 H σ D W r sr ⟨fun V1 o1 H1 σ1 e1 a b c z => ek.nx V1 o1 H1 σ1 e1 a b c (hJ _ _ z), ek.rt, ek.bk, ek.ct, ek.tk, ek.ex⟩
/-- name = e -/
def sSet (i : Nat) (te : TrE) : TrS := fun N R env os => te (R.xk env) env os fun w os1 => N (setE env i (some w)) os1
theorem sr_setE {K : PySem.W.Frag} {V0 : Hp} {σ : L2.St} {env : DEnv} (h : SR K V0 σ env) {v : V} {w : D} (r : Rp K V0 v w) (i : Nat) : SR K V0 (σ.set i (some v)) (setE env i (some w)) := by
  rw [setE_eq]; exact h.set r i
theorem c1_set {i : Nat} {x : Str} {pos' : Pos} (hN : X.N.Nodup) (hi : X.N[i]? = some x) (hx : Loc X.env.scope x) (h : Cm X e te) (hs : swapsWith e (some (.Name x pos')) pos.line X.env = pure false)
    (hf : X.fn x = true ∨ X.env.scope.names.lookup x = some .local) : CmS X (.Assign [.Name x pos'] e pos) (sSet i te) := by
  intro N R env os q F V0 H σ D W r sr ek
  refine wS1_of (ps_set hN hi hx wE_pe hs hf) ?_
  exact h _ _ _ _ q F V0 H σ _ W r sr (ek.xk sr) fun V1 os1 H1 v w s1 r1 rv q => ek.nx V1 os1 H1 _ _ s1 r1 (sr_setE (sr.mono s1) rv i) q
/-- name op= e -/
def sAug (i : Nat) (o : TrO) (te : TrE) : TrS := fun N R env os => match getE env i with
  | some x => te (R.xk env) env os fun y os1 => o x y os1 fun z os2 => N (setE env i (some z)) os2
  | none => False

/-! ### targets -/
variable {tg : TrG}
def gName (i : Nat) : TrG := fun w env os kg => kg (setE env i (some w)) os
theorem cg_name {i : Nat} {x : Str} (hN : X.N.Nodup) (hi : X.N[i]? = some x) (hx : Loc X.env.scope x) (hf : X.fn x = true ∨ X.env.scope.names.lookup x = some .local) : CmG X (.Name x pos) (gName i) :=
  fun w env os kg q F V0 H σ v Q W r sr rv tk c => wG_of (pg_name hN hi hx hf) (c V0 os H _ _ (Same.refl _) r (sr_setE sr rv i) q)
def JGs (X : Cx) (tgs : List Expr) (ws : List D) (env : DEnv) (os : Os) (kg : DEnv → Os → Prop) : Prop :=
  ∀ (F V0 H : Hp) (σ : L2.St) (vs : List V) (Q : L2.St → Hp → Prop) (W : WX), Rel X.K F V0 os H → SR X.K V0 σ env → RpA X.K V0 vs ws → Takes X W →
    (∀ (V1 : Hp) (os1 : Os) (H1 : Hp) (σ1 : L2.St) (env1 : DEnv), Same V0 V1 → Rel X.K F V1 os1 H1 → SR X.K V1 σ1 env1 → kg env1 os1 → Q σ1 H1) → wGs X tgs vs σ H Q
abbrev TrGs := List D → DEnv → Os → (DEnv → Os → Prop) → Prop
def CmGs (X : Cx) (tgs : List Expr) (t : TrGs) (n : Nat) : Prop := tgs.length = n ∧ ∀ ws env os kg, ws.length = n → t ws env os kg → JGs X tgs ws env os kg
def gsN : TrGs := fun _ env os kg => kg env os
def gsC (g : TrG) (gs : TrGs) : TrGs := fun ws env os kg => match ws with
  | w :: ws => g w env os fun env1 os1 => gs ws env1 os1 kg
  | [] => False
theorem cgs_nil : CmGs X [] gsN 0 := ⟨rfl, fun ws env os kg hl q F V0 H σ vs Q W r sr rs tk c => by
  cases ws with
  | nil =>
    cases rs
    exact wGs_of pgs_nil ⟨rfl, c V0 os H σ env (Same.refl _) r sr q⟩
  | cons _ _ => cases hl⟩
theorem cgs_cons {tge : Expr} {tgs : List Expr} {gs : TrGs} {n : Nat} (h : CmG X tge tg) (h2 : CmGs X tgs gs n)
    (hs : (assignEach (tge :: tgs) X.env).map (·.2) = assign tge X.env :: (assignEach tgs X.env).map (·.2)) : CmGs X (tge :: tgs) (gsC tg gs) (n + 1) :=
  ⟨congrArg (· + 1) h2.1, fun ws env os kg hl q F V0 H σ vs Q W r sr rs tk c => by
    cases ws with
    | nil => cases hl
    | cons w ws =>
      cases rs with
      | cons rv rs =>
        refine wGs_of (pgs_cons wG_pg wGs_pgs hs) ⟨_, _, rfl, ?_⟩
        refine h _ _ _ _ q F V0 H σ _ _ W r sr rv tk fun V1 os1 H1 σ1 env1 s1 r1 sr1 q => ?_
        exact h2.2 _ _ _ _ (by simpa using hl) q F V1 H1 σ1 _ Q W r1 sr1 (RpA.mono s1 rs) tk fun V2 os2 H2 σ2 env2 s2 r2 sr2 q2 => c V2 os2 H2 σ2 env2 (s1.trans s2) r2 sr2 q2⟩
/-- (a, b, ..) = a tuple, a list of data -/
def gTup (n : Nat) (gs : TrGs) : TrG := fun w env os kg => match w with
  | .tup ds => ds.length = n ∧ gs ds env os kg
  | .lst ds => ds.length = n ∧ gs ds env os kg
  | _ => False
theorem cg_tup {es : List Expr} {m : Nat} {gs : TrGs} {n : Nat} (hc : X.calm = true) (h : CmGs X es gs n)
    (hn : (assignEach es X.env).length = n) (hst : (assignEach es X.env).findIdx? (·.1) = none) : CmG X (.Tuple es m pos) (gTup n gs) := by
  intro w env os kg q F V0 H σ v Q W r sr rv tk c
  unfold gTup at q
  split at q
  · obtain ⟨hl, q⟩ := q
    obtain ⟨p, xs, rfl, h1, h2⟩ := rp_tup rv
    refine wG_of (pg_tup (n := n) hc wGs_pgs hn hst) ⟨p, xs, rfl, same_sqT r.vi h1, by rw [h2.length]; exact hl, ?_⟩
    exact h.2 _ _ _ _ hl q F V0 H σ xs Q W r sr h2 tk c
  · obtain ⟨hl, q⟩ := q
    obtain ⟨p, xs, rfl, h1, h2⟩ := rp_lst rv
    refine wG_of (pg_lst (n := n) hc wGs_pgs hn hst) ⟨p, xs, rfl, r.vi.seq h1, by rw [h2.length]; exact hl, ?_⟩
    exact h.2 _ _ _ _ hl q F V0 H σ xs Q W r sr h2 tk c
  · exact q.elim
/-- target = e -/
def sAsg (g : TrG) (te : TrE) : TrS := fun N R env os => te (R.xk env) env os fun w os1 => g w env os1 N
theorem c1_asg {tge : Expr} (hg : CmG X tge tg) (h : Cm X e te) (hs : swapsWithSole [tge] e pos.line X.env = pure false) (hw : swappedStores [tge] e X.env = pure none)
    (h1 : (assignEach [tge] X.env).map (·.2) = [assign tge X.env]) : CmS X (.Assign [tge] e pos) (sAsg tg te) := by
  intro N R env os q F V0 H σ D W r sr ek
  refine wS1_of (ps_asg wE_pe wG_pg hs hw h1) ?_
  refine h _ _ _ _ q F V0 H σ _ W r sr (ek.xk sr) fun V1 os1 H1 v w s1 r1 rv q => ?_
  exact hg _ _ _ _ q F V1 H1 σ v _ W r1 (sr.mono s1) rv ek.tk fun V2 os2 H2 σ2 env2 s2 r2 sr2 q2 => ek.nx V2 os2 H2 σ2 env2 (s1.trans s2) r2 sr2 q2
def kx0 : Kx := fun _ _ => False
/-- o[i] = .., an owned list -/
def gSub (to ti : TrE) : TrG := fun w env os kg => to kx0 env os fun x os1 => ti kx0 env os1 fun y os2 => match x with
  | .ref p => (match y with
    | .int i => ∃ (n : Nat) (ws : List D) (j : Nat), os2[n]? = some (p, .lst ws) ∧ ixN ws.length i = some j ∧ kg env (os2.set n (p, .lst (ws.set j w)))
    | _ => False)
  | _ => False
theorem cg_sub {o ix : Expr} {ti : TrE} (h : Cm X o to) (h2 : Cm X ix ti)
    (ha : ∀ v, assign (.Subscript o ix pos) X.env v = (do
      let ov ← holding [v] (eval o X.env)
      let iv ← holding [v, ov] (eval ix X.env)
      standAt pos
      holding [v, ov, iv] (setItem ov iv v)
      release [v, ov, iv] [])) : CmG X (.Subscript o ix pos) (gSub to ti) := by
  intro w env os kg q F V0 H σ v Q W r sr rv tk c
  refine wG_of (pg_sub wE_pe wE_pe set_list ha) ?_
  refine h _ _ _ _ q F V0 H σ _ W r sr (XkOk.no tk) fun V1 os1 H1 ov x s1 r1 ro q => ?_
  refine h2 _ _ _ _ q F V1 H1 σ _ W r1 (sr.mono s1) (XkOk.no tk) fun V2 os2 H2 iv y s2 r2 ri q => ?_
  split at q
  · split at q
    · obtain ⟨n, ws, j, ho, hj, q⟩ := q
      have e := (Rp.mono s2 ro).toRef
      subst e
      cases ri
      obtain ⟨vs, h3, h4, _⟩ := own_ty r2 ho
      refine ⟨_, vs, _, j, rfl, rfl, h3, by rw [h4.length]; exact hj, ?_⟩
      have s := s1.trans s2
      exact c V2 _ _ σ env s (r2.mut ho (oo' := .lst (ws.set j w)) ⟨vs.set j v, rfl, RpA.set (rv.mono s) j h4⟩) (sr.mono s) q
    · exact q.elim
  · exact q.elim
end

/-! ### iteration -/
/-- an owned list that a loop reads stays as it is -/
abbrev Gd := Option (Addr × List D)
def gOk : Gd → Os → Prop
  | none, _ => True
  | some (p, all), os => ∃ n : Nat, os[n]? = some (p, OO.lst all)
def gK (gd : Gd) (os : Os) (k : Prop) : Prop := match gd with
  | none => k
  | some (p, all) => (∃ n : Nat, os[n]? = some (p, OO.lst all)) ∧ k
theorem gK_ok {gd : Gd} {os : Os} {k : Prop} (h : gK gd os k) : gOk gd os ∧ k := by
  cases gd with
  | none => exact ⟨trivial, h⟩
  | some z => exact h
theorem gK_mk {gd : Gd} {os : Os} {k : Prop} (h : gOk gd os) (q : k) : gK gd os k := by
  cases gd with
  | none => exact q
  | some z => exact ⟨h, q⟩
/-- the iterator gives ws, whatever is made meanwhile -/
structure GI (K : PySem.W.Frag) (V1 : Hp) (J : It) (ws : List D) (gd : Gd) : Prop where
  go : ∀ (i : Nat) (F V2 : Hp) (os : Os) (H : Hp), Same V1 V2 → Rel K F V2 os H → gOk gd os → i < ws.length → J.go i H
  stop : ∀ (i : Nat) (F V2 : Hp) (os : Os) (H : Hp), Same V1 V2 → Rel K F V2 os H → gOk gd os → ws.length ≤ i → J.stop i H
  yld : ∀ (i : Nat) (F V2 : Hp) (os : Os) (H : Hp) (x : V) (H' : Hp) (w : D), Same V1 V2 → Rel K F V2 os H → gOk gd os → J.yld i H x H' → ws[i]? = some w → ∃ V3, Same V2 V3 ∧ Rel K F V3 os H' ∧ Rp K V3 x w
@[irreducible] def wPI (X : Cx) (tg iter : Expr) : TI := fun σ H R => ∀ (pins : List (Addr × Obj)) (s : Shared), Inv X pins σ H s →
  wpAny (model X.prog X.w) X.A (eval iter X.env) (fun v s1 => wpAny (model X.prog X.w) X.A (pyIter v) (PIE X pins σ tg R) X.xe s1) X.xe s
theorem wPI_pi {X : Cx} {tg iter : Expr} : PI X tg iter (wPI X tg iter) := by unfold wPI; exact ⟨fun pins s _ _ _ I h => h pins s I⟩
theorem wPI_of {X : Cx} {tg iter : Expr} {t : TI} (h : PI X tg iter t) {σ : L2.St} {H : Hp} {R : It → Hp → Prop} (q : t σ H R) : wPI X tg iter σ H R := by unfold wPI; exact fun pins s I => h.run pins s σ H R I q
def JI (X : Cx) (kx : Kx) (tg iter : Expr) (env : DEnv) (os : Os) (ki : List D → Gd → Os → Prop) : Prop :=
  ∀ (F V0 H : Hp) (σ : L2.St) (R : It → Hp → Prop) (W : WX), Rel X.K F V0 os H → SR X.K V0 σ env → XkOk X F V0 σ kx W →
    (∀ (V1 : Hp) (os1 : Os) (H1 : Hp) (J : It) (ws : List D) (gd : Gd), Same V0 V1 → Rel X.K F V1 os1 H1 → GI X.K V1 J ws gd → ki ws gd os1 → R J H1) → wPI X tg iter σ H R
abbrev TrI := Kx → DEnv → Os → (List D → Gd → Os → Prop) → Prop
def CmI (X : Cx) (tg iter : Expr) (t : TrI) : Prop := ∀ kx env os ki, t kx env os ki → JI X kx tg iter env os ki
section
variable {K : PySem.W.Frag} {V1 : Hp} {a : Addr} {xs : List V} {ds : List D}
theorem gi_list (h : SqL K V1 a xs) (r : RpA K V1 xs ds) : GI K V1 (Itl K a) ds none := by
  have hl := r.length
  refine ⟨fun i F V2 os H s2 r2 _ hi => ?_, fun i F V2 os H s2 r2 _ hi => ⟨xs, (s2.trans r2.vi).seq h, by omega⟩, fun i F V2 os H x H' w s2 r2 _ y e => ?_⟩
  · exact ⟨xs, xs[i]'(by omega), (s2.trans r2.vi).seq h, by simp [hl, hi]⟩
  · obtain ⟨rfl, y⟩ := y
    have ex := y xs ((s2.trans r2.vi).seq h)
    obtain ⟨d, ed, rd⟩ := r.getV ex
    rw [ed] at e
    cases e
    exact ⟨V2, Same.refl _, r2, Rp.mono s2 rd⟩
theorem gi_own {p : Addr} : GI K V1 (Itl K p) ds (some (p, ds)) := by
  have key : ∀ (F V2 : Hp) (os : Os) (H : Hp), Rel K F V2 os H → gOk (some (p, ds)) os → ∃ vs, SqL K H p vs ∧ RpA K V2 vs ds := fun F V2 os H r2 ⟨n, ho⟩ => by
    obtain ⟨_, _, ho', h3, vs, rfl, h4⟩ := r2.own _ (List.mem_of_getElem? ho)
    exact ⟨vs, SqL.of h3, h4⟩
  refine ⟨fun i F V2 os H s2 r2 g hi => ?_, fun i F V2 os H s2 r2 g hi => ?_, fun i F V2 os H x H' w s2 r2 g y e => ?_⟩
  · obtain ⟨vs, h, ra⟩ := key F V2 os H r2 g
    have hl := ra.length
    exact ⟨vs, vs[i]'(by omega), h, by simp [hl, hi]⟩
  · obtain ⟨vs, h, ra⟩ := key F V2 os H r2 g
    have hl := ra.length
    exact ⟨vs, h, by omega⟩
  · obtain ⟨vs, h, ra⟩ := key F V2 os H r2 g
    obtain ⟨rfl, y⟩ := y
    have ex := y vs h
    obtain ⟨d, ed, rd⟩ := ra.getV ex
    rw [ed] at e
    cases e
    exact ⟨V2, Same.refl _, r2, rd⟩
theorem gi_tup (h : SqT K V1 a xs) (r : RpA K V1 xs ds) : GI K V1 (Itt K a) ds none := by
  have hl := r.length
  refine ⟨fun i F V2 os H s2 r2 _ hi => ?_, fun i F V2 os H s2 r2 _ hi => ⟨xs, same_sqT (s2.trans r2.vi) h, by omega⟩, fun i F V2 os H x H' w s2 r2 _ y e => ?_⟩
  · exact ⟨xs, xs[i]'(by omega), same_sqT (s2.trans r2.vi) h, by simp [hl, hi]⟩
  · obtain ⟨rfl, y⟩ := y
    have ex := y xs (same_sqT (s2.trans r2.vi) h)
    obtain ⟨d, ed, rd⟩ := r.getV ex
    rw [ed] at e
    cases e
    exact ⟨V2, Same.refl _, r2, Rp.mono s2 rd⟩
/-- lo, lo + c, .. -/
def rng : Int → Int → Nat → List D
  | _, _, 0 => []
  | lo, c, n + 1 => .int lo :: rng (lo + c) c n
theorem rng_len : ∀ (lo c : Int) (n : Nat), (rng lo c n).length = n
  | _, _, 0 => rfl
  | lo, c, n + 1 => congrArg (· + 1) (rng_len (lo + c) c n)
theorem rng_get : ∀ {n : Nat} {lo c : Int} {i : Nat}, i < n → (rng lo c n)[i]? = some (.int (lo + (i : Int) * c))
  | n + 1, lo, c, 0, _ => by simp [rng]
  | n + 1, lo, c, i + 1, h => by
    have := rng_get (n := n) (lo := lo + c) (c := c) (i := i) (by omega)
    rw [rng, List.getElem?_cons_succ, this]
    have : lo + c + (i : Int) * c = lo + ((i + 1 : Nat) : Int) * c := by
      rw [Int.natCast_add, Int.add_mul]; simp; omega
    rw [this]
theorem rng_at {n : Nat} {lo c : Int} {i : Nat} {w : D} (h : (rng lo c n)[i]? = some w) : w = .int (lo + (i : Int) * c) ∧ i < n := by
  have hi : i < n := by
    have := (List.getElem?_eq_some_iff.mp h).1
    rw [rng_len] at this; exact this
  rw [rng_get hi] at h
  exact ⟨(Option.some.inj h).symm, hi⟩
theorem gi_rng (lo : Int) (n : Nat) : GI K V1 (Itr lo n) (rng lo 1 n) none := by
  refine ⟨fun i F V2 os H s2 r2 _ hi => by rw [rng_len] at hi; exact hi, fun i F V2 os H s2 r2 _ hi => by rw [rng_len] at hi; exact hi, fun i F V2 os H x H' w s2 r2 _ y e => ?_⟩
  obtain ⟨rfl, rfl⟩ := y
  obtain ⟨rfl, _⟩ := rng_at e
  rw [Int.mul_one]
  exact ⟨V2, Same.refl _, r2, rwI⟩
theorem gi_rngC (lo c : Int) (n : Nat) : GI K V1 (Itc lo c n) (rng lo c n) none := by
  refine ⟨fun i F V2 os H s2 r2 _ hi => by rw [rng_len] at hi; exact hi, fun i F V2 os H s2 r2 _ hi => by rw [rng_len] at hi; exact hi, fun i F V2 os H x H' w s2 r2 _ y e => ?_⟩
  obtain ⟨rfl, rfl⟩ := y
  obtain ⟨rfl, _⟩ := rng_at e
  exact ⟨V2, Same.refl _, r2, rwI⟩
/-- (i, x), .. -/
def enumW : Int → List D → List D
  | _, [] => []
  | i, d :: ds => .tup [.int i, d] :: enumW (i + 1) ds
theorem enumW_get : ∀ {ds : List D} {lo : Int} {i : Nat} {w : D}, (enumW lo ds)[i]? = some w → ∃ d, ds[i]? = some d ∧ w = .tup [.int (lo + (i : Nat)), d]
  | [], _, _, _, h => by simp [enumW] at h
  | d :: ds, lo, 0, w, h => by
    rw [enumW] at h
    exact ⟨d, rfl, by rw [← Option.some.inj h]; simp⟩
  | d :: ds, lo, i + 1, w, h => by
    rw [enumW, List.getElem?_cons_succ] at h
    obtain ⟨d', h1, h2⟩ := enumW_get h
    refine ⟨d', h1, ?_⟩
    rw [h2]
    have : lo + 1 + (i : Int) = lo + ((i + 1 : Nat) : Int) := by omega
    rw [this]
theorem enumW_len : ∀ (lo : Int) (ds : List D), (enumW lo ds).length = ds.length
  | _, [] => rfl
  | lo, _ :: ds => congrArg (· + 1) (enumW_len (lo + 1) ds)
theorem gi_enum (h : SqL K V1 a xs) (r : RpA K V1 xs ds) : GI K V1 (Ite K a) (enumW 0 ds) none := by
  have hl := r.length
  refine ⟨fun i F V2 os H s2 r2 _ hi => ?_, fun i F V2 os H s2 r2 _ hi => ⟨xs, (s2.trans r2.vi).seq h, by rw [enumW_len] at hi; omega⟩, fun i F V2 os H x H' w s2 r2 _ y e => ?_⟩
  · rw [enumW_len] at hi
    exact ⟨xs, xs[i]'(by omega), (s2.trans r2.vi).seq h, by simp [hl, hi]⟩
  · obtain ⟨T, v, rfl, hT, rfl, y⟩ := y
    have ex := y xs ((s2.trans r2.vi).seq h)
    obtain ⟨d, ed, rd⟩ := r.getV ex
    obtain ⟨d', ed', rfl⟩ := enumW_get e
    rw [ed] at ed'; cases ed'
    obtain ⟨s3, r3, rp⟩ := rel_newT (vs := [.int (i : Nat), v]) (ds := [.int (i : Nat), d]) r2 hT (.cons (.int _) (.cons (Rp.mono s2 rd) .nil))
    rw [Int.zero_add]
    exact ⟨_, s3, r3, rp⟩
def zipW : List D → List D → List D
  | d :: ds, e :: es => .tup [d, e] :: zipW ds es
  | _, _ => []
theorem zipW_get : ∀ {ds es : List D} {i : Nat} {w : D}, (zipW ds es)[i]? = some w → ∃ d e, ds[i]? = some d ∧ es[i]? = some e ∧ w = .tup [d, e]
  | [], _, _, _, h => by simp [zipW] at h
  | _ :: _, [], _, _, h => by simp [zipW] at h
  | d :: ds, e :: es, 0, w, h => ⟨d, e, rfl, rfl, (Option.some.inj h).symm⟩
  | d :: ds, e :: es, i + 1, w, h => by
    rw [zipW, List.getElem?_cons_succ] at h
    have h2 := zipW_get (ds := ds) (es := es) (i := i) h
    exact h2
theorem zipW_len : ∀ ds es : List D, (zipW ds es).length = min ds.length es.length
  | [], _ => by simp [zipW]
  | _ :: _, [] => by simp [zipW]
  | _ :: ds, _ :: es => by rw [zipW, List.length_cons, zipW_len ds es, List.length_cons, List.length_cons]; omega
theorem gi_zip {b : Addr} {ys : List V} {es : List D} (h : SqL K V1 a xs) (r : RpA K V1 xs ds) (h' : SqL K V1 b ys) (r' : RpA K V1 ys es) : GI K V1 (Itz K a b) (zipW ds es) none := by
  have hl := r.length
  have hl' := r'.length
  have hz := zipW_len ds es
  refine ⟨fun i F V2 os H s2 r2 _ hi => ?_, fun i F V2 os H s2 r2 _ hi => ⟨xs, ys, (s2.trans r2.vi).seq h, (s2.trans r2.vi).seq h', by rw [hz] at hi; omega⟩, fun i F V2 os H x H' w s2 r2 _ y e => ?_⟩
  · rw [hz] at hi
    exact ⟨xs, ys, xs[i]'(by omega), ys[i]'(by omega), (s2.trans r2.vi).seq h, (s2.trans r2.vi).seq h', by simp, by simp⟩
  · obtain ⟨T, v, v', rfl, hT, rfl, y, y'⟩ := y
    obtain ⟨d, ed, rd⟩ := r.getV (y xs ((s2.trans r2.vi).seq h))
    obtain ⟨d2, ed2, rd2⟩ := r'.getV (y' ys ((s2.trans r2.vi).seq h'))
    obtain ⟨d', e', f1, f2, rfl⟩ := zipW_get e
    rw [ed] at f1; cases f1
    rw [ed2] at f2; cases f2
    obtain ⟨s3, r3, rp⟩ := rel_newT (vs := [v, v']) (ds := [d, d2]) r2 hT (.cons (Rp.mono s2 rd) (.cons (Rp.mono s2 rd2) .nil))
    exact ⟨_, s3, r3, rp⟩
end
section
variable {X : Cx} {tge e a b c3 : Expr} {p pos : Pos} {te ta tb tc : TrE}
/-- over a list, a tuple, an owned list -/
def iSeq (te : TrE) : TrI := fun kx env os ki => te kx env os fun w os1 => match w with
  | .lst ds => ki ds none os1
  | .tup ds => ki ds none os1
  | .ref p => ∃ (n : Nat) (ws : List D), os1[n]? = some (p, OO.lst ws) ∧ ki ws (some (p, ws)) os1
  | _ => False
theorem it_list {pins : List (Addr × Obj)} {σ : L2.St} {H : Hp} {s : Shared} {u : Addr} {xs : List V} {R : It → Hp → Prop} {E : Value → Shared → Prop} (I : Inv X pins σ H s) (hq : SqL X.K H u xs) (q : R (Itl X.K u) H) : wpAny (model X.prog X.w) X.A (pyIter (.ref u)) (PIE X pins σ tge R) E s := by
  obtain ⟨its, rv, pl, hz⟩ := I.list hq
  have fresh := I.fpOk (b := s.heap.objs.size) (Nat.le_refl _) (I.hok.fresh (Nat.le_refl _))
  refine wpAny_pyIter_list pl.isList ⟨s.heap.objs.size, [s.heap.objs.size], _, _, H, rfl, ?_, turn_list u _, ⟨_, Heap.get?_push_size _ rfl, rfl, rfl⟩, ?_, q⟩
  · exact I.kept (t' := s.toks) fun b o => Heap.get?_push_of_some _
  · intro b hb
    rw [List.mem_singleton] at hb
    exact hb ▸ fresh
theorem it_tup {pins : List (Addr × Obj)} {σ : L2.St} {H : Hp} {s : Shared} {u : Addr} {xs : List V} {R : It → Hp → Prop} {E : Value → Shared → Prop} (I : Inv X pins σ H s) (hq : SqT X.K H u xs) (q : R (Itt X.K u) H) : wpAny (model X.prog X.w) X.A (pyIter (.ref u)) (PIE X pins σ tge R) E s := by
  obtain ⟨its, rv, pl, hz⟩ := I.tuple hq
  have fresh := I.fpOk (b := s.heap.objs.size) (Nat.le_refl _) (I.hok.fresh (Nat.le_refl _))
  refine wpAny_pyIter_tuple (show s.heap.IsTuple u its.toArray from pl) ⟨s.heap.objs.size, [s.heap.objs.size], _, _, H, rfl, ?_, turn_tuple u _, ⟨_, Heap.get?_push_size _ rfl, rfl, rfl⟩, ?_, q⟩
  · exact I.kept (t' := s.toks) fun b o => Heap.get?_push_of_some _
  · intro b hb
    rw [List.mem_singleton] at hb
    exact hb ▸ fresh
theorem ci_seq (h : Cm X e te) : CmI X tge e (iSeq te) := by
  intro kx env os ki q F V0 H σ R W r sr ek c
  have hPI : PI X tge e (fun σ H R => wE X e σ H fun x H1 => ∃ (u : Addr) (xs : List V), x = .ref u ∧ ((SqL X.K H1 u xs ∧ R (Itl X.K u) H1) ∨ (SqT X.K H1 u xs ∧ R (Itt X.K u) H1))) := ⟨fun pins s σ H R I h => by
    refine thn (wE_pe.run pins s σ H _ I h) fun v s1 ⟨x, H1, I1, r1, u, xs, e1, q⟩ => ?_
    subst e1
    obtain rfl : v = Value.ref u := r1
    rcases q with ⟨hq, q⟩ | ⟨hq, q⟩
    · exact it_list I1 hq q
    · exact it_tup I1 hq q⟩
  refine wPI_of hPI ?_
  refine h _ _ _ _ q F V0 H σ _ W r sr ek fun V1 os1 H1 v w s1 r1 rv q => ?_
  split at q
  · obtain ⟨p, xs, rfl, h1, h2⟩ := rp_lst rv
    exact ⟨p, xs, rfl, .inl ⟨r1.vi.seq h1, c V1 os1 H1 _ _ _ s1 r1 (gi_list h1 h2) q⟩⟩
  · obtain ⟨p, xs, rfl, h1, h2⟩ := rp_tup rv
    exact ⟨p, xs, rfl, .inr ⟨same_sqT r1.vi h1, c V1 os1 H1 _ _ _ s1 r1 (gi_tup h1 h2) q⟩⟩
  · obtain ⟨n, ws, ho, q⟩ := q
    obtain rfl := rv.toRef
    obtain ⟨_, _, ho', h3, vs, rfl, h4⟩ := r1.own _ (List.mem_of_getElem? ho)
    exact ⟨_, vs, rfl, .inl ⟨SqL.of h3, c V1 os1 H1 _ _ _ s1 r1 gi_own q⟩⟩
  · exact q.elim
def iR1 (ta : TrE) : TrI := fun kx env os ki => ta kx env os fun w os1 => match w with
  | .int j => -(2 ^ 62) ≤ j ∧ j < 2 ^ 62 ∧ ki (rng 0 1 j.toNat) none os1
  | _ => False
theorem ci_range1 (hg : Gl X "range") (hm : X.mg "range" = none) (h : Cm X a ta) (hs : starEach [a] X.env = [(false, eval a X.env)]) : CmI X tge (.Call (.Name "range" p) [a] [] pos) (iR1 ta) := by
  intro kx env os ki q F V0 H σ R W r sr ek c
  refine wPI_of (pi_range1 hg hm (pa_cons wE_pe pa_nil hs) hs) ?_
  refine h _ _ _ _ q F V0 H σ _ W r sr ek fun V1 os1 H1 v w s1 r1 rv q => ?_
  split at q
  · cases rv
    exact ⟨_, rfl, q.1, q.2.1, c V1 os1 H1 _ _ _ s1 r1 (gi_rng 0 _) q.2.2⟩
  · exact q.elim
def iR2 (ta tb : TrE) : TrI := fun kx env os ki => ta kx env os fun w os1 => tb kx env os1 fun u os2 => match w with
  | .int i => (match u with
    | .int j => (-(2 ^ 62) ≤ i ∧ i < 2 ^ 62 ∧ -(2 ^ 62) ≤ j ∧ j < 2 ^ 62) ∧ ki (rng i 1 (j - i).toNat) none os2
    | _ => False)
  | _ => False
theorem ci_range2 (hg : Gl X "range") (hm : X.mg "range" = none) (h : Cm X a ta) (h2 : Cm X b tb) (hs : starEach [a, b] X.env = [(false, eval a X.env), (false, eval b X.env)]) (hs2 : starEach [b] X.env = [(false, eval b X.env)]) :
    CmI X tge (.Call (.Name "range" p) [a, b] [] pos) (iR2 ta tb) := by
  intro kx env os ki q F V0 H σ R W r sr ek c
  refine wPI_of (pi_range2 hg hm (pa_cons wE_pe (pa_cons wE_pe pa_nil hs2) (by rw [hs, hs2])) hs hs2) ?_
  refine h _ _ _ _ q F V0 H σ _ W r sr ek fun V1 os1 H1 v w s1 r1 rv q => ?_
  refine h2 _ _ _ _ q F V1 H1 σ _ W r1 (sr.mono s1) (ek.mono s1) fun V2 os2 H2 u y s2 r2 ru q => ?_
  split at q
  · split at q
    · cases rv; cases ru
      exact ⟨_, _, rfl, q.1, c V2 os2 H2 _ _ _ (s1.trans s2) r2 (gi_rng _ _) q.2⟩
    · exact q.elim
  · exact q.elim
/-- enumerate(a list) -/
def iEnum (te : TrE) : TrI := fun kx env os ki => te kx env os fun w os1 => match w with
  | .lst ds => ki (enumW 0 ds) none os1
  | _ => False
theorem ci_enum {elts : List Expr} {kk : Nat} {tpos : Pos} (hg : Gl X "enumerate") (hm : X.mg "enumerate" = none) (h : Cm X e te) (hs : starEach [e] X.env = [(false, eval e X.env)]) :
    CmI X (.Tuple elts kk tpos) (.Call (.Name "enumerate" p) [e] [] pos) (iEnum te) := by
  intro kx env os ki q F V0 H σ R W r sr ek c
  refine wPI_of (pi_enum hg hm (pa_cons wE_pe pa_nil hs) hs) ?_
  refine h _ _ _ _ q F V0 H σ _ W r sr ek fun V1 os1 H1 v w s1 r1 rv q => ?_
  split at q
  · obtain ⟨p, xs, rfl, h1, h2⟩ := rp_lst rv
    exact ⟨p, xs, rfl, r1.vi.seq h1, c V1 os1 H1 _ _ _ s1 r1 (gi_enum h1 h2) q⟩
  · exact q.elim
def iZip (ta tb : TrE) : TrI := fun kx env os ki => ta kx env os fun w os1 => tb kx env os1 fun u os2 => match w with
  | .lst ds => (match u with
    | .lst es => ki (zipW ds es) none os2
    | _ => False)
  | _ => False
theorem ci_zip {elts : List Expr} {kk : Nat} {tpos : Pos} (hg : Gl X "zip") (hm : X.mg "zip" = none) (h : Cm X a ta) (h2 : Cm X b tb)
    (hs : starEach [a, b] X.env = (false, eval a X.env) :: starEach [b] X.env) (hs2 : starEach [b] X.env = [(false, eval b X.env)]) (hpl : (backTo pos (starEach [b] X.env)).any (·.1) = false) :
    CmI X (.Tuple elts kk tpos) (.Call (.Name "zip" p) [a, b] [] pos) (iZip ta tb) := by
  intro kx env os ki q F V0 H σ R W r sr ek c
  refine wPI_of (pi_zip hg hm (pa_cons wE_pe (pa_cons wE_pe pa_nil hs2) hs) hs hpl) ?_
  refine h _ _ _ _ q F V0 H σ _ W r sr ek fun V1 os1 H1 v w s1 r1 rv q => ?_
  refine h2 _ _ _ _ q F V1 H1 σ _ W r1 (sr.mono s1) (ek.mono s1) fun V2 os2 H2 u y s2 r2 ru q => ?_
  split at q
  · split at q
    · obtain ⟨p, xs, rfl, h1, h2⟩ := rp_lst rv
      obtain ⟨p', ys, rfl, h3, h4⟩ := rp_lst ru
      exact ⟨p, p', xs, ys, rfl, (s2.trans r2.vi).seq h1, r2.vi.seq h3, c V2 os2 H2 _ _ _ (s1.trans s2) r2 (gi_zip (s2.seq h1) (RpA.mono s2 h2) h3 h4) q⟩
    · exact q.elim
  · exact q.elim
end

/-! ### less is told, in another order -/
def WkO (os os2 : Os) : Prop := ∃ or : Os, os.Perm (os2 ++ or)
theorem WkO.refl (os : Os) : WkO os os := ⟨[], by rw [List.append_nil]⟩
theorem WkO.perm {os os2 : Os} (h : os.Perm os2) : WkO os os2 := ⟨[], by rw [List.append_nil]; exact h⟩
theorem WkO.trans {a b c : Os} (h : WkO a b) (h2 : WkO b c) : WkO a c := by
  obtain ⟨r, h⟩ := h
  obtain ⟨r2, h2⟩ := h2
  exact ⟨r2 ++ r, h.trans (by rw [← List.append_assoc]; exact h2.append_right r)⟩
theorem WkO.drop1 {x : Addr × OO} {os : Os} : WkO (x :: os) os := ⟨[x], List.perm_append_comm (l₁ := [x]) (l₂ := os)⟩
theorem WkO.left {a b : Os} : WkO (a ++ b) a := ⟨b, .refl _⟩
theorem WkO.right {a b : Os} : WkO (a ++ b) b := ⟨a, List.perm_append_comm⟩
theorem WkO.cons {x : Addr × OO} {a b : Os} (h : WkO a b) : WkO (x :: a) (x :: b) := let ⟨r, h⟩ := h; ⟨r, h.cons x⟩
theorem WkO.append {a b c d : Os} (h : WkO a b) (h2 : WkO c d) : WkO (a ++ c) (b ++ d) := by
  obtain ⟨r, h⟩ := h
  obtain ⟨r2, h2⟩ := h2
  refine ⟨r ++ r2, (h.append h2).trans ?_⟩
  rw [List.append_assoc, List.append_assoc]
  refine List.Perm.append_left b ?_
  rw [← List.append_assoc, ← List.append_assoc]
  exact List.perm_append_comm.append_right r2
theorem WkO.sub {a b : Os} (h : b.Sublist a) : WkO a b := by
  induction h with
  | slnil => exact .refl _
  | cons x _ ih => exact WkO.trans .drop1 ih
  | cons_cons x _ ih => exact .cons ih
theorem Rel.wk {K : PySem.W.Frag} {F V0 H : Hp} {os os2 : Os} (r : Rel K F V0 os H) (h : WkO os os2) : Rel K F V0 os2 H := let ⟨_, h⟩ := h; (r.perm h).drop (List.sublist_append_left _ _)
def wkX (os : Os) (k : Os → Prop) : Prop := ∃ os2, WkO os os2 ∧ k os2
theorem wkX_id {os : Os} {k : Os → Prop} (h : k os) : wkX os k := ⟨os, .refl os, h⟩

/-! ### for -/
/-- what a loop's body ends in -/
abbrev KR.loop (R : KR) (again behind : DEnv → Os → Prop) : KR := { rt := R.rt, bk := behind, ct := again, ex := R.ex }
def forW (g : TrG) (body : TrS) (N : DEnv → Os → Prop) (R : KR) (gd : Gd) : List D → DEnv → Os → Prop
  | [], env, os => wkX os fun os => gK gd os (N env os)
  | w :: ws, env, os => wkX os fun os => gK gd os (g w env os fun env1 os1 => body (forW g body N R gd ws) (R.loop (forW g body N R gd ws) N) env1 os1)
/-- the same, not to be unfolded by a walk -/
@[irreducible] def forX (g : TrG) (body : TrS) (N : DEnv → Os → Prop) (R : KR) (gd : Gd) (ws : List D) (env : DEnv) (os : Os) : Prop := forW g body N R gd ws env os
theorem forX_eq {g : TrG} {body : TrS} {N : DEnv → Os → Prop} {R : KR} {gd : Gd} {ws : List D} {env : DEnv} {os : Os} : forX g body N R gd ws env os = forW g body N R gd ws env os := by unfold forX; rfl
def sFor (g : TrG) (ti : TrI) (body : TrS) : TrS := fun N R env os => ti (R.xk env) env os fun ws gd os1 => forX g body N R gd ws env os1
theorem c1_for {X : Cx} {tge iter : Expr} {body : List Stmt} {pos : Pos} {g : TrG} {ti : TrI} {tb : TrS} (hg : CmG X tge g) (h : CmI X tge iter ti) (hb : CmSs X body tb) (hc : X.calm = true) (hp : PassesOwn (model X.prog X.w) X.A X.env X.xe)
    (hs : ∀ x, foldedSetIterable iter X.env x = pure x) : CmS X (.For tge iter body [] pos) (sFor g ti tb) := by
  intro N R env os q F V0 H σ D W r sr ek
  refine wS1_of (ps_for hp hc wPI_pi wG_pg wSs_pss hs) ?_
  refine h _ _ _ _ q F V0 H σ _ W r sr (ek.xk sr) fun V1 os1 H1 J ws gd s1 r1 gi q => ?_
  rw [forX_eq] at q
  refine ⟨fun i m σ2 H2 => m = ws.length - i ∧ i ≤ ws.length ∧ ∃ (V2 : Hp) (os2 : Os) (env2 : DEnv), Same V1 V2 ∧ Rel X.K F V2 os2 H2 ∧ SR X.K V2 σ2 env2 ∧ forW g tb N R gd (ws.drop i) env2 os2,
    ⟨ws.length, rfl, Nat.zero_le _, V1, os1, env, Same.refl _, r1, sr.mono s1, q⟩, ?_⟩
  rintro i m σ2 H2 ⟨rfl, hi, V2, os0, env2, s2, r0, sr2, q2⟩
  by_cases hlt : i < ws.length
  · rw [List.drop_eq_getElem_cons hlt] at q2
    obtain ⟨os2, hwk, q2⟩ := q2
    have r2 := r0.wk hwk
    obtain ⟨hG, q2⟩ := gK_ok q2
    refine .inr ⟨gi.go i F V2 os2 H2 s2 r2 hG hlt, fun σ3 H3 => ∃ (V3 : Hp) (os3 : Os) (env3 : DEnv), Same V1 V3 ∧ Rel X.K F V3 os3 H3 ∧ SR X.K V3 σ3 env3 ∧ forW g tb N R gd (ws.drop (i + 1)) env3 os3,
      fun σ3 H3 q3 => ⟨ws.length - (i + 1), by omega, rfl, hlt, q3⟩, fun x H' y => ?_⟩
    obtain ⟨V3, s3, r3, rw3⟩ := gi.yld i F V2 os2 H2 x H' ws[i] s2 r2 hG y (List.getElem?_eq_getElem hlt)
    refine hg _ _ _ _ q2 F V3 H' σ2 x _ W r3 (sr2.mono s3) rw3 ek.tk fun V4 os4 H4 σ4 env4 s4 r4 sr4 q4 => ?_
    have s14 := (s2.trans s3).trans s4
    refine hb _ _ _ _ q4 F V4 H4 σ4 _ W r4 sr4 ⟨fun V5 os5 H5 σ5 env5 s5 r5 sr5 q5 => ⟨V5, os5, env5, s14.trans s5, r5, sr5, q5⟩, fun V5 os5 H5 v w s5 r5 rv q5 => ?_, fun V5 os5 H5 σ5 env5 s5 r5 sr5 q5 => ?_, fun V5 os5 H5 σ5 env5 s5 r5 sr5 q5 => ⟨V5, os5, env5, s14.trans s5, r5, sr5, q5⟩, ek.tk,
      fun V5 os5 H5 σ5 env5 cls d x s5 r5 sr5 ex q5 => ek.ex V5 os5 H5 σ5 env5 cls d x ((s1.trans s14).trans s5) r5 sr5 ex q5⟩
    · exact ek.rt V5 os5 H5 v w ((s1.trans s14).trans s5) r5 rv q5
    · exact ek.nx V5 os5 H5 σ5 env5 ((s1.trans s14).trans s5) r5 sr5 q5
  · have e : i = ws.length := by omega
    subst e
    rw [List.drop_length] at q2
    obtain ⟨os2, hwk, q2⟩ := q2
    have r2 := r0.wk hwk
    obtain ⟨hG, q2⟩ := gK_ok q2
    exact .inl ⟨gi.stop _ F V2 os2 H2 s2 r2 hG (Nat.le_refl _), ek.nx V2 os2 H2 σ2 env2 (s1.trans s2) r2 sr2 q2⟩
/-- by an invariant over the turn: whatever goes on behind the turn -/
theorem forX_inv {g : TrG} {body : TrS} {N : DEnv → Os → Prop} {R : KR} {gd : Gd} {ws : List D} {env : DEnv} {os : Os} (I : Nat → DEnv → Os → Prop) (h0 : I 0 env os)
    (hs : ∀ (i : Nat) (w : D) (env : DEnv) (os : Os) (M : DEnv → Os → Prop), ws[i]? = some w → I i env os → (∀ e o o2, WkO o o2 → I (i + 1) e o2 → M e o) → g w env os fun env1 os1 => body M (R.loop M N) env1 os1)
    (hd : ∀ env os, I ws.length env os → N env os) (hG : ∀ i env os, I i env os → gOk gd os) : forX g body N R gd ws env os := by
  rw [forX_eq]
  have gen : ∀ (m i : Nat) (env : DEnv) (os os2 : Os), m = ws.length - i → i ≤ ws.length → WkO os os2 → I i env os2 → forW g body N R gd (ws.drop i) env os := by
    intro m
    induction m with
    | zero =>
      intro i env os os2 hm hi hw h
      have e : i = ws.length := by omega
      subst e
      rw [List.drop_length]
      exact ⟨os2, hw, gK_mk (hG _ env os2 h) (hd env os2 h)⟩
    | succ m ih =>
      intro i env os os2 hm hi hw h
      have hlt : i < ws.length := by omega
      rw [List.drop_eq_getElem_cons hlt]
      exact ⟨os2, hw, gK_mk (hG i env os2 h) (hs i ws[i] env os2 _ (List.getElem?_eq_getElem hlt) h fun e o o2 hw2 z => ih (i + 1) e o o2 (by omega) hlt hw2 z)⟩
  exact gen _ 0 env os os rfl (Nat.zero_le _) (.refl _) h0

theorem forX_nil {g : TrG} {body : TrS} {N : DEnv → Os → Prop} {R : KR} {env : DEnv} {os : Os} (h : N env os) : forX g body N R none [] env os := by rw [forX_eq]; exact wkX_id h
theorem forX_cons {g : TrG} {body : TrS} {N : DEnv → Os → Prop} {R : KR} {w : D} {ws : List D} {env : DEnv} {os : Os} (h : g w env os fun env1 os1 => body (forX g body N R none ws) (R.loop (forX g body N R none ws) N) env1 os1) : forX g body N R none (w :: ws) env os := by
  have e : forX g body N R none ws = forW g body N R none ws := by funext a b; exact forX_eq
  rw [forX_eq]
  rw [e] at h
  exact wkX_id h

/-! ### while -/
def whileW (c : TrT) (body : TrS) (N : DEnv → Os → Prop) (R : KR) : Nat → DEnv → Os → Prop
  | 0, _, _ => False
  | n + 1, env, os => wkX os fun os => c (R.xk env) env os fun b os1 => (b = true → body (whileW c body N R n) (R.loop (whileW c body N R n) N) env os1) ∧ (b = false → N env os1)
@[irreducible] def whileX (c : TrT) (body : TrS) (N : DEnv → Os → Prop) (R : KR) (env : DEnv) (os : Os) : Prop := ∃ n, whileW c body N R n env os
def sWhile (c : TrT) (body : TrS) : TrS := fun N R env os => whileX c body N R env os
theorem c1_while {X : Cx} {c : Expr} {body : List Stmt} {pos : Pos} {tc : TrT} {tb : TrS} (hc : CmT X c tc) (hb : CmSs X body tb) (hp : PassesOwn (model X.prog X.w) X.A X.env X.xe) : CmS X (.While c body [] pos) (sWhile tc tb) := by
  intro N R env os q F V0 H σ D W r sr ek
  unfold sWhile whileX at q
  obtain ⟨n0, q⟩ := q
  refine wS1_of (ps_while hp wTt_pt wSs_pss) ?_
  refine ⟨fun m σ1 H1 => ∃ (V1 : Hp) (os1 : Os) (env1 : DEnv), Same V0 V1 ∧ Rel X.K F V1 os1 H1 ∧ SR X.K V1 σ1 env1 ∧ whileW tc tb N R m env1 os1, ⟨n0, V0, os, env, Same.refl _, r, sr, q⟩, ?_⟩
  rintro m σ1 H1 ⟨V1, os0, env1, s1, r0, sr1, q⟩
  cases m with
  | zero => exact q.elim
  | succ m =>
    obtain ⟨os1, hwk, q⟩ := q
    have r1 := r0.wk hwk
    refine hc _ _ _ _ q F V1 H1 σ1 _ W r1 sr1 ((ek.mono s1).xk sr1) fun V2 os2 H2 b s2 r2 q2 => ?_
    cases b with
    | false => exact iteF (ek.nx V2 os2 H2 σ1 env1 (s1.trans s2) r2 (sr1.mono s2) (q2.2 rfl))
    | true =>
      refine iteT ⟨fun σ3 H3 => ∃ m', m' < m + 1 ∧ ∃ (V3 : Hp) (os3 : Os) (env3 : DEnv), Same V0 V3 ∧ Rel X.K F V3 os3 H3 ∧ SR X.K V3 σ3 env3 ∧ whileW tc tb N R m' env3 os3, fun σ3 H3 z => z, ?_⟩
      have s12 := s1.trans s2
      refine hb _ _ _ _ (q2.1 rfl) F V2 H2 σ1 _ W r2 (sr1.mono s2) ⟨fun V3 os3 H3 σ3 env3 s3 r3 sr3 q3 => ⟨m, Nat.lt_succ_self _, V3, os3, env3, s12.trans s3, r3, sr3, q3⟩, fun V3 os3 H3 v w s3 r3 rv q3 => ek.rt V3 os3 H3 v w (s12.trans s3) r3 rv q3,
        fun V3 os3 H3 σ3 env3 s3 r3 sr3 q3 => ek.nx V3 os3 H3 σ3 env3 (s12.trans s3) r3 sr3 q3, fun V3 os3 H3 σ3 env3 s3 r3 sr3 q3 => ⟨m, Nat.lt_succ_self _, V3, os3, env3, s12.trans s3, r3, sr3, q3⟩, ek.tk,
        fun V3 os3 H3 σ3 env3 cls d x s3 r3 sr3 ex q3 => ek.ex V3 os3 H3 σ3 env3 cls d x (s12.trans s3) r3 sr3 ex q3⟩
/-- by an invariant with a measure -/
theorem whileX_inv {c : TrT} {body : TrS} {N : DEnv → Os → Prop} {R : KR} {env : DEnv} {os : Os} (I : Nat → DEnv → Os → Prop) (m : Nat) (h0 : I m env os)
    (hs : ∀ (m : Nat) (env : DEnv) (os : Os) (M : DEnv → Os → Prop), I m env os → (∀ m' e o o2, m' < m → WkO o o2 → I m' e o2 → M e o) →
      c (R.xk env) env os fun b os1 => (b = true → body M (R.loop M N) env os1) ∧ (b = false → N env os1)) : whileX c body N R env os := by
  unfold whileX
  have gen : ∀ (f m : Nat) (env : DEnv) (os os2 : Os), m < f → WkO os os2 → I m env os2 → whileW c body N R f env os := by
    intro f
    induction f with
    | zero => intro m env os os2 h; omega
    | succ f ih => intro m env os os2 h hw hI; exact ⟨os2, hw, hs m env os2 _ hI fun m' e o o2 hm hw2 hI' => ih m' e o o2 (by omega) hw2 hI'⟩
  exact ⟨m + 1, gen _ m env os os (Nat.lt_succ_self _) (.refl _) h0⟩
end EV

set_option Elab.async false
set_option linter.all false
set_option maxRecDepth 100000
/-! E5: name op= e, list comprehensions. -/
namespace EV
open PySem PySem.Spec PyProof.Rows L2
section
variable {X : Cx} {pos : Pos} {e : Expr} {te : TrE}
theorem c1_augAdd {i : Nat} {x : Str} {pos' : Pos} (hN : X.N.Nodup) (hi : X.N[i]? = some x) (hx : Loc X.env.scope x) (h : Cm X e te) (hf : X.fn x = true ∨ X.env.scope.names.lookup x = some .local) : CmS X (.AugAssign (.Name x pos') .Add e pos) (sAug i (oI0 fun i j => i + j) te) := by
  intro N R env os q F V0 H σ D W r sr ek
  refine wS1_of (ps_aug hN hi hx wE_pe ip_add hf) ?_
  unfold sAug at q
  split at q
  · rename_i w he
    obtain ⟨v, e1, r1⟩ := sr.2 i w (getE_eq _ _ _ he)
    refine ⟨v, e1, ?_⟩
    refine h _ _ _ _ q F V0 H σ _ W r sr (ek.xk sr) fun V1 os1 H1 u y s1 r2 ru q => ?_
    unfold oI0 at q
    split at q
    · cases r1; cases ru
      exact ⟨_, _, rfl, rfl, ek.nx V1 os1 H1 _ _ s1 r2 (sr_setE (sr.mono s1) rwI i) q⟩
    · exact q.elim
  · exact q.elim
theorem c1_augSub {i : Nat} {x : Str} {pos' : Pos} (hN : X.N.Nodup) (hi : X.N[i]? = some x) (hx : Loc X.env.scope x) (h : Cm X e te) (hf : X.fn x = true ∨ X.env.scope.names.lookup x = some .local) : CmS X (.AugAssign (.Name x pos') .Sub e pos) (sAug i (oI0 fun i j => i - j) te) := by
  intro N R env os q F V0 H σ D W r sr ek
  refine wS1_of (ps_aug hN hi hx wE_pe ip_sub hf) ?_
  unfold sAug at q
  split at q
  · rename_i w he
    obtain ⟨v, e1, r1⟩ := sr.2 i w (getE_eq _ _ _ he)
    refine ⟨v, e1, ?_⟩
    refine h _ _ _ _ q F V0 H σ _ W r sr (ek.xk sr) fun V1 os1 H1 u y s1 r2 ru q => ?_
    unfold oI0 at q
    split at q
    · cases r1; cases ru
      exact ⟨_, _, rfl, rfl, ek.nx V1 os1 H1 _ _ s1 r2 (sr_setE (sr.mono s1) rwI i) q⟩
    · exact q.elim
  · exact q.elim
end

/-! ### list comprehensions -/
@[irreducible] def wTs (X : Cx) (ifs : List Expr) : TT := fun σ H Q => ∀ (pins : List (Addr × Obj)) (s : Shared), Inv X pins σ H s →
    wpAny (model X.prog X.w) X.A (forIn ifs true fun c r => if r = true then do let ok ← isTrue c X.env (eval c X.env); pure (ForInStep.yield ok) else pure (ForInStep.yield r)) (TP X pins σ Q) X.xe s
def CmTs (X : Cx) (ifs : List Expr) (t : TrT) : Prop := ∀ env os k, t kx0 env os k → ∀ (F V0 H : Hp) (σ : L2.St) (Q : Bool → Hp → Prop), Rel X.K F V0 os H → SR X.K V0 σ env →
    (∀ (V1 : Hp) (os1 : Os) (H1 : Hp) (b : Bool), Same V0 V1 → Rel X.K F V1 os1 H1 → k b os1 → Q b H1) → wTs X ifs σ H Q
/-- no test -/
def tYes : TrT := fun _ _ os k => k true os
theorem wTs_pts {X : Cx} {ifs : List Expr} : PTs X ifs (wTs X ifs) := by unfold wTs; exact ⟨fun pins s _ _ _ I h => h pins s I⟩
theorem wTs_of {X : Cx} {ifs : List Expr} {t : TT} (h : PTs X ifs t) {σ : L2.St} {H : Hp} {Q : Bool → Hp → Prop} (q : t σ H Q) : wTs X ifs σ H Q := by unfold wTs; exact fun pins s I => h.run pins s σ H Q I q
theorem cts_nil {X : Cx} : CmTs X [] tYes := fun env os k q F V0 H σ Q r sr c => wTs_of pts_nil (c V0 os H true (Same.refl _) r q)
theorem cts_one {X : Cx} {e : Expr} {t : TrT} (h : CmT X e t) : CmTs X [e] t := fun env os k q F V0 H σ Q r sr c => wTs_of (pts_one wTt_pt) (h _ _ _ _ q F V0 H σ Q _ r sr XkOk.none c)
def wipeE (env : DEnv) : List Nat → DEnv
  | [] => env
  | v :: vs => setE (wipeE env vs) v none
theorem set_none {K : PySem.W.Frag} {V0 : Hp} {σ : L2.St} {env : DEnv} (h : SR K V0 σ env) (i : Nat) : SR K V0 (σ.set i none) (setE env i none) := by
  rw [setE_eq]
  refine ⟨by rw [List.length_set, List.length_set]; exact h.1, fun j u q => ?_⟩
  by_cases e : i = j
  · subst e
    have hi : i < env.length := by
      have := (List.getElem?_eq_some_iff.mp q).1
      rw [List.length_set] at this; exact this
    rw [List.getElem?_set_self hi] at q
    cases q
  · rw [List.getElem?_set_ne e] at q ⊢
    exact h.2 j u q
theorem sr_wipe {K : PySem.W.Frag} {V0 : Hp} {σ : L2.St} {env : DEnv} (h : SR K V0 σ env) : ∀ vs : List Nat, SR K V0 (L2.wipe σ vs) (wipeE env vs)
  | [] => h
  | v :: vs => set_none (sr_wipe h vs) v
theorem wipe_set {σ : L2.St} {i : Nat} {x : Option V} : ∀ {vs : List Nat}, i ∈ vs → L2.wipe (σ.set i x) vs = L2.wipe σ vs
  | [], h => by cases h
  | v :: vs, h => by
    unfold L2.wipe
    by_cases hv : i ∈ vs
    · rw [wipe_set hv]
    · have e : i = v := by
        rcases List.mem_cons.mp h with e | e
        · exact e
        · exact absurd e hv
      subst e
      have gen : ∀ us : List Nat, i ∉ us → L2.wipe (σ.set i x) us = (L2.wipe σ us).set i x := by
        intro us
        induction us with
        | nil => intro _; rfl
        | cons u us ih =>
          intro hu
          unfold L2.wipe
          rw [ih fun z => hu (List.mem_cons_of_mem _ z), List.set_comm]
          intro e; exact hu (by rw [e]; exact List.mem_cons_self)
      rw [gen vs hv, List.set_set]
theorem wipe_idem {σ : L2.St} {i : Nat} {x : Option V} {vs : List Nat} (h : i ∈ vs) : L2.wipe ((L2.wipe σ vs).set i x) vs = L2.wipe (L2.wipe σ vs) vs := wipe_set h
theorem wipe_wipe {σ : L2.St} (vs : List Nat) : L2.wipe (L2.wipe σ vs) vs = L2.wipe σ vs := by
  refine List.ext_getElem? fun j => ?_
  by_cases hj : j ∈ vs
  · have gen : ∀ (τ : L2.St) (us : List Nat), j ∈ us → (L2.wipe τ us)[j]? = τ[j]?.map fun _ => none := by
      intro τ us
      induction us with
      | nil => intro h; cases h
      | cons u us ih =>
        intro h
        unfold L2.wipe
        by_cases e : u = j
        · subst e
          rw [List.getElem?_set_self', ]
          by_cases hu : u ∈ us
          · rw [ih hu]; cases τ[u]? <;> rfl
          · rw [L2.wipe_out hu]; cases τ[u]? <;> rfl
        · rw [List.getElem?_set_ne e]
          refine ih ?_
          rcases List.mem_cons.mp h with z | z
          · exact absurd z.symm e
          · exact z
    rw [gen _ vs hj, gen _ vs hj]
    cases σ[j]? <;> rfl
  · rw [L2.wipe_out hj, L2.wipe_out hj]


/-- the block's context -/
abbrev Bk (X : Cx) (scope : Scope) (s : Shared) (H : Hp) (C : Addr) (cl : List (Str × Addr)) (fp : List Addr) : Cx := X.blk s H scope (compEnvC scope cl C X.env) fp
/-- how an item is bound -/
abbrev TrB := D → DEnv → (DEnv → Prop) → Prop
def BindOk (K : PySem.W.Frag) (vs : List Nat) (g : TG) (b : TrB) : Prop := ∀ (F V3 H' : Hp) (os : Os) (σ : L2.St) (env : DEnv) (x : V) (w : D) (kk : DEnv → Prop) (Q : L2.St → Hp → Prop),
  Rel K F V3 os H' → Rp K V3 x w → SR K V3 (L2.wipe σ vs) env → b w env kk → (∀ σ2 env2, SR K V3 σ2 env2 → L2.wipe σ2 vs = L2.wipe σ vs → kk env2 → Q σ2 H') → g x (L2.wipe σ vs) H' Q
def b1 (i : Nat) : TrB := fun w env k => k (setE env i (some w))
def b2 (i j : Nat) : TrB := fun w env k => match w with
  | .tup [d1, d2] => k (setE (setE env i (some d1)) j (some d2))
  | _ => False
theorem bind1 {K : PySem.W.Frag} {vs : List Nat} {i : Nat} (hm : i ∈ vs) : BindOk K vs (L2.gName i) (b1 i) :=
  fun F V3 H' os σ env x w kk Q r rx sr q c => c _ _ (sr_setE sr rx i) (by rw [wipe_set hm, wipe_wipe]) q
theorem bind2 {K : PySem.W.Frag} {vs : List Nat} {i j : Nat} (hm : i ∈ vs) (hm2 : j ∈ vs) : BindOk K vs (L2.gTup K 2 (L2.gCons (L2.gName i) (L2.gCons (L2.gName j) L2.gNil))) (b2 i j) := by
  intro F V3 H' os σ env x w kk Q r rx sr q c
  unfold b2 at q
  split at q
  · obtain ⟨p, xs, rfl, h1, h2⟩ := rp_tup rx
    obtain ⟨v1, v2, rfl, w1, w2⟩ := h2.two
    exact ⟨p, [v1, v2], rfl, same_sqT r.vi h1, rfl, v1, [v2], rfl, v2, [], rfl, rfl, c _ _ (sr_setE (sr_setE sr w1 i) w2 j) (by rw [wipe_set hm2, wipe_set hm, wipe_wipe]) q⟩
  · exact q.elim
/-- the turns over ws, acc made so far -/
def lcW (b : TrB) (t : TrT) (te : TrE) (env : DEnv) (k : List D → Os → Prop) (gd : Gd) : List D → List D → Os → Prop
  | [], acc, os => wkX os fun os => gK gd os (k acc os)
  | w :: ws, acc, os => wkX os fun os => gK gd os (b w env fun env1 => t kx0 env1 os fun bo os1 => (bo = true → te kx0 env1 os1 fun y os2 => lcW b t te env k gd ws (acc ++ [y]) os2) ∧ (bo = false → lcW b t te env k gd ws acc os1))
def lcK (own : Bool) (k : D → Os → Prop) : List D → Os → Prop := fun ds os => if own then ∀ p, k (.ref p) ((p, .lst ds) :: os) else k (.lst ds) os
theorem tlc_of {X : Cx} {kx : Kx} {env : DEnv} {os : Os} {k : D → Os → Prop} {own0 : Bool} {elt iter tg : Expr} {ifs : List Expr} {scope : Scope} {vs : List Nat} {g : TG} {bn : TrB} {tt : TrT} {te : TrE} {ti : TrI}
    (hb : BindOk X.K vs g bn) (hi : CmI X tg iter ti) (ht : ∀ s H C cl fp, CmTs (Bk X scope s H C cl fp) ifs tt) (he : ∀ s H C cl fp, Cm (Bk X scope s H C cl fp) elt te)
    (h : ti kx env os fun ws gd os1 => ws.length ≤ sizeLine ∧ lcW bn tt te (wipeE env vs) (lcK own0 k) gd ws [] os1) {F V0 H : Hp} {σ : L2.St} {Q : VK} {W : WX} (r : Rel X.K F V0 os H) (sr : SR X.K V0 σ env) (ek : XkOk X F V0 σ kx W)
    (c : ∀ (V1 : Hp) (os1 : Os) (H1 : Hp) (v : V) (w : D), Same V0 V1 → Rel X.K F V1 os1 H1 → Rp X.K V1 v w → k w os1 → Q v H1) :
    tLc (wPI X tg iter) g (fun σ H Q => ∀ s0 H0 C cl fp, wTs (Bk X scope s0 H0 C cl fp) ifs σ H Q) (fun σ H Q => ∀ s0 H0 C cl fp, wE (Bk X scope s0 H0 C cl fp) elt σ H Q) vs σ H Q := by
  refine hi _ _ _ _ h F V0 H σ _ W r sr ek fun V1 os1 H1 J ws gd s1 r1 gi ⟨hz, q⟩ => ?_
  intro L hL
  have hFL := r1.fr.free hL
  have hVL := r1.vi.free hL
  -- the list in the frame
  have put : ∀ (acc : List V) (V2 : Hp) (os2 : Os) (H2 : Hp), Rel X.K F V2 os2 H2 → H2 L = none → Rel X.K (upd F L (.lst acc)) V2 os2 (upd H2 L (.lst acc)) := by
    intro acc V2 os2 H2 r2 hn
    have f2 := r2.fr.free hn
    have v2 := r2.vi.free hn
    refine ⟨fun a o e => ?_, fun a o e => ?_, fun a o e => ?_, fun p hp => ?_, r2.nd⟩
    · by_cases ha : a = L
      · subst ha; rw [upd_same] at e ⊢; exact e
      · rw [upd_ne ha] at e ⊢; exact r2.fr a o e
    · rw [upd_ne (ne_of_none e v2)]
      exact r2.vi a o e
    · by_cases ha : a = L
      · subst ha; exact v2
      · rw [upd_ne ha] at e; exact r2.fv a o e
    · obtain ⟨h1, h2, ho, h3, h4⟩ := r2.own p hp
      have ne := ne_of_none h3 hn
      exact ⟨by rw [upd_ne ne]; exact h1, h2, ho, by rw [upd_ne ne]; exact h3, h4⟩
  have grow : ∀ (acc acc' : List V) (V2 : Hp) (os2 : Os) (H2 : Hp), Rel X.K (upd F L (.lst acc)) V2 os2 H2 → Rel X.K (upd F L (.lst acc')) V2 os2 (upd H2 L (.lst acc')) := by
    intro acc acc' V2 os2 H2 r2
    have v2 : V2 L = none := r2.fv L _ upd_same
    refine ⟨fun a o e => ?_, fun a o e => ?_, fun a o e => ?_, fun p hp => ?_, r2.nd⟩
    · by_cases ha : a = L
      · subst ha; rw [upd_same] at e ⊢; exact e
      · rw [upd_ne ha] at e ⊢; exact r2.fr a o (by rw [upd_ne ha]; exact e)
    · rw [upd_ne (ne_of_none e v2)]
      exact r2.vi a o e
    · by_cases ha : a = L
      · subst ha; exact v2
      · rw [upd_ne ha] at e; exact r2.fv a o (by rw [upd_ne ha]; exact e)
    · obtain ⟨h1, h2, ho, h3, h4⟩ := r2.own p hp
      have ne : p.1 ≠ L := fun z => by rw [z, upd_same] at h1; cases h1
      exact ⟨by rw [upd_ne ne] at h1 ⊢; exact h1, h2, ho, by rw [upd_ne ne]; exact h3, h4⟩
  have done : ∀ (acc : List V) (V2 : Hp) (os2 : Os) (H2 : Hp), Rel X.K (upd F L (.lst acc)) V2 os2 H2 → Same V2 (upd V2 L (.lst acc)) ∧ Rel X.K F (upd V2 L (.lst acc)) os2 H2 := by
    intro acc V2 os2 H2 r2
    have v2 : V2 L = none := r2.fv L _ upd_same
    have sv := same_upd (o := .lst acc) v2
    refine ⟨sv, ⟨fun a o e => r2.fr a o (by rw [upd_ne (ne_of_none e hFL)]; exact e), fun a o e => ?_, fun a o e => ?_, fun p hp => ?_, r2.nd⟩⟩
    · by_cases ha : a = L
      · subst ha; rw [upd_same] at e; exact r2.fr a o (by rw [upd_same]; exact e)
      · rw [upd_ne ha] at e; exact r2.vi a o e
    · have ne := ne_of_none e hFL
      rw [upd_ne ne]
      exact r2.fv a o (by rw [upd_ne ne]; exact e)
    · obtain ⟨h1, h2, ho, h3, h4⟩ := r2.own p hp
      have ne : p.1 ≠ L := fun z => by rw [z, upd_same] at h1; cases h1
      exact ⟨by rw [upd_ne ne] at h1; exact h1, by rw [upd_ne ne]; exact h2, ho, h3, h4.mono sv⟩
  refine ⟨fun j m H2 => m = ws.length - j ∧ j ≤ ws.length ∧ ∃ (V2 : Hp) (os2 : Os) (av : List V) (ad : List D), Same V1 V2 ∧ Rel X.K (upd F L (.lst av)) V2 os2 H2 ∧ RpA X.K V2 av ad ∧ ad.length ≤ j ∧ lcW bn tt te (wipeE env vs) (lcK own0 k) gd (ws.drop j) ad os2,
    ⟨ws.length, rfl, Nat.zero_le _, V1, os1, [], [], Same.refl _, put [] V1 os1 H1 r1 hL, .nil, Nat.le_refl _, q⟩, ?_⟩
  rintro j m H2 ⟨rfl, hj, V2, os0, av, ad, s2, r0, ra2, hl2, q2⟩
  by_cases hlt : j < ws.length
  · rw [List.drop_eq_getElem_cons hlt] at q2
    obtain ⟨os2, hwk, q2⟩ := q2
    have r2 := r0.wk hwk
    obtain ⟨hG, q2⟩ := gK_ok q2
    refine .inr ⟨gi.go j (upd F L (.lst av)) V2 os2 H2 s2 r2 hG hlt, fun H3 => ∃ (V3 : Hp) (os3 : Os) (av3 : List V) (ad3 : List D), Same V1 V3 ∧ Rel X.K (upd F L (.lst av3)) V3 os3 H3 ∧ RpA X.K V3 av3 ad3 ∧ ad3.length ≤ j + 1 ∧ lcW bn tt te (wipeE env vs) (lcK own0 k) gd (ws.drop (j + 1)) ad3 os3,
      fun H3 q3 => ⟨ws.length - (j + 1), by omega, rfl, hlt, q3⟩, fun x' H' y => ?_⟩
    obtain ⟨V3, s3, r3, rw3⟩ := gi.yld j (upd F L (.lst av)) V2 os2 H2 x' H' ws[j] s2 r2 hG y (List.getElem?_eq_getElem hlt)
    refine hb (upd F L (.lst av)) V3 H' os2 σ _ x' ws[j] _ _ r3 rw3 ((sr_wipe (sr.mono s1) _).mono (s2.trans s3)) q2 fun σ2 env2 sr3 hw q2 => ⟨hw, fun s0 H0 C cl fp => ?_⟩
    refine ht s0 H0 C cl fp _ _ _ q2 (upd F L (.lst av)) V3 H' _ _ r3 sr3 fun V4 os4 H4 b s4 r4 q4 => ?_
    cases b with
    | false => exact iteF ⟨V4, os4, av, ad, (s2.trans s3).trans s4, r4, RpA.mono (s3.trans s4) ra2, Nat.le_succ_of_le hl2, q4.2 rfl⟩
    | true =>
      refine iteT fun s0 H0 C cl fp => ?_
      refine he s0 H0 C cl fp _ _ _ _ (q4.1 rfl) (upd F L (.lst av)) V4 H4 _ _ _ r4 (sr3.mono s4) XkOk.none fun V5 os5 H5 y5 w5 s5 r5 rw5 q5 => ?_
      have s35 := (s3.trans s4).trans s5
      have ra5 : RpA X.K V5 (av ++ [y5]) (ad ++ [w5]) := (RpA.mono s35 ra2).append (.cons rw5 .nil)
      refine ⟨av, r5.fr L _ upd_same, ?_, V5, os5, av ++ [y5], ad ++ [w5], s2.trans s35, grow av _ V5 os5 H5 r5, ra5, by rw [List.length_append, List.length_singleton]; omega, q5⟩
      rw [ra2.length]
      omega
  · have e : j = ws.length := by omega
    subst e
    rw [List.drop_length] at q2
    obtain ⟨os2, hwk, q2⟩ := q2
    have r2 := r0.wk hwk
    obtain ⟨hG, q2⟩ := gK_ok q2
    refine .inl ⟨gi.stop _ (upd F L (.lst av)) V2 os2 H2 s2 r2 hG (Nat.le_refl _), ?_⟩
    have q2 : lcK own0 k ad os2 := q2
    unfold lcK at q2
    split at q2
    · have v2 : V2 L = none := r2.fv L _ upd_same
      refine c V2 ((L, .lst ad) :: os2) H2 (.ref L) (.ref L) (s1.trans s2) ⟨fun a o e => r2.fr a o (by rw [upd_ne (ne_of_none e hFL)]; exact e), r2.vi, fun a o e => ?_, fun p hp => ?_, ?_⟩ (.ref L) (q2 L)
      · exact r2.fv a o (by rw [upd_ne (ne_of_none e hFL)]; exact e)
      · rcases List.mem_cons.mp hp with e | hp
        · subst e
          exact ⟨hFL, v2, _, r2.fr L _ upd_same, av, rfl, ra2⟩
        · obtain ⟨h1, h2, ho, h3, h4⟩ := r2.own p hp
          have ne : p.1 ≠ L := fun z => by rw [z, upd_same] at h1; cases h1
          exact ⟨by rw [upd_ne ne] at h1; exact h1, h2, ho, h3, h4⟩
      · rw [List.map_cons, List.nodup_cons]
        refine ⟨fun hm => ?_, r2.nd⟩
        obtain ⟨q, hq, e⟩ := List.mem_map.mp hm
        obtain ⟨h1, _⟩ := r2.own q hq
        have e' : q.1 = L := e
        rw [e', upd_same] at h1
        cases h1
    · obtain ⟨sv, r3⟩ := done av V2 os2 H2 r2
      exact c _ os2 H2 (.ref L) (.lst ad) ((s1.trans s2).trans sv) r3 (.lst (.inl (.inl upd_same)) (RpA.mono sv ra2)) q2
@[irreducible] def lcX (b : TrB) (t : TrT) (te : TrE) (env : DEnv) (k : List D → Os → Prop) (gd : Gd) (ws : List D) (os : Os) : Prop := lcW b t te env k gd ws [] os
theorem lcX_eq {b : TrB} {t : TrT} {te : TrE} {env : DEnv} {k : List D → Os → Prop} {gd : Gd} {ws : List D} {os : Os} : lcX b t te env k gd ws os = lcW b t te env k gd ws [] os := by unfold lcX; rfl
def eLc (own0 : Bool) (vs : List Nat) (b : TrB) (ti : TrI) (tt : TrT) (te : TrE) : TrE := fun kx env os k => ti kx env os fun ws gd os1 => ws.length ≤ sizeLine ∧ lcX b tt te (wipeE env vs) (lcK own0 k) gd ws os1
section
variable {X : Cx} {own0 : Bool} {elt iter tge : Expr} {ifs : List Expr} {scope : Scope} {own : List (Str × Nat)} {pos : Pos} {g : TG} {bn : TrB} {tt : TrT} {te : TrE} {ti : TrI}
theorem cm_lc (hc : X.calm = true) (hN : X.N.Nodup) (ok : BlkOk X.N X.env.scope scope own) (hb : BindOk X.K (own.map (·.2)) g bn)
    (hg : ∀ s H C cl fp, PG (Bk X scope s H C cl fp) tge g) (hi : CmI X tge iter ti) (ht : ∀ s H C cl fp, CmTs (Bk X scope s H C cl fp) ifs tt) (he : ∀ s H C cl fp, Cm (Bk X scope s H C cl fp) elt te)
    (hs : ∀ x, foldedSetIterable iter X.env x = pure x) : Cm X (.ListComp elt [⟨tge, iter, ifs, 0⟩] scope pos) (eLc own0 (own.map (·.2)) bn ti tt te) := by
  intro kx env os k h F V0 H σ Q W r sr ek c
  refine wE_of (pe_lc (X := X) (own := own) (wi := wPI X tge iter) (g := g) (tt := fun σ H Q => ∀ s0 H0 C cl fp, wTs (Bk X scope s0 H0 C cl fp) ifs σ H Q) (te := fun σ H Q => ∀ s0 H0 C cl fp, wE (Bk X scope s0 H0 C cl fp) elt σ H Q) hc hN wPI_pi ok
    hg (fun s0 H0 C cl fp => ⟨fun pins s σ H Q I q => wTs_pts.run pins s σ H Q I (q s0 H0 C cl fp)⟩) (fun s0 H0 C cl fp => ⟨fun pins s σ H Q I q => wE_pe.run pins s σ H Q I (q s0 H0 C cl fp)⟩) hs) ?_
  unfold eLc at h
  simp only [lcX_eq] at h
  exact tlc_of hb hi ht he h r sr ek c
/-- name = [..] on one line -/
theorem c1_setLc {iy : Nat} {y : Str} {py spos : Pos} (hc : X.calm = true) (hN : X.N.Nodup) (ok : BlkOk X.N X.env.scope scope own) (hb : BindOk X.K (own.map (·.2)) g bn)
    (hg : ∀ s H C cl fp, PG (Bk X scope s H C cl fp) tge g) (hi : CmI X tge iter ti) (ht : ∀ s H C cl fp, CmTs (Bk X scope s H C cl fp) ifs tt) (he : ∀ s H C cl fp, Cm (Bk X scope s H C cl fp) elt te)
    (hy : X.N[iy]? = some y) (hyl : X.env.scope.names.lookup y = some .local) (hsw : swapsWith (.ListComp elt [⟨tge, iter, ifs, 0⟩] scope pos) (some (.Name y py)) spos.line X.env = pure true)
    (hs : ∀ x, foldedSetIterable iter X.env x = pure x) : CmS X (.Assign [.Name y py] (.ListComp elt [⟨tge, iter, ifs, 0⟩] scope pos) spos) (sSet iy (eLc own0 (own.map (·.2)) bn ti tt te)) := by
  intro N R env os h F V0 H σ D W r sr ek
  refine wS1_of (ps_setLc (X := X) (i := iy) (own := own) (wi := wPI X tge iter) (g := g) (tt := fun σ H Q => ∀ s0 H0 C cl fp, wTs (Bk X scope s0 H0 C cl fp) ifs σ H Q) (te := fun σ H Q => ∀ s0 H0 C cl fp, wE (Bk X scope s0 H0 C cl fp) elt σ H Q) hc hN hy hyl hsw wPI_pi ok
    hg (fun s0 H0 C cl fp => ⟨fun pins s σ H Q I q => wTs_pts.run pins s σ H Q I (q s0 H0 C cl fp)⟩) (fun s0 H0 C cl fp => ⟨fun pins s σ H Q I q => wE_pe.run pins s σ H Q I (q s0 H0 C cl fp)⟩) hs) ?_
  unfold sSet eLc at h
  simp only [lcX_eq] at h
  refine tlc_of (k := fun w os1 => N (setE env iy (some w)) os1) hb hi ht he h r sr (ek.xk sr) fun V1 os1 H1 v w s1 r1 rv q => ?_
  exact ek.nx V1 os1 H1 _ _ s1 r1 (sr_setE (sr.mono s1) rv iy) q
end
/-! ### reading -/
/-- an item is bound and made by a plain function, nothing owned changes -/
theorem lcW_map {b : TrB} {te : TrE} {env : DEnv} {k : List D → Os → Prop} {gd : Gd} {os : Os} (f : D → D) (hG : gOk gd os) (hm : ∀ w {p q : DEnv → Prop}, (∀ e, p e → q e) → b w env p → b w env q) : ∀ {ws acc : List D}, (∀ w ∈ ws, ∀ kk : D → Os → Prop, kk (f w) os → b w env fun env1 => te kx0 env1 os kk) → k (acc ++ ws.map f) os →
    lcW b tYes te env k gd ws acc os
  | [], acc, _, h => by rw [List.map_nil, List.append_nil] at h; exact wkX_id (gK_mk hG h)
  | w :: ws, acc, hw, h => by
    have ih := lcW_map (b := b) (te := te) (env := env) (k := k) (gd := gd) (os := os) f hG hm (ws := ws) (acc := acc ++ [f w]) (fun w h => hw w (List.mem_cons_of_mem _ h)) (by rw [List.append_assoc]; exact h)
    exact wkX_id <| gK_mk hG (hm w (fun e z => ⟨fun _ => z, fun z => nomatch z⟩) (hw w List.mem_cons_self (fun y os2 => lcW b tYes te env k gd ws (acc ++ [y]) os2) ih))
/-- tested by a plain function, too -/
theorem lcW_filter {b : TrB} {t : TrT} {te : TrE} {env : DEnv} {k : List D → Os → Prop} {gd : Gd} {os : Os} (p : D → Bool) (f : D → D) (hG : gOk gd os) : ∀ {ws acc : List D},
    (∀ w ∈ ws, ∀ (kt : D → Os → Prop) (kf : Os → Prop), (p w = true → kt (f w) os) → (p w = false → kf os) → b w env fun env1 => t kx0 env1 os fun bo os1 => (bo = true → te kx0 env1 os1 kt) ∧ (bo = false → kf os1)) → k (acc ++ (ws.filter p).map f) os →
    lcW b t te env k gd ws acc os
  | [], acc, _, h => by
    rw [List.filter_nil, List.map_nil, List.append_nil] at h
    exact wkX_id (gK_mk hG h)
  | w :: ws, acc, hw, h => by
    refine wkX_id <| gK_mk hG (hw w List.mem_cons_self (fun y os2 => lcW b t te env k gd ws (acc ++ [y]) os2) (fun os1 => lcW b t te env k gd ws acc os1) (fun hp => ?_) (fun hp => ?_))
    · refine lcW_filter p f hG (fun w h => hw w (List.mem_cons_of_mem _ h)) ?_
      rw [List.filter_cons_of_pos hp] at h
      rw [List.append_assoc]
      exact h
    · refine lcW_filter p f hG (fun w h => hw w (List.mem_cons_of_mem _ h)) ?_
      rw [List.filter_cons_of_neg (by rw [hp]; decide)] at h
      exact h
theorem b1_mono {i : Nat} {env : DEnv} (w : D) {p q : DEnv → Prop} (h : ∀ e, p e → q e) (z : b1 i w env p) : b1 i w env q := h _ z
/-- by an invariant over the turn -/
theorem lcW_inv {b : TrB} {t : TrT} {te : TrE} {env : DEnv} {k : List D → Os → Prop} {gd : Gd} {ws : List D} {os : Os} (I : Nat → List D → Os → Prop) (h0 : I 0 [] os)
    (hs : ∀ (j : Nat) (w : D) (acc : List D) (os : Os) (N : List D → Os → Prop), ws[j]? = some w → I j acc os → (∀ a o o2, WkO o o2 → I (j + 1) a o2 → N a o) →
      b w env fun env1 => t kx0 env1 os fun bo os1 => (bo = true → te kx0 env1 os1 fun y os2 => N (acc ++ [y]) os2) ∧ (bo = false → N acc os1))
    (hd : ∀ acc os, I ws.length acc os → k acc os) (hG : ∀ j acc os, I j acc os → gOk gd os) : lcW b t te env k gd ws [] os := by
  have gen : ∀ (m j : Nat) (acc : List D) (os os2 : Os), m = ws.length - j → j ≤ ws.length → WkO os os2 → I j acc os2 → lcW b t te env k gd (ws.drop j) acc os := by
    intro m
    induction m with
    | zero =>
      intro j acc os os2 hm hj hw h
      have e : j = ws.length := by omega
      subst e
      rw [List.drop_length]
      exact ⟨os2, hw, gK_mk (hG _ acc os2 h) (hd acc os2 h)⟩
    | succ m ih =>
      intro j acc os os2 hm hj hw h
      have hlt : j < ws.length := by omega
      rw [List.drop_eq_getElem_cons hlt]
      exact ⟨os2, hw, gK_mk (hG j acc os2 h) (hs j ws[j] acc os2 (fun a o => lcW b t te env k gd (ws.drop (j + 1)) a o) (List.getElem?_eq_getElem hlt) h fun a o o2 hw2 z => ih (j + 1) a o o2 (by omega) hlt hw2 z)⟩
  exact gen _ 0 [] os os rfl (Nat.zero_le _) (.refl _) h0
theorem lcX_map {b : TrB} {te : TrE} {env : DEnv} {k : List D → Os → Prop} {gd : Gd} {ws : List D} {os : Os} (f : D → D) (hG : gOk gd os) (hm : ∀ w {p q : DEnv → Prop}, (∀ e, p e → q e) → b w env p → b w env q) (hw : ∀ w ∈ ws, ∀ kk : D → Os → Prop, kk (f w) os → b w env fun env1 => te kx0 env1 os kk)
    (h : k (ws.map f) os) : lcX b tYes te env k gd ws os := by rw [lcX_eq]; exact lcW_map f hG hm hw h
theorem lcX_filter {b : TrB} {t : TrT} {te : TrE} {env : DEnv} {k : List D → Os → Prop} {gd : Gd} {ws : List D} {os : Os} (p : D → Bool) (f : D → D) (hG : gOk gd os)
    (hw : ∀ w ∈ ws, ∀ (kt : D → Os → Prop) (kf : Os → Prop), (p w = true → kt (f w) os) → (p w = false → kf os) → b w env fun env1 => t kx0 env1 os fun bo os1 => (bo = true → te kx0 env1 os1 kt) ∧ (bo = false → kf os1))
    (h : k ((ws.filter p).map f) os) : lcX b t te env k gd ws os := by rw [lcX_eq]; exact lcW_filter p f hG hw h
theorem lcX_inv {b : TrB} {t : TrT} {te : TrE} {env : DEnv} {k : List D → Os → Prop} {gd : Gd} {ws : List D} {os : Os} (I : Nat → List D → Os → Prop) (h0 : I 0 [] os)
    (hs : ∀ (j : Nat) (w : D) (acc : List D) (os : Os) (N : List D → Os → Prop), ws[j]? = some w → I j acc os → (∀ a o o2, WkO o o2 → I (j + 1) a o2 → N a o) →
      b w env fun env1 => t kx0 env1 os fun bo os1 => (bo = true → te kx0 env1 os1 fun y os2 => N (acc ++ [y]) os2) ∧ (bo = false → N acc os1))
    (hd : ∀ acc os, I ws.length acc os → k acc os) (hG : ∀ j acc os, I j acc os → gOk gd os) : lcX b t te env k gd ws os := by rw [lcX_eq]; exact lcW_inv I h0 hs hd hG
end EV

set_option Elab.async false
set_option linter.all false
set_option maxRecDepth 100000
/-! E6: promises of defs, calls, instances. -/
namespace EV
open PySem PySem.Spec PyProof.Rows L2

/-! ### what a def does -/
abbrev FT := List D → Os → (D → Os → Prop) → Kx → Prop
def spX (K : PySem.W.Frag) (n : Nat) (T : FT) : Sp := fun vs H Q E => vs.length = n ∧ ∃ (F V0 : Hp) (os : Os) (ws : List D) (k0 : D → Os → Prop) (x0 : Kx), Rel K F V0 os H ∧ RpA K V0 vs ws ∧ T ws os k0 x0 ∧
  (∀ (V1 : Hp) (os1 : Os) (H1 : Hp) (v : V) (w : D), Same V0 V1 → Rel K F V1 os1 H1 → Rp K V1 v w → k0 w os1 → Q v H1) ∧
  (∀ (V1 : Hp) (os1 : Os) (H1 : Hp) (cls : Value) (d : Option Addr) (x : Exn), Same V0 V1 → Rel K F V1 os1 H1 → ExnR K V1 cls d x → x0 x os1 → E cls d H1)
def startE : Nat → List D → DEnv
  | 0, _ => []
  | n + 1, [] => none :: startE n []
  | n + 1, w :: ws => some w :: startE n ws
/-- what is not wanted any more goes -/
@[irreducible] def dropX (w : D) (os : Os) (k : D → Os → Prop) : Prop := ∃ os2 : Os, WkO os os2 ∧ k w os2
@[irreducible] def dropE (x : Exn) (os : Os) (k : Kx) : Prop := ∃ os2 : Os, WkO os os2 ∧ k x os2
theorem dropX_wk {w : D} {os os2 : Os} {k : D → Os → Prop} (s : WkO os os2) (h : k w os2) : dropX w os k := by unfold dropX; exact ⟨os2, s, h⟩
theorem dropX_id {w : D} {os : Os} {k : D → Os → Prop} (h : k w os) : dropX w os k := dropX_wk (.refl _) h
theorem dropE_wk {x : Exn} {os os2 : Os} {k : Kx} (s : WkO os os2) (h : k x os2) : dropE x os k := by unfold dropE; exact ⟨os2, s, h⟩
theorem dropE_id {x : Exn} {os : Os} {k : Kx} (h : k x os) : dropE x os k := dropE_wk (.refl _) h
theorem dropX_of {w : D} {os : Os} {k : D → Os → Prop} (h : dropX w os k) : ∃ os2 : Os, WkO os os2 ∧ k w os2 := by unfold dropX at h; exact h
theorem dropE_of {x : Exn} {os : Os} {k : Kx} (h : dropE x os k) : ∃ os2 : Os, WkO os os2 ∧ k x os2 := by unfold dropE at h; exact h
def fnT (m : Nat) (body : TrS) : FT := fun ws os k kx => body (fun _ os1 => dropX .non os1 k) { rt := fun w os1 => dropX w os1 k, ex := fun x _ os1 => dropE x os1 kx } (startE m ws) os
theorem startE_len : ∀ (m : Nat) (ws : List D), ws.length ≤ m → (startE m ws).length = m
  | 0, _, _ => rfl
  | m + 1, [], _ => congrArg (· + 1) (startE_len m [] (Nat.zero_le _))
  | m + 1, _ :: ws, h => congrArg (· + 1) (startE_len m ws (by simpa using h))
theorem startE_get : ∀ (m : Nat) (ws : List D) (i : Nat) (w : D), (startE m ws)[i]? = some (some w) → ws[i]? = some w
  | 0, _, _, _, h => by simp [startE] at h
  | m + 1, [], 0, w, h => by simp [startE] at h
  | m + 1, [], i + 1, w, h => by
    rw [startE, List.getElem?_cons_succ] at h
    have := startE_get m [] i w h
    simp at this
  | m + 1, u :: ws, 0, w, h => by
    rw [startE, List.getElem?_cons_zero] at h
    rw [List.getElem?_cons_zero]
    exact Option.some.inj h
  | m + 1, u :: ws, i + 1, w, h => by
    rw [startE, List.getElem?_cons_succ] at h
    rw [List.getElem?_cons_succ]
    exact startE_get m ws i w h
theorem sr_startE {K : PySem.W.Frag} {V0 : Hp} {N : List Str} {vs : List V} {ws : List D} (r : RpA K V0 vs ws) (hl : ws.length ≤ N.length) : SR K V0 (L2.start N vs) (startE N.length ws) := by
  have hv := r.length
  refine ⟨by unfold L2.start; rw [startE_len _ _ hl]; simp; omega, fun i w e => ?_⟩
  have e1 := startE_get _ _ _ _ e
  obtain ⟨v, ev, rv⟩ := r.get e1
  refine ⟨v, ?_, rv⟩
  have hi : i < vs.length := (List.getElem?_eq_some_iff.mp ev).1
  unfold L2.start
  rw [List.getElem?_append_left (by simpa using hi), List.getElem?_map, ev]
  rfl
section
variable {P : Program} {w : World} {K : PySem.W.Frag} {mg : Str → Option Value} {base : Heap}
/-- the rule for a def -/
theorem okX {x qual : Str} {st : Stmt} {f : Addr} {fd : FuncData} {N ps : List Str} {k n m : Nat} {tb : TrS} (F : Fun K x qual st f fd) (sc : FnScope N ps (defScope st)) (hn : ps.length = n) (hm : N.length = m) (hnm : n ≤ m)
    (h : ∀ (cdv : Value) (A : Around) (outer : List Env) (s : Shared) (H : Hp) (E : XK), Room k (A.deeper (envOfC qual (defScope st) s.heap.objs.size f cdv)) →
      CmSs (cxOf (L2.CX P w) P w K mg base N qual (defScope st) f cdv A outer s H E) (defBody st) tb) : FnOk P w K mg base (L2.CX P w) (k + 1) f fd ps (spX K n (fnT m tb)) := by
  refine F.okX sc (fun vs H Q E h => h.1.trans hn.symm) fun cdv A outer s H vs Q E hr hsp => ?_
  obtain ⟨hl, F0, V0, os, ws, k0, x0, r, ra, hT, c, cx⟩ := hsp
  refine ⟨wSs _ (defBody st), wSs_pss, ?_⟩
  have hw : ws.length ≤ N.length := by rw [← ra.length]; omega
  subst hm
  refine h cdv A outer s H E hr _ _ _ _ hT F0 V0 H _ _ (fun cls d _ H => E cls d H) r (sr_startE ra hw) ⟨fun V1 os1 H1 σ1 env1 s1 r1 sr1 q => ?_, fun V1 os1 H1 v w s1 r1 rv q => ?_, fun _ _ _ _ _ _ _ _ z => z.elim, fun _ _ _ _ _ _ _ _ z => z.elim,
    takes_of rfl rfl rfl rfl, fun V1 os1 H1 σ1 env1 cls d x s1 r1 sr1 ex q => ?_⟩
  · obtain ⟨os2, hs, q⟩ := dropX_of q
    exact c V1 os2 H1 _ _ s1 (r1.wk hs) rwN q
  · obtain ⟨os2, hs, q⟩ := dropX_of q
    exact c V1 os2 H1 v w s1 (r1.wk hs) rv q
  · obtain ⟨os2, hs, q⟩ := dropE_of q
    exact cx V1 os2 H1 cls d x s1 (r1.wk hs) ex q
end
theorem pass_cx {CX : CXT} {P : Program} {w : World} {K : PySem.W.Frag} {mg : Str → Option Value} {base : Heap} {N : List Str} {qual : Str} {scope : Scope} {f : Addr} {cd : Value} {A : Around} {outer : List Env} {s : Shared} {H : Hp} {E : XK} :
    PassesOwn (model (cxOf CX P w K mg base N qual scope f cd A outer s H E).prog (cxOf CX P w K mg base N qual scope f cd A outer s H E).w) (cxOf CX P w K mg base N qual scope f cd A outer s H E).A (cxOf CX P w K mg base N qual scope f cd A outer s H E).env (cxOf CX P w K mg base N qual scope f cd A outer s H E).xe := PassesOwn.leaving
/-- a def by its name -/
structure CalX (P : Program) (w : World) (K : PySem.W.Frag) (mg : Str → Option Value) (base : Heap) (lvl : Nat) (x : Str) (n : Nat) (T : FT) : Prop where
  ex : ∃ (f : Addr) (fd : FuncData) (ps : List Str), FnOk P w K mg base (L2.CX P w) lvl f fd ps (spX K n T) ∧ mg x = some (.ref f) ∧ PySem.W.keepIn K (.ref f) = true ∧ Binds K fd ps []
/-- a method -/
structure CalM (P : Program) (w : World) (K : PySem.W.Frag) (mg : Str → Option Value) (base : Heap) (lvl : Nat) (C : Addr) (m : Str) (n : Nat) (T : FT) : Prop where
  ex : ∃ (f : Addr) (fd : FuncData) (ps : List Str), FnOk P w K mg base (L2.CX P w) lvl f fd ps (spX K n T) ∧ Meth K C m f ∧ Binds K fd ps []
/-- an __init__ -/
structure CalI (P : Program) (w : World) (K : PySem.W.Frag) (mg : Str → Option Value) (base : Heap) (lvl : Nat) (C : Addr) (x : Str) (n : Nat) (T : FT) : Prop where
  ex : ∃ (f : Addr) (fd : FuncData) (ps : List Str), FnOk P w K mg base (L2.CX P w) lvl f fd ps (spX K n T) ∧ Mk K C f ∧ Binds K fd ps [] ∧ mg x = some (.ref C)

/-! ### a part of the owned things goes in -/
def callK (T : FT) (ws : List D) (os : Os) (k : D → Os → Prop) (kx : Kx) : Prop := ∃ (of or : Os) (back : Os → Os), os.Perm (of ++ or) ∧ (∀ o, (o ++ or).Perm (back o)) ∧ T ws of (fun w o => k w (back o)) (fun x o => kx x (back o))
def makeK (T : FT) (C : Addr) (ws : List D) (os : Os) (k : D → Os → Prop) (kx : Kx) : Prop := ∃ (of or : Os) (back : Os → Os), os.Perm (of ++ or) ∧ (∀ o, (o ++ or).Perm (back o)) ∧
  ∀ p, T (.ref p :: ws) ((p, .ins C []) :: of) (fun w o => match w with
    | .non => k (.ref p) (back o)
    | _ => False) (fun x o => kx x (back o))
theorem callK_all {T : FT} {ws : List D} {os : Os} {k : D → Os → Prop} {kx : Kx} (h : T ws os k kx) : callK T ws os k kx := ⟨os, [], id, by rw [List.append_nil], fun o => by rw [List.append_nil]; exact .refl _, h⟩
theorem callK_none {T : FT} {ws : List D} {os : Os} {k : D → Os → Prop} {kx : Kx} (h : T ws [] (fun w o => k w (o ++ os)) (fun x o => kx x (o ++ os))) : callK T ws os k kx := ⟨[], os, fun o => o ++ os, .refl _, fun _ => .refl _, h⟩
theorem makeK_none {T : FT} {C : Addr} {ws : List D} {os : Os} {k : D → Os → Prop} {kx : Kx} (h : ∀ p, T (.ref p :: ws) [(p, .ins C [])] (fun w o => match w with
    | .non => k (.ref p) (o ++ os)
    | _ => False) (fun x o => kx x (o ++ os))) : makeK T C ws os k kx := ⟨[], os, fun o => o ++ os, .refl _, fun _ => .refl _, h⟩
/-- those at some places, one after the other -/
def outAt : Nat → Os → Option ((Addr × OO) × Os)
  | 0, x :: xs => some (x, xs)
  | n + 1, x :: xs => match outAt n xs with
    | some (y, r) => some (y, x :: r)
    | none => none
  | _, [] => none
def outs : List Nat → Os → Option (Os × Os)
  | [], os => some ([], os)
  | n :: ns, os => match outAt n os with
    | some (x, r) => (match outs ns r with
      | some (of, or) => some (x :: of, or)
      | none => none)
    | none => none
def putAt : Nat → (Addr × OO) → Os → Os
  | 0, x, os => x :: os
  | n + 1, x, y :: os => y :: putAt n x os
  | _ + 1, x, [] => [x]
def puts : List Nat → Os → Os → Os
  | n :: ns, x :: o, or => putAt n x (puts ns o or)
  | _, o, or => o ++ or
/-- the last ones go back to their places -/
def backAt (ns : List Nat) (or o : Os) : Os := o.take (o.length - ns.length) ++ puts ns (o.drop (o.length - ns.length)) or
theorem putAt_perm : ∀ (n : Nat) (x : Addr × OO) (os : Os), (x :: os).Perm (putAt n x os)
  | 0, _, _ => .refl _
  | n + 1, x, y :: os => (List.Perm.swap y x os).trans ((putAt_perm n x os).cons y)
  | _ + 1, _, [] => .refl _
theorem puts_perm : ∀ (ns : List Nat) (o or : Os), (o ++ or).Perm (puts ns o or)
  | n :: ns, x :: o, or => ((puts_perm ns o or).cons x).trans (putAt_perm n x _)
  | [], o, or => by cases o <;> exact .refl _
  | n :: ns, [], or => .refl _
theorem backAt_perm (ns : List Nat) (or o : Os) : (o ++ or).Perm (backAt ns or o) := by
  unfold backAt
  have h := puts_perm ns (o.drop (o.length - ns.length)) or
  have e : o ++ or = o.take (o.length - ns.length) ++ (o.drop (o.length - ns.length) ++ or) := by rw [← List.append_assoc, List.take_append_drop]
  rw [e]
  exact h.append_left _
theorem outAt_perm : ∀ {n : Nat} {os : Os} {x : Addr × OO} {r : Os}, outAt n os = some (x, r) → os.Perm (x :: r)
  | 0, y :: ys, x, r, h => by
    have h : some (y, ys) = some (x, r) := h
    cases h; exact .refl _
  | n + 1, y :: ys, x, r, h => by
    unfold outAt at h
    split at h
    · rename_i z r' e
      cases h
      exact ((outAt_perm e).cons y).trans (.swap _ _ _)
    · cases h
  | 0, [], _, _, h => by cases h
  | _ + 1, [], _, _, h => by cases h
theorem outs_perm : ∀ {ns : List Nat} {os of or : Os}, outs ns os = some (of, or) → os.Perm (of ++ or)
  | [], os, of, or, h => by
    have h : some ([], os) = some (of, or) := h
    cases h; exact .refl _
  | n :: ns, os, of, or, h => by
    unfold outs at h
    split at h
    · rename_i x r e
      split at h
      · rename_i of' or' e2
        cases h
        exact (outAt_perm e).trans ((outs_perm e2).cons x)
      · cases h
    · cases h
theorem wk_at {os of or : Os} (ns : List Nat) (h : outs ns os = some (of, or)) : WkO os of := ⟨or, outs_perm h⟩
theorem callK_at {T : FT} {ws : List D} {os of or : Os} {k : D → Os → Prop} {kx : Kx} (ns : List Nat) (h : outs ns os = some (of, or)) (q : T ws of (fun w o => k w (backAt ns or o)) (fun x o => kx x (backAt ns or o))) : callK T ws os k kx :=
  ⟨of, or, backAt ns or, outs_perm h, backAt_perm ns or, q⟩
theorem makeK_at {T : FT} {C : Addr} {ws : List D} {os of or : Os} {k : D → Os → Prop} {kx : Kx} (ns : List Nat) (h : outs ns os = some (of, or)) (q : ∀ p, T (.ref p :: ws) ((p, .ins C []) :: of) (fun w o => match w with
    | .non => k (.ref p) (backAt ns or o)
    | _ => False) (fun x o => kx x (backAt ns or o))) : makeK T C ws os k kx :=
  ⟨of, or, backAt ns or, outs_perm h, backAt_perm ns or, q⟩

@[irreducible] def callX (T : FT) (ws : List D) (os : Os) (k : D → Os → Prop) (kx : Kx) : Prop := callK T ws os k kx
@[irreducible] def makeX (T : FT) (C : Addr) (ws : List D) (os : Os) (k : D → Os → Prop) (kx : Kx) : Prop := makeK T C ws os k kx
section
variable {T : FT} {C : Addr} {ws : List D} {os of or : Os} {k : D → Os → Prop} {kx : Kx}
theorem callX_eq : callX T ws os k kx = callK T ws os k kx := by unfold callX; rfl
theorem makeX_eq : makeX T C ws os k kx = makeK T C ws os k kx := by unfold makeX; rfl
theorem callX_all (h : T ws os k kx) : callX T ws os k kx := by rw [callX_eq]; exact callK_all h
theorem callX_none (h : T ws [] (fun w o => k w (o ++ os)) (fun x o => kx x (o ++ os))) : callX T ws os k kx := by rw [callX_eq]; exact callK_none h
theorem callX_at (ns : List Nat) (h : outs ns os = some (of, or)) (q : T ws of (fun w o => k w (backAt ns or o)) (fun x o => kx x (backAt ns or o))) : callX T ws os k kx := by rw [callX_eq]; exact callK_at ns h q
theorem makeX_none (h : ∀ p, T (.ref p :: ws) [(p, .ins C [])] (fun w o => match w with
    | .non => k (.ref p) (o ++ os)
    | _ => False) (fun x o => kx x (o ++ os))) : makeX T C ws os k kx := by rw [makeX_eq]; exact makeK_none h
theorem makeX_at (ns : List Nat) (h : outs ns os = some (of, or)) (q : ∀ p, T (.ref p :: ws) ((p, .ins C []) :: of) (fun w o => match w with
    | .non => k (.ref p) (backAt ns or o)
    | _ => False) (fun x o => kx x (backAt ns or o))) : makeX T C ws os k kx := by rw [makeX_eq]; exact makeK_at ns h q
end

section
variable {X : Cx} {env : DEnv} {os : Os} {k : D → Os → Prop} {pos p pos' apos : Pos} {a b c e o value : Expr} {es : List Expr} {x m : Str} {lvl n : Nat} {T : FT} {tl : TrA} {to te : TrE} {C : Addr}
/-- the promise at the caller's things -/
theorem sp_of {F V0 H : Hp} {σ : L2.St} {vs : List V} {ws : List D} {kx : Kx} {W : WX} {Q : VK} (r : Rel X.K F V0 os H) (rs : RpA X.K V0 vs ws) (hl : vs.length = n) (q : callX T ws os k kx) (ek : XkOk X F V0 σ kx W)
    (c : ∀ (V1 : Hp) (os1 : Os) (H1 : Hp) (v : V) (w : D), Same V0 V1 → Rel X.K F V1 os1 H1 → Rp X.K V1 v w → k w os1 → Q v H1) : spX X.K n T vs H Q (WE W σ) := by
  rw [callX_eq] at q
  obtain ⟨of, or, back, hp, hb, hT⟩ := q
  obtain ⟨F2, r2, bk⟩ := Rel.frame (r.perm hp)
  exact ⟨hl, F2, V0, of, ws, _, _, r2, rs, hT, fun V1 os1 H1 v w s1 r1 rv hq => c V1 _ H1 v w s1 ((bk V1 os1 H1 s1 r1).perm (hb os1)) rv hq, fun V1 os1 H1 cls d x s1 r1 ex hq => ek.ex V1 _ H1 cls d x s1 ((bk V1 os1 H1 s1 r1).perm (hb os1)) ex hq⟩
def eCall (T : FT) (tl : TrA) : TrE := fun kx env os k => tl kx env os fun ws os1 => callX T ws os1 k kx
theorem cm_call (CC : CalX X.prog X.w X.K X.mg X.base lvl x n T) (hr : Room lvl X.A) (hg : Gl X x) (ha : CmA X (e :: es) tl n) (hdb : (x == ("__debug__" : Str)) = false)
    (he : starEach (e :: es) X.env = (false, eval e X.env) :: starEach es X.env) (hpl : (backTo pos (starEach es X.env)).any (·.1) = false) : Cm X (.Call (.Name x p) (e :: es) [] pos) (eCall T tl) := by
  obtain ⟨f, fd, ps, G, hm, hk, hb⟩ := CC.ex
  intro kx env os k h F V0 H σ Q W r sr ek c
  refine wE_of (pe_callS (E := WE W) G hr hg hm hk hb (fun σ => passAt ek.tk σ) wA_pa hdb he hpl) ?_
  refine ha.2 _ _ _ _ h F V0 H σ _ W r sr ek fun V1 os1 H1 vs ws s1 r1 rs ⟨hl, q⟩ => ?_
  exact sp_of r1 rs (rs.length.trans hl) q (ek.mono s1) fun V2 os2 H2 v w s2 r2 rv q2 => c V2 os2 H2 v w (s1.trans s2) r2 rv q2
theorem pe_callS0 {CX : CXT} {sp : Sp} {E : L2.St → XK} {f : Addr} {fd : FuncData} {ps : List Str} {lv : Nat} (G : FnOk X.prog X.w X.K X.mg X.base CX lv f fd ps sp) (hr : Room lv X.A) (hg : Gl X x) (hm : X.mg x = some (.ref f)) (hk : PySem.W.keepIn X.K (.ref f) = true) (hb : Binds X.K fd ps [])
    (hx : ∀ σ, PassesAt CX X σ (E σ)) (hdb : (x == ("__debug__" : Str)) = false) : PE X (.Call (.Name x p) [] [] pos) (fun σ H Q => sp [] H Q (E σ)) :=
  ⟨fun pins s σ H Q I h => wpAny_Call_Name_kw (ld_glob I hg hm (PySem.W.callWith_K0 I.kIn hk (run_fnS (us := []) (vs := []) G hr hb (hx σ) I .nil h)) hdb)⟩
theorem cm_call0 (CC : CalX X.prog X.w X.K X.mg X.base lvl x 0 T) (hr : Room lvl X.A) (hg : Gl X x) (hdb : (x == ("__debug__" : Str)) = false) : Cm X (.Call (.Name x p) [] [] pos) (eCall T aN) := by
  obtain ⟨f, fd, ps, G, hm, hk, hb⟩ := CC.ex
  intro kx env os k h F V0 H σ Q W r sr ek c
  refine wE_of (pe_callS0 (E := WE W) G hr hg hm hk hb (fun σ => passAt ek.tk σ) hdb) ?_
  exact sp_of (vs := []) r .nil rfl h ek c

/-! ### instances -/
def lkF : Nat → List (Nat × D) → Option D
  | _, [] => none
  | i, (j, d) :: r => match Nat.beq i j with
    | true => some d
    | false => lkF i r
def putI (f : Nat) (w : D) : List (Nat × D) → List (Nat × D)
  | [] => [(f, w)]
  | (g, x) :: r => match Nat.beq g f with
    | true => (g, w) :: r
    | false => (g, x) :: putI f w r
theorem rf_lookup {K : PySem.W.Frag} {V0 : Hp} {f : Nat} : ∀ {vf : List (Str × V)} {fs : List (Nat × D)}, RF K V0 vf fs → ∀ {w : D}, lkF f fs = some w → ∃ v, vf.lookup (nm f) = some v ∧ Rp K V0 v w
  | _, _, .nil, _, h => by cases h
  | (a, x) :: vf, (b, y) :: fs, .cons hq r, w, h => by
    obtain ⟨e, rw'⟩ := hq
    have e : a = nm b := e
    subst e
    unfold lkF at h
    rw [List.lookup_cons]
    split at h
    · rename_i hb
      have := Nat.eq_of_beq_eq_true hb
      subst this
      cases h
      exact ⟨x, by simp, rw'⟩
    · rename_i hb
      have ne : (nm f == nm b) = false := beq_eq_false_iff_ne.mpr fun e => by
        rw [nm_inj e] at hb
        rw [Nat.beq_refl] at hb
        cases hb
      rw [ne]
      exact rf_lookup r h
theorem rf_none {K : PySem.W.Frag} {V0 : Hp} {f : Nat} : ∀ {vf : List (Str × V)} {fs : List (Nat × D)}, RF K V0 vf fs → lkF f fs = none → vf.lookup (nm f) = none
  | _, _, .nil, h => rfl
  | (a, x) :: vf, (b, y) :: fs, .cons hq r, h => by
    obtain ⟨e, rw'⟩ := hq
    have e : a = nm b := e
    subst e
    unfold lkF at h
    rw [List.lookup_cons]
    split at h
    · cases h
    · rename_i hb
      have ne : (nm f == nm b) = false := beq_eq_false_iff_ne.mpr fun e => by
        rw [nm_inj e] at hb
        rw [Nat.beq_refl] at hb
        cases hb
      rw [ne]
      exact rf_none r h
theorem rf_put {K : PySem.W.Frag} {V0 : Hp} {f : Nat} {v : V} {w : D} (hv : Rp K V0 v w) : ∀ {vf : List (Str × V)} {fs : List (Nat × D)}, RF K V0 vf fs → RF K V0 (putF (nm f) v vf) (putI f w fs)
  | _, _, .nil => .cons ⟨rfl, hv⟩ .nil
  | (a, x) :: vf, (b, y) :: fs, .cons hq r => by
    obtain ⟨e, rw'⟩ := hq
    have e : a = nm b := e
    subst e
    show RF K V0 (if nm b = nm f then _ else _) _
    unfold putI
    by_cases hb : b = f
    · subst hb
      rw [if_pos rfl, Nat.beq_refl]; exact .cons ⟨rfl, hv⟩ r
    · rw [if_neg fun e => hb (nm_inj e), show Nat.beq b f = false from Bool.eq_false_iff.mpr fun e => hb (Nat.eq_of_beq_eq_true e)]
      exact .cons ⟨rfl, rw'⟩ (rf_put hv r)
/-- e.f, of an instance of one of the classes -/
def eFld (Cs : List Addr) (f : Nat) (to : TrE) : TrE := fun kx env os k => to kx env os fun w os1 => match w with
  | .ref a => ∃ (n : Nat) (C : Addr) (fs : List (Nat × D)) (y : D), os1[n]? = some (a, OO.ins C fs) ∧ C ∈ Cs ∧ lkF f fs = some y ∧ k y os1
  | _ => False
theorem cm_fld {Cs : List Addr} {f : Nat} {fx : Str} (hf : fx = nm f) (hc : ∀ C ∈ Cs, Cls X.K C ∧ NoAttr X.K C fx) (h : Cm X e to) (hb : attributeBase e fx X.env (eval e X.env) = eval e X.env) : Cm X (.Attribute e fx pos) (eFld Cs f to) := by
  subst hf
  intro kx env os k q F V0 H σ Q W r sr ek cc
  refine wE_of (pe_fld wE_pe hb) ?_
  refine h _ _ _ _ q F V0 H σ _ W r sr ek fun V1 os1 H1 v w s1 r1 rv q => ?_
  split at q
  · obtain ⟨n, C, fs, y, ho, hC, hl, q⟩ := q
    obtain ⟨c, na⟩ := hc C hC
    obtain rfl := rv.toRef
    obtain ⟨_, _, ho', h3, dx, vf, rfl, h4⟩ := r1.own _ (List.mem_of_getElem? ho)
    obtain ⟨u, e2, ru⟩ := rf_lookup h4 hl
    exact ⟨_, C, dx, vf, u, rfl, h3, c, na, e2, cc V1 os1 H1 u y s1 r1 ru q⟩
  · exact q.elim
/-- o.f = value: the value first -/
def sFld (Cs : List Addr) (f : Nat) (to tv : TrE) : TrS := fun N R env os => tv (R.xk env) env os fun y os1 => to (R.xk env) env os1 fun w os2 => match w with
  | .ref a => ∃ (n : Nat) (C : Addr) (fs : List (Nat × D)), os2[n]? = some (a, OO.ins C fs) ∧ C ∈ Cs ∧ fs.length < 1000 ∧ N env (os2.set n (a, .ins C (putI f y fs)))
  | _ => False
theorem c1_fld {Cs : List Addr} {f : Nat} {fx : Str} (hf : fx = nm f) (hc : ∀ C ∈ Cs, Cls X.K C ∧ NoAttr X.K C fx) (ho : Cm X o to) (hv : Cm X value te)
    (hs : swapsWith value (some (.Attribute o fx pos')) pos.line X.env = pure false) : CmS X (.Assign [.Attribute o fx pos'] value pos) (sFld Cs f to te) := by
  subst hf
  intro N R env os q F V0 H σ D W r sr ek
  refine wS1_of (ps_fld wE_pe wE_pe hs) ?_
  refine hv _ _ _ _ q F V0 H σ _ W r sr (ek.xk sr) fun V1 os1 H1 v y s1 r1 rv q1 => ?_
  refine ho _ _ _ _ q1 F V1 H1 σ _ W r1 (sr.mono s1) ((ek.xk sr).mono s1) fun V2 os2 H2 u w2 s2 r2 ru q => ?_
  split at q
  · obtain ⟨n, C, fs, ho, hC, hl, q⟩ := q
    obtain ⟨c, na⟩ := hc C hC
    obtain rfl := ru.toRef
    obtain ⟨_, _, ho', h3, dx, vf, rfl, h4⟩ := r2.own _ (List.mem_of_getElem? ho)
    refine ⟨_, C, dx, vf, rfl, h3, c, na, by rw [Paired.length h4]; exact hl, ?_⟩
    exact ek.nx V2 _ _ _ _ (s1.trans s2) (r2.mut ho (oo' := .ins C (putI f y fs)) ⟨dx, _, rfl, rf_put (rv.mono s2) h4⟩) ((sr.mono s1).mono s2) q
  · exact q.elim
/-- o.m(..) of the class at C -/
def insK (C : Addr) (m : Nat) (w : D) (os : Os) (k : Prop) : Prop := match w with
  | .ref a => (∃ (n : Nat) (fs : List (Nat × D)), os[n]? = some (a, OO.ins C fs) ∧ lkF m fs = none) ∧ k
  | _ => False
theorem insK_of {m : Nat} {w : D} {kk : Prop} (h : insK C m w os kk) : ∃ (a : Addr) (n : Nat) (fs : List (Nat × D)), w = .ref a ∧ os[n]? = some (a, OO.ins C fs) ∧ lkF m fs = none ∧ kk := by
  unfold insK at h
  split at h
  · obtain ⟨⟨n, fs, h1, h2⟩, q⟩ := h
    exact ⟨_, n, fs, rfl, h1, h2, q⟩
  · exact h.elim
def eMeth (C : Addr) (m : Nat) (T : FT) (to : TrE) (tl : TrA) : TrE := fun kx env os k => to kx env os fun w os1 => insK C m w os1 (tl kx env os1 fun ws os2 => callX T (w :: ws) os2 k kx)
def tMethS (C : Addr) (m : Str) (sp : Sp) (E : L2.St → XK) (ta : TE) (t : TA) : TE := fun σ H Q => ta σ H fun x H1 => ∃ (a dx : Addr) (fs : List (Str × V)), x = .ref a ∧ H1 a = some (.ins C dx fs) ∧ fs.lookup m = none ∧ t σ H1 fun vs H2 => sp (x :: vs) H2 Q (E σ)
theorem pe_methS {CX : CXT} {sp : Sp} {E : L2.St → XK} {f : Addr} {fd : FuncData} {ps : List Str} {ta : TE} {t : TA} {pl : Sem Bool} (he : PE X o ta) (c : Cls X.K C) (hm : Meth X.K C m f) (G : FnOk X.prog X.w X.K X.mg X.base CX lvl f fd ps sp) (hr : Room lvl X.A) (hb : Binds X.K fd ps []) (hx : ∀ σ, PassesAt CX X σ (E σ)) (ha : PA X (e :: es) t)
    (hst : starEach (e :: es) X.env = (false, eval e X.env) :: starEach es X.env) (hpl : (backTo pos (starEach es X.env)).any (·.1) = false)
    (ht : eval (.Call (.Attribute o m apos) (e :: es) [] pos) X.env = (do
      let ov ← eval o X.env
      standAt apos.atName
      let (f, first) ← holding [ov] (getMethod ov m pl)
      callWith pos f first (backTo pos (starEach (e :: es) X.env)) (backToKw pos (keywordEach [] X.env)))) : PE X (.Call (.Attribute o m apos) (e :: es) [] pos) (tMethS C m sp E ta t) := by
  refine ⟨fun pins s σ H Q I h => PySem.W.methodCall_KW (pl := pl) (thn (he.run pins s σ H _ I h) fun u s1 ⟨x, H1, I1, rx, a, dx, fs, ex, ea, l, q⟩ => ?_) ht⟩
  subst ex
  obtain rfl : u = Value.ref a := rx
  refine getmeth_ok I1 ea c hm l (PySem.W.callWith_K (h₀ := X.base) (first := [.ref a]) I1.ok.mod.kin hm.kp (thn (ha.run pos pins _ σ H1 _ (I1.tok _) q) fun us s2 ⟨vs, H2, I2, r2, q2⟩ => ⟨I2.kIn, ?_⟩) hst hpl)
  exact run_fnS (us := .ref a :: us) (vs := .ref a :: vs) G hr hb (hx σ) I2 (.cons rfl r2) q2
theorem pe_methS0 {CX : CXT} {sp : Sp} {E : L2.St → XK} {f : Addr} {fd : FuncData} {ps : List Str} {ta : TE} {pl : Sem Bool} (he : PE X o ta) (c : Cls X.K C) (hm : Meth X.K C m f) (G : FnOk X.prog X.w X.K X.mg X.base CX lvl f fd ps sp) (hr : Room lvl X.A) (hb : Binds X.K fd ps []) (hx : ∀ σ, PassesAt CX X σ (E σ))
    (ht : eval (.Call (.Attribute o m apos) [] [] pos) X.env = (do
      let ov ← eval o X.env
      standAt apos.atName
      let (f, first) ← holding [ov] (getMethod ov m pl)
      callWith pos f first (backTo pos (starEach [] X.env)) (backToKw pos (keywordEach [] X.env)))) : PE X (.Call (.Attribute o m apos) [] [] pos) (tMethS C m sp E ta tNil) := by
  refine ⟨fun pins s σ H Q I h => PySem.W.methodCall_KW (pl := pl) (thn (he.run pins s σ H _ I h) fun u s1 ⟨x, H1, I1, rx, a, dx, fs, ex, ea, l, q⟩ => ?_) ht⟩
  subst ex
  obtain rfl : u = Value.ref a := rx
  exact getmeth_ok I1 ea c hm l (PySem.W.callWith_K0 (first := [.ref a]) I1.kIn hm.kp (run_fnS (us := [.ref a]) (vs := [.ref a]) G hr hb (hx σ) I1 (.cons rfl .nil) q))
theorem cm_meth {mi : Nat} {pl : Sem Bool} (M : CalM X.prog X.w X.K X.mg X.base lvl C m (n + 1) T) (hmi : m = nm mi) (c : Cls X.K C) (hr : Room lvl X.A) (ho : Cm X o to) (ha : CmA X (e :: es) tl n)
    (hst : starEach (e :: es) X.env = (false, eval e X.env) :: starEach es X.env) (hpl : (backTo pos (starEach es X.env)).any (·.1) = false)
    (ht : eval (.Call (.Attribute o m apos) (e :: es) [] pos) X.env = (do
      let ov ← eval o X.env
      standAt apos.atName
      let (f, first) ← holding [ov] (getMethod ov m pl)
      callWith pos f first (backTo pos (starEach (e :: es) X.env)) (backToKw pos (keywordEach [] X.env)))) : Cm X (.Call (.Attribute o m apos) (e :: es) [] pos) (eMeth C mi T to tl) := by
  obtain ⟨f, fd, ps, G, hm, hb⟩ := M.ex
  subst hmi
  intro kx env os k h F V0 H σ Q W r sr ek cc
  refine wE_of (pe_methS (E := WE W) (pl := pl) wE_pe c hm G hr hb (fun σ => passAt ek.tk σ) wA_pa hst hpl ht) ?_
  refine ho _ _ _ _ h F V0 H σ _ W r sr ek fun V1 os1 H1 v w s1 r1 rv q => ?_
  obtain ⟨a, n0, fs, rfl, ho', hl, q⟩ := insK_of q
  obtain rfl := rv.toRef
  obtain ⟨_, _, ho2, h3, dx, vf, rfl, h4⟩ := r1.own _ (List.mem_of_getElem? ho')
  refine ⟨a, dx, vf, rfl, h3, rf_none h4 hl, ?_⟩
  refine ha.2 _ _ _ _ q F V1 H1 σ _ W r1 (sr.mono s1) (ek.mono s1) fun V2 os2 H2 vs ws s2 r2 rs ⟨hl2, q⟩ => ?_
  exact sp_of (vs := .ref a :: vs) r2 (.cons (.ref a) rs) (by rw [List.length_cons, rs.length, hl2]) q (ek.mono (s1.trans s2)) fun V3 os3 H3 v3 w3 s3 r3 rv3 q2 => cc V3 os3 H3 v3 w3 ((s1.trans s2).trans s3) r3 rv3 q2
theorem cm_meth0 {mi : Nat} {pl : Sem Bool} (M : CalM X.prog X.w X.K X.mg X.base lvl C m 1 T) (hmi : m = nm mi) (c : Cls X.K C) (hr : Room lvl X.A) (ho : Cm X o to)
    (ht : eval (.Call (.Attribute o m apos) [] [] pos) X.env = (do
      let ov ← eval o X.env
      standAt apos.atName
      let (f, first) ← holding [ov] (getMethod ov m pl)
      callWith pos f first (backTo pos (starEach [] X.env)) (backToKw pos (keywordEach [] X.env)))) : Cm X (.Call (.Attribute o m apos) [] [] pos) (eMeth C mi T to aN) := by
  obtain ⟨f, fd, ps, G, hm, hb⟩ := M.ex
  subst hmi
  intro kx env os k h F V0 H σ Q W r sr ek cc
  refine wE_of (pe_methS0 (E := WE W) (pl := pl) wE_pe c hm G hr hb (fun σ => passAt ek.tk σ) ht) ?_
  refine ho _ _ _ _ h F V0 H σ _ W r sr ek fun V1 os1 H1 v w s1 r1 rv q => ?_
  obtain ⟨a, n0, fs, rfl, ho', hl, q⟩ := insK_of q
  obtain rfl := rv.toRef
  obtain ⟨_, _, ho2, h3, dx, vf, rfl, h4⟩ := r1.own _ (List.mem_of_getElem? ho')
  refine ⟨a, dx, vf, rfl, h3, rf_none h4 hl, ?_⟩
  exact sp_of (vs := [.ref a]) r1 (.cons (.ref a) .nil) rfl q (ek.mono s1) fun V3 os3 H3 v3 w3 s3 r3 rv3 q2 => cc V3 os3 H3 v3 w3 (s1.trans s3) r3 rv3 q2
/-- C(..) -/
def eMake (C : Addr) (T : FT) (tl : TrA) : TrE := fun kx env os k => tl kx env os fun ws os1 => makeX T C ws os1 k kx
theorem run_makeS {CX : CXT} {sp : Sp} {E : XK} {f : Addr} {fd : FuncData} {ps : List Str} {pins : List (Addr × Obj)} {σ : L2.St} {H : Hp} {s : Shared} {Q : VK} {us : List Value} {vs : List V} (M : Mk X.K C f) (G : FnOk X.prog X.w X.K X.mg X.base CX lvl f fd ps sp) (hr : Room (lvl + 1) X.A) (hb : Binds X.K fd ps [])
    (hx : PassesAt CX X σ E) (I : Inv X pins σ H s) (rv : Vals vs us)
    (h : ∀ x dx, H x = none → H dx = none → dx ≠ x → sp (.ref x :: vs) (upd (upd H dx (.own x)) x (.ins C dx [])) (fun v H2 => v = .non ∧ Q (.ref x) H2) E) :
    wpAny (model X.prog X.w) X.A (call (.ref C) us) (EP X pins σ Q) X.xe s := by
  obtain ⟨z, hz⟩ : ∃ z, z = s.heap.objs.size := ⟨_, rfl⟩
  have hq := h (s.heap.objs.size + 1) s.heap.objs.size (I.hok.fresh (Nat.le_add_right _ 1)) (I.hok.fresh (Nat.le_refl _)) (Nat.ne_of_lt (Nat.lt_add_one _))
  have I2 := Inv.made (C := C) I
  have r2 : Vals (V.ref (s.heap.objs.size + 1) :: vs) (Value.ref (s.heap.objs.size + 1) :: us) := .cons rfl rv
  have hl : (Value.ref (s.heap.objs.size + 1) :: us).length = ps.length := r2.length.symm.trans (G.len _ _ _ _ hq)
  have bd := hb _ (Value.ref (s.heap.objs.size + 1) :: us) I2.kIn (by rw [List.append_nil]; exact hl)
  rw [List.append_nil] at bd
  refine wpAny_call (make_map (f := f) I.kIn M.makes M.init (beq_iff_eq.mp M.fn) (codeAny_mono (G.run _ X.stack _ _ ⟨Value.ref (s.heap.objs.size + 1) :: us, []⟩ (Value.ref (s.heap.objs.size + 1) :: us) _ _ E (hr.make C us []) (I2.env0.make C us []) bd r2 hq) fun r s' hq' => ?_))
  cases r with
  | error e => exact hx pins _ _ e s' I2 hq'
  | ok fl =>
    cases fl with
    | ret u =>
      obtain ⟨v, H', I3, rv, ev, q3⟩ := I2.after hq'
      subst ev
      exact ⟨rv, V.ref (s.heap.objs.size + 1), H', I3, rfl, q3⟩
    | next => exact hq'.elim
    | brk => exact hq'.elim
    | cont => exact hq'.elim
theorem made_of {F V0 H : Hp} {σ : L2.St} {vs : List V} {ws : List D} {kx : Kx} {W : WX} {Q : VK} (r : Rel X.K F V0 os H) (rs : RpA X.K V0 vs ws) (hl : vs.length + 1 = n) (q : makeX T C ws os k kx) (ek : XkOk X F V0 σ kx W)
    (c : ∀ (V1 : Hp) (os1 : Os) (H1 : Hp) (v : V) (w : D), Same V0 V1 → Rel X.K F V1 os1 H1 → Rp X.K V1 v w → k w os1 → Q v H1) (x dx : Addr) (hx : H x = none) (hd : H dx = none) (ne : dx ≠ x) :
    spX X.K n T (.ref x :: vs) (upd (upd H dx (.own x)) x (.ins C dx [])) (fun v H2 => v = .non ∧ Q (.ref x) H2) (WE W σ) := by
  rw [makeX_eq] at q
  obtain ⟨of, or, back, hp, hb, hT⟩ := q
  have sh : Same H (upd H dx (.own x)) := same_upd hd
  have r0 := r.perm hp
  have q1 : Rel X.K F V0 (of ++ or) (upd H dx (.own x)) := ⟨r0.fr.trans sh, r0.vi.trans sh, r0.fv, fun z hz => let ⟨h1, h2, ho, h3, h4⟩ := r0.own z hz; ⟨h1, h2, ho, sh _ _ h3, h4⟩, r0.nd⟩
  have r2 : Rel X.K F V0 (((x, OO.ins C []) :: of) ++ or) (upd (upd H dx (.own x)) x (.ins C dx [])) := q1.addO (by rw [upd_ne (Ne.symm ne)]; exact hx) ⟨dx, [], rfl, .nil⟩
  obtain ⟨F2, r3, bk⟩ := Rel.frame (of := (x, OO.ins C []) :: of) (or := or) r2
  refine ⟨hl, F2, V0, _, .ref x :: ws, _, _, r3, .cons (.ref x) rs, hT x, fun V3 os3 H3 v3 w3 s3 r4 rv3 hq => ?_, fun V1 os1 H1 cls d y s1 r1 ex hq => ek.ex V1 _ H1 cls d y s1 ((bk V1 os1 H1 s1 r1).perm (hb os1)) ex hq⟩
  split at hq
  · cases rv3
    exact ⟨rfl, c V3 _ H3 (.ref x) (.ref x) s3 ((bk V3 os3 H3 s3 r4).perm (hb os3)) (.ref x) hq⟩
  · exact hq.elim
theorem cm_make (M : CalI X.prog X.w X.K X.mg X.base lvl C x (n + 1) T) (hr : Room (lvl + 1) X.A) (hg : Gl X x) (ha : CmA X (e :: es) tl n) (hdb : (x == ("__debug__" : Str)) = false)
    (he : starEach (e :: es) X.env = (false, eval e X.env) :: starEach es X.env) (hpl : (backTo pos (starEach es X.env)).any (·.1) = false) : Cm X (.Call (.Name x p) (e :: es) [] pos) (eMake C T tl) := by
  obtain ⟨f, fd, ps, G, mk, hb, hm⟩ := M.ex
  intro kx env os k h F V0 H σ Q W r sr ek c
  refine wE_mk fun pins s I => ?_
  refine wpAny_Call_Name_kw (ld_glob I hg hm ?_ hdb)
  refine PySem.W.callWith_K (h₀ := X.base) I.ok.mod.kin mk.kp (thn (wA_pa.run pos pins s σ H (fun vs H1 => ∀ x dx, H1 x = none → H1 dx = none → dx ≠ x → spX X.K (n + 1) T (.ref x :: vs) (upd (upd H1 dx (.own x)) x (.ins C dx [])) (fun v H2 => v = .non ∧ Q (.ref x) H2) (WE W σ)) I ?_) fun us s1 ⟨vs, H1, I1, rv, q⟩ => ⟨I1.kIn, run_makeS mk G hr hb (passAt ek.tk σ) I1 rv q⟩) he hpl
  exact ha.2 _ _ _ _ h F V0 H σ _ W r sr ek fun V1 os1 H1 vs ws s1 r1 rs ⟨hl, q⟩ => made_of r1 rs (by rw [rs.length, hl]) q (ek.mono s1) fun V2 os2 H2 v w s2 r2 rv q2 => c V2 os2 H2 v w (s1.trans s2) r2 rv q2
theorem cm_make0 (M : CalI X.prog X.w X.K X.mg X.base lvl C x 1 T) (hr : Room (lvl + 1) X.A) (hg : Gl X x) (hdb : (x == ("__debug__" : Str)) = false) : Cm X (.Call (.Name x p) [] [] pos) (eMake C T aN) := by
  obtain ⟨f, fd, ps, G, mk, hb, hm⟩ := M.ex
  intro kx env os k h F V0 H σ Q W r sr ek c
  refine wE_mk fun pins s I => ?_
  refine wpAny_Call_Name_kw (ld_glob I hg hm ?_ hdb)
  exact PySem.W.callWith_K0 I.kIn mk.kp (run_makeS (us := []) (vs := []) mk G hr hb (passAt ek.tk σ) I .nil (made_of (vs := []) r .nil rfl h ek c))
end

/-! ### the end -/
/-- the law's own promise -/
theorem law_spX (K : PySem.W.Frag) (T : FT) (hT : ∀ ns : List Int, ns.length ≤ 63 → T [.lst (ns.map D.int)] [] (fun w _ => w = .bl true) (fun _ _ => False)) (H : Hp) (a : Addr) (ns : List Int) (h : ns.length ≤ 63) (hs : SqL K H a (ns.map V.int)) :
    spX K 1 T [.ref a] H (fun v _ => v = .bl true) fun _ _ _ => False := by
  refine ⟨rfl, fun _ => none, H, [], [.lst (ns.map D.int)], fun d _ => d = .bl true, fun _ _ => False, ⟨(fun a o e => by cases e), Same.refl _, (fun a o e => by cases e), fun p hp => absurd hp (by simp), by simp⟩, .cons (.lst hs (rpA_ints ns)) .nil, hT ns h,
    fun V1 os1 H1 v d _ _ rv q => ?_, fun _ _ _ _ _ _ _ _ _ z => z.elim⟩
  subst q
  cases rv
  rfl
theorem glb_int {K : PySem.W.Frag} {mg : Str → Option Value} {x : Str} {i : Int} {t : Tok} (h : mg x = some (.int i t)) : Glb K mg x (.int i) := ⟨.int i, _, h, ⟨t, rfl⟩, fun _ => .int i⟩
theorem glb_str {K : PySem.W.Frag} {mg : Str → Option Value} {x : Str} {i : Str} {t : Tok} (h : mg x = some (.str i t)) : Glb K mg x (.str i) := ⟨.str i, _, h, ⟨t, rfl⟩, fun _ => .str i⟩
theorem cx_no {P : Program} {w : World} {H : Hp} {s : Shared} {e : Value} {s' : Shared} (h : L2.CX P w [] H s (fun _ _ _ => False) e s') : False := by
  obtain ⟨_, _, _, _, _, _, _, _, _, _, _, _, z⟩ := h
  exact z
end EV

set_option Elab.async false
set_option linter.all false
set_option maxRecDepth 100000
/-! E7: further rules; what helps to read transformers. -/
namespace EV
open PySem PySem.Spec PyProof.Rows L2
theorem fl1 {A : Addr} {P : Addr → Prop} (h : P A) : ∀ C ∈ [A], P C := fun C hC => by rw [List.mem_singleton] at hC; exact hC ▸ h
theorem fl2 {A B : Addr} {P : Addr → Prop} (h : P A) (h2 : P B) : ∀ C ∈ [A, B], P C := fun C hC => by
  rcases List.mem_cons.mp hC with e | e
  · exact e ▸ h
  · exact fl1 h2 C e
theorem fl3 {A B D : Addr} {P : Addr → Prop} (h : P A) (h2 : P B) (h3 : P D) : ∀ C ∈ [A, B, D], P C := fun C hC => by
  rcases List.mem_cons.mp hC with e | e
  · exact e ▸ h
  · exact fl2 h2 h3 C e
theorem fl4 {A B D E : Addr} {P : Addr → Prop} (h : P A) (h2 : P B) (h3 : P D) (h4 : P E) : ∀ C ∈ [A, B, D, E], P C := fun C hC => by
  rcases List.mem_cons.mp hC with e | e
  · exact e ▸ h
  · exact fl3 h2 h3 h4 C e
section
variable {X : Cx} {tge a b c3 : Expr} {p pos : Pos} {ta tb tc : TrE}
/-- range(i, j, c) -/
def iR3 (ta tb tc : TrE) : TrI := fun kx env os ki => ta kx env os fun w os1 => tb kx env os1 fun u os2 => tc kx env os2 fun v os3 => match w with
  | .int i => (match u with
    | .int j => (match v with
      | .int c => ∃ n, RgC i j c n ∧ ki (rng i c n) none os3
      | _ => False)
    | _ => False)
  | _ => False
theorem ci_range3 (hg : Gl X "range") (hm : X.mg "range" = none) (h : Cm X a ta) (h2 : Cm X b tb) (h3 : Cm X c3 tc)
    (hs : starEach [a, b, c3] X.env = (false, eval a X.env) :: starEach [b, c3] X.env) (hs2 : starEach [b, c3] X.env = (false, eval b X.env) :: starEach [c3] X.env) (hs3 : starEach [c3] X.env = (false, eval c3 X.env) :: starEach [] X.env) (hpl : (backTo pos (starEach [b, c3] X.env)).any (·.1) = false) : CmI X tge (.Call (.Name "range" p) [a, b, c3] [] pos) (iR3 ta tb tc) := by
  intro kx env os ki q F V0 H σ R W r sr ek c
  refine wPI_of (pi_range3 hg hm (pa_cons wE_pe (pa_cons wE_pe (pa_cons wE_pe pa_nil hs3) hs2) hs) hs hpl) ?_
  refine h _ _ _ _ q F V0 H σ _ W r sr ek fun V1 os1 H1 v w s1 r1 rv q => ?_
  refine h2 _ _ _ _ q F V1 H1 σ _ W r1 (sr.mono s1) (ek.mono s1) fun V2 os2 H2 u y s2 r2 ru q => ?_
  refine h3 _ _ _ _ q F V2 H2 σ _ W r2 (sr.mono (s1.trans s2)) (ek.mono (s1.trans s2)) fun V3 os3 H3 u3 y3 s3 r3 ru3 q => ?_
  split at q
  · split at q
    · split at q
      · obtain ⟨n, hr, q⟩ := q
        cases rv; cases ru; cases ru3
        exact ⟨_, _, _, n, rfl, hr, c V3 os3 H3 _ _ _ ((s1.trans s2).trans s3) r3 (gi_rngC _ _ n) q⟩
      · exact q.elim
    · exact q.elim
  · exact q.elim
end
end EV

set_option Elab.async false
set_option linter.all false
set_option maxRecDepth 100000
/-! E9: dicts with keys that are ints or texts. -/
namespace EV
open PySem PySem.Spec PyProof.Rows L2

def valD (kvs : List (Key × D)) (k : Key) : Option D := match kvs with
  | [] => none
  | (j, d) :: r => if j = k then some d else valD r k
def putD (kvs : List (Key × D)) (k : Key) (d : D) : List (Key × D) := if (valD kvs k).isSome = true then kvs.map (fun kv => if kv.1 = k then (kv.1, d) else kv) else kvs ++ [(k, d)]
def delD (kvs : List (Key × D)) (k : Key) : List (Key × D) := kvs.filter fun kv => decide (kv.1 ≠ k)
def dOfK : Key → D
  | .inl i => .int i
  | .inr x => .str x
theorem rp_ofK {K : PySem.W.Frag} {H : Hp} (k : Key) : Rp K H (kV k) (dOfK k) := by
  cases k with
  | inl i => exact .int i
  | inr x => exact .str x
section
variable {K : PySem.W.Frag} {H : Hp}
theorem RpK.length : ∀ {xs : List (Key × V)} {ds : List (Key × D)}, RpK K H xs ds → xs.length = ds.length
  | _, _, .nil => rfl
  | _, _, .cons _ r => congrArg (· + 1) (RpK.length r)
theorem RpK.val : ∀ {xs : List (Key × V)} {ds : List (Key × D)} {k : Key}, RpK K H xs ds → (∀ d, valD ds k = some d → ∃ v, valV xs k = some v ∧ Rp K H v d) ∧ (valD ds k = none → valV xs k = none)
  | _, _, _, .nil => ⟨fun d h => (nomatch h), fun _ => rfl⟩
  | _, _, k, .cons (k := j) (v := v) (vs := vs) (d := d) (ds := ds) h r => by
    have ih := RpK.val (k := k) r
    unfold valD
    by_cases e : j = k
    · rw [if_pos e, valV_pos (p := (j, v)) e]
      exact ⟨fun d h' => ⟨v, rfl, Option.some.inj h' ▸ h⟩, fun z => (nomatch z)⟩
    · rw [if_neg e, valV_neg (p := (j, v)) e]
      exact ih
theorem RpK.isSome {xs : List (Key × V)} {ds : List (Key × D)} (r : RpK K H xs ds) (k : Key) : (valV xs k).isSome = (valD ds k).isSome := by
  obtain ⟨h1, h2⟩ := RpK.val (k := k) r
  cases e : valD ds k with
  | none => rw [h2 e]; rfl
  | some d => obtain ⟨v, e1, _⟩ := h1 d e; rw [e1]; rfl
theorem RpK.app : ∀ {xs ys : List (Key × V)} {ds es : List (Key × D)}, RpK K H xs ds → RpK K H ys es → RpK K H (xs ++ ys) (ds ++ es)
  | _, _, _, _, .nil, s => s
  | _, _, _, _, .cons h r, s => .cons h (RpK.app r s)
theorem RpK.repl {k : Key} {v : V} {w : D} (q : Rp K H v w) : ∀ {xs : List (Key × V)} {ds : List (Key × D)}, RpK K H xs ds →
    RpK K H (xs.map fun kv => if kv.1 = k then (kv.1, v) else kv) (ds.map fun kv => if kv.1 = k then (kv.1, w) else kv)
  | _, _, .nil => .nil
  | _, _, .cons (k := j) h r => by
    have ih := RpK.repl (k := k) q r
    rw [List.map_cons, List.map_cons]
    by_cases e : j = k
    · rw [if_pos e, if_pos e]; exact .cons q ih
    · rw [if_neg e, if_neg e]; exact .cons h ih
theorem RpK.put {xs : List (Key × V)} {ds : List (Key × D)} (r : RpK K H xs ds) (k : Key) {v : V} {w : D} (q : Rp K H v w) : RpK K H (putK xs k v) (putD ds k w) := by
  unfold putK putD
  rw [valV_any, r.isSome k]
  by_cases e : (valD ds k).isSome = true
  · rw [if_pos e, if_pos e]; exact RpK.repl q r
  · rw [if_neg e, if_neg e]; exact r.app (.cons q .nil)
theorem RpK.del (k : Key) : ∀ {xs : List (Key × V)} {ds : List (Key × D)}, RpK K H xs ds → RpK K H (dropK xs k) (delD ds k)
  | _, _, .nil => .nil
  | _, _, .cons (k := j) (v := v) (vs := vs) (d := d) (ds := ds) h r => by
    have ih := RpK.del k r
    unfold dropK delD at ih ⊢
    rw [List.filter_cons, List.filter_cons]
    by_cases e : j ≠ k
    · rw [if_pos (by simpa using e), if_pos (by simpa using e)]; exact .cons h ih
    · rw [if_neg (by simpa using e), if_neg (by simpa using e)]; exact ih
theorem RpK.keys : ∀ {xs : List (Key × V)} {ds : List (Key × D)}, RpK K H xs ds → xs.map (·.1) = ds.map (·.1)
  | _, _, .nil => rfl
  | _, _, .cons _ r => by rw [List.map_cons, List.map_cons, RpK.keys r]
theorem RpK.get : ∀ {xs : List (Key × V)} {ds : List (Key × D)} {i : Nat} {p : Key × D}, RpK K H xs ds → ds[i]? = some p → ∃ v, xs[i]? = some (p.1, v) ∧ Rp K H v p.2
  | _, _, _, _, .nil, e => by simp at e
  | _, _, 0, _, .cons h r, e => by simp at e; subst e; exact ⟨_, rfl, h⟩
  | _, _, i + 1, d, .cons h r, e => by
    obtain ⟨v, e1, r1⟩ := RpK.get (i := i) (p := d) r (by simpa using e)
    exact ⟨v, by simpa using e1, r1⟩
end
theorem putD_len (kvs : List (Key × D)) (k : Key) (d : D) : (putD kvs k d).length ≤ kvs.length + 1 := by
  unfold putD
  split
  · rw [List.length_map]; exact Nat.le_succ _
  · rw [List.length_append]; exact Nat.le_refl _
/-- a dict at hand: data or owned -/
def dctK (w : D) (os : Os) (k : List (Key × D) → Prop) : Prop := match w with
  | .dK kvs => k kvs
  | .ref p => ∃ (n : Nat) (kvs : List (Key × D)), os[n]? = some (p, OO.dK kvs) ∧ k kvs
  | _ => False
def DctOf (os : Os) (w : D) (kvs : List (Key × D)) : Prop := match w with
  | .dK es => kvs = es
  | .ref p => ∃ n : Nat, os[n]? = some (p, OO.dK kvs)
  | _ => False
theorem dctK_of {w : D} {os : Os} {k : List (Key × D) → Prop} (h : dctK w os k) : ∃ kvs, DctOf os w kvs ∧ k kvs := by
  unfold dctK at h
  split at h
  · exact ⟨_, rfl, h⟩
  · obtain ⟨n, kvs, ho, q⟩ := h
    exact ⟨kvs, ⟨n, ho⟩, q⟩
  · exact h.elim
theorem dctOf_of {K : PySem.W.Frag} {F V0 H : Hp} {os : Os} {v : V} {w : D} {kvs : List (Key × D)} (r : Rel K F V0 os H) (rv : Rp K V0 v w) (h : DctOf os w kvs) : ∃ a vs, v = .ref a ∧ Rd H a (.dK vs) ∧ RpK K V0 vs kvs := by
  unfold DctOf at h
  split at h
  · subst h
    cases rv with
    | dK h1 h2 =>
      obtain ⟨o, h1⟩ := h1
      exact ⟨_, _, rfl, .inr ⟨o, r.vi _ _ h1⟩, h2⟩
  · obtain ⟨n, ho⟩ := h
    obtain rfl := rv.toRef
    obtain ⟨_, _, ho', h3, vs, rfl, h4⟩ := r.own _ (List.mem_of_getElem? ho)
    exact ⟨_, vs, rfl, .inl h3, h4⟩
  · exact h.elim
def keyK (y : D) (k : Key → Prop) : Prop := match y with
  | .int i => k (.inl i)
  | .str x => k (.inr x)
  | _ => False
theorem keyK_of {K : PySem.W.Frag} {V0 : Hp} {v : V} {y : D} {k : Key → Prop} (rv : Rp K V0 v y) (h : keyK y k) : ∃ ky, v = kV ky ∧ k ky := by
  unfold keyK at h
  split at h
  · cases rv; exact ⟨.inl _, rfl, h⟩
  · cases rv; exact ⟨.inr _, rfl, h⟩
  · exact h.elim
theorem dget_at {K : PySem.W.Frag} {F V0 H : Hp} {os : Os} {v u : V} {w y : D} {kk : List (Key × D) → Key → Prop} (r : Rel K F V0 os H) (rv : Rp K V0 v w) (ru : Rp K V0 u y) (h : dctK w os fun kvs => keyK y fun ky => kk kvs ky) :
    ∃ a vs kvs ky, v = .ref a ∧ RpK K V0 vs kvs ∧ DGet H a u (valV vs ky) ∧ Rd H a (.dK vs) ∧ u = kV ky ∧ DctOf os w kvs ∧ kk kvs ky := by
  obtain ⟨kvs, hd, h⟩ := dctK_of h
  obtain ⟨ky, rfl, h⟩ := keyK_of ru h
  obtain ⟨a, vs, rfl, h1, h2⟩ := dctOf_of r rv hd
  exact ⟨a, vs, kvs, ky, rfl, h2, .inl ⟨vs, ky, h1, rfl, rfl⟩, h1, rfl, hd, h⟩

section
variable {X : Cx} {kx : Kx} {env : DEnv} {os : Os} {k : D → Os → Prop} {pos pos' apos cpos tpos : Pos} {o e f i value : Expr} {to te tf ti tv : TrE} {lvl : Nat}
/-- d[k] -/
def oDGet (w y : D) (os : Os) (k : D → Os → Prop) : Prop := dctK w os fun kvs => keyK y fun ky => ∃ d, valD kvs ky = some d ∧ k d os
def eDGet (to ti : TrE) : TrE := fun kx env os k => to kx env os fun w os1 => ti kx env os1 fun y os2 => oDGet w y os2 k
theorem cm_dget (hr : Room lvl X.A) (ho : Cm X o to) (hi : Cm X i ti) (hs : NoSl i) : Cm X (.Subscript o i pos) (eDGet to ti) := by
  intro kx env os k q F V0 H σ Q W r sr ek c
  refine wE_of (pe_dget (hu_of hr) wE_pe wE_pe hs) ?_
  refine ho _ _ _ _ q F V0 H σ _ W r sr ek fun V1 os1 H1 v w s1 r1 rv q => ?_
  refine hi _ _ _ _ q F V1 H1 σ _ W r1 (sr.mono s1) (ek.mono s1) fun V2 os2 H2 u y s2 r2 ru q => ?_
  obtain ⟨a, vs, kvs, ky, rfl, rk, g, _, _, _, d, hd, q⟩ := dget_at r2 (rv.mono s2) ru q
  obtain ⟨v', e1, rv'⟩ := (rk.val (k := ky)).1 d hd
  rw [e1] at g
  exact ⟨a, v', rfl, g, c V2 os2 H2 v' d (s1.trans s2) r2 rv' q⟩
/-- k in d, k not in d -/
def oInD : TrO := fun y w os k => dctK w os fun kvs => keyK y fun ky => k (.bl (valD kvs ky).isSome) os
def oNotInD : TrO := fun y w os k => dctK w os fun kvs => keyK y fun ky => k (.bl (!(valD kvs ky).isSome)) os
theorem cmo_inD (hr : Room lvl X.A) : CmO X (compareOp .In) oInD := by
  intro y w os k h F V0 H v u Q r ry rw' c
  refine wO_mk fun pins s σ iv ov I r1 r2 => ?_
  obtain ⟨a, vs, kvs, ky, rfl, rk, g, _, _, _, q⟩ := dget_at r rw' ry h
  obtain rfl : ov = Value.ref a := r2
  refine d_in (hu_of hr) I g r1 fun s' I' => ⟨.bl _, H, I', rfl, ?_⟩
  rw [rk.isSome]
  exact c V0 os H _ _ (Same.refl _) r rwB q
theorem cmo_notInD (hr : Room lvl X.A) : CmO X (compareOp .NotIn) oNotInD := by
  intro y w os k h F V0 H v u Q r ry rw' c
  refine wO_mk fun pins s σ iv ov I r1 r2 => ?_
  obtain ⟨a, vs, kvs, ky, rfl, rk, g, _, _, _, q⟩ := dget_at r rw' ry h
  obtain rfl : ov = Value.ref a := r2
  refine d_notIn (hu_of hr) I g r1 fun s' I' => ⟨.bl _, H, I', rfl, ?_⟩
  rw [rk.isSome]
  exact c V0 os H _ _ (Same.refl _) r rwB q
/-- d.get(k), d.get(k, x) -/
def isDK (w : D) (os : Os) (k : Prop) : Prop := (∃ kvs, DctOf os w kvs) ∧ k
def oDGetO (w y z : D) (os : Os) (k : D → Os → Prop) : Prop := dctK w os fun kvs => keyK y fun ky => k ((valD kvs ky).getD z) os
def dctH (w : D) (os : Os) (k : Prop) : Prop := dctK w os fun _ => k
def eDGet1 (to te : TrE) : TrE := fun kx env os k => to kx env os fun w os1 => dctH w os1 (te kx env os1 fun y os2 => oDGetO w y .non os2 k)
def eDGet2 (to te tf : TrE) : TrE := fun kx env os k => to kx env os fun w os1 => dctH w os1 (te kx env os1 fun y os2 => tf kx env os2 fun z os3 => oDGetO w y z os3 k)
theorem isD_of {F V0 H : Hp} {v : V} {w : D} {q : Prop} (r : Rel X.K F V0 os H) (rv : Rp X.K V0 v w) (h : dctH w os q) : ∃ a, v = .ref a ∧ IsD H a ∧ q := by
  obtain ⟨kvs, hd, q⟩ := dctK_of h
  obtain ⟨a, vs, rfl, h1, h2⟩ := dctOf_of r rv hd
  exact ⟨a, rfl, .inl ⟨vs, h1⟩, q⟩
theorem getD_rp {V0 : Hp} {vs : List (Key × V)} {kvs : List (Key × D)} {ky : Key} {z : D} {zv : V} (rk : RpK X.K V0 vs kvs) (rz : Rp X.K V0 zv z) : Rp X.K V0 ((valV vs ky).getD zv) ((valD kvs ky).getD z) := by
  obtain ⟨h1, h2⟩ := rk.val (k := ky)
  cases e : valD kvs ky with
  | none => rw [h2 e]; exact rz
  | some d => obtain ⟨v, e1, rv⟩ := h1 d e; rw [e1]; exact rv
theorem cm_dget1 (hr : Room lvl X.A) (ho : Cm X o to) (he : Cm X e te) (m : M1 X o "get" apos e cpos) : Cm X (.Call (.Attribute o "get" apos) [e] [] cpos) (eDGet1 to te) := by
  intro kx env os k q F V0 H σ Q W r sr ek c
  refine wE_of (pe_dget1 (hu_of hr) wE_pe wE_pe m) ?_
  refine ho _ _ _ _ q F V0 H σ _ W r sr ek fun V1 os1 H1 v w s1 r1 rv q => ?_
  obtain ⟨a, rfl, hd, q⟩ := isD_of r1 rv q
  refine ⟨a, rfl, hd, ?_⟩
  refine he _ _ _ _ q F V1 H1 σ _ W r1 (sr.mono s1) (ek.mono s1) fun V2 os2 H2 u y s2 r2 ru q => ?_
  obtain ⟨a', vs, kvs, ky, e', rk, g, _, _, _, q⟩ := dget_at r2 (rv.mono s2) ru q
  cases e'
  exact ⟨_, g, c V2 os2 H2 _ _ (s1.trans s2) r2 (getD_rp rk .non) q⟩
theorem cm_dget2 (hr : Room lvl X.A) (ho : Cm X o to) (he : Cm X e te) (hf : Cm X f tf) (m : M2 X o "get" apos e f cpos) : Cm X (.Call (.Attribute o "get" apos) [e, f] [] cpos) (eDGet2 to te tf) := by
  intro kx env os k q F V0 H σ Q W r sr ek c
  refine wE_of (pe_dget2 (hu_of hr) wE_pe wE_pe wE_pe m) ?_
  refine ho _ _ _ _ q F V0 H σ _ W r sr ek fun V1 os1 H1 v w s1 r1 rv q => ?_
  obtain ⟨a, rfl, hd, q⟩ := isD_of r1 rv q
  refine ⟨a, rfl, hd, ?_⟩
  refine he _ _ _ _ q F V1 H1 σ _ W r1 (sr.mono s1) (ek.mono s1) fun V2 os2 H2 u y s2 r2 ru q => ?_
  refine hf _ _ _ _ q F V2 H2 σ _ W r2 ((sr.mono s1).mono s2) ((ek.mono s1).mono s2) fun V3 os3 H3 u3 z s3 r3 rz q => ?_
  obtain ⟨a', vs, kvs, ky, e', rk, g, _, _, _, q⟩ := dget_at r3 (rv.mono (s2.trans s3)) (ru.mono s3) q
  cases e'
  exact ⟨_, g, c V3 os3 H3 _ _ ((s1.trans s2).trans s3) r3 (getD_rp rk rz) q⟩
/-- an owned dict at hand, for a store -/
def dctO (w : D) (os : Os) (k : Nat → Addr → List (Key × D) → Prop) : Prop := match w with
  | .ref p => ∃ (n : Nat) (kvs : List (Key × D)), os[n]? = some (p, OO.dK kvs) ∧ k n p kvs
  | _ => False
theorem dctO_of {F V0 H : Hp} {v : V} {w : D} {kk : Nat → Addr → List (Key × D) → Prop} (r : Rel X.K F V0 os H) (rv : Rp X.K V0 v w) (h : dctO w os kk) : ∃ n p kvs vs, v = .ref p ∧ os[n]? = some (p, OO.dK kvs) ∧ H p = some (.dK vs) ∧ RpK X.K V0 vs kvs ∧ kk n p kvs := by
  unfold dctO at h
  split at h
  · obtain ⟨n, kvs, ho, q⟩ := h
    obtain rfl := rv.toRef
    obtain ⟨_, _, ho', h3, vs, rfl, h4⟩ := r.own _ (List.mem_of_getElem? ho)
    exact ⟨n, _, kvs, vs, rfl, ho, h3, h4, q⟩
  · exact h.elim
/-- d[k] = v -/
def sDPut (to ti tv : TrE) : TrS := fun N R env os => tv (R.xk env) env os fun z os1 => to (R.xk env) env os1 fun w os2 => ti (R.xk env) env os2 fun y os3 => dctO w os3 fun n p kvs => keyK y fun ky => kvs.length < sizeLine ∧ N env (os3.set n (p, .dK (putD kvs ky z)))
theorem c1_dput (hr : Room lvl X.A) (ho : Cm X o to) (hi : Cm X i ti) (hv : Cm X value tv) (hs : swapsWith value (some (.Subscript o i pos')) pos.line X.env = pure false) : CmS X (.Assign [.Subscript o i pos'] value pos) (sDPut to ti tv) := by
  intro N R env os q F V0 H σ D W r sr ek
  refine wS1_of (ps_dput (hu_of hr) wE_pe wE_pe wE_pe hs) ?_
  refine hv _ _ _ _ q F V0 H σ _ W r sr (ek.xk sr) fun V1 os1 H1 v z s1 r1 rz q => ?_
  refine ho _ _ _ _ q F V1 H1 σ _ W r1 (sr.mono s1) ((ek.xk sr).mono s1) fun V2 os2 H2 u w s2 r2 rw' q => ?_
  refine hi _ _ _ _ q F V2 H2 σ _ W r2 ((sr.mono s1).mono s2) (((ek.xk sr).mono s1).mono s2) fun V3 os3 H3 iv y s3 r3 ry q => ?_
  obtain ⟨n, p, kvs, vs, rfl, ho3, h3, rk, q⟩ := dctO_of r3 (rw'.mono s3) q
  obtain ⟨ky, rfl, hl, q⟩ := keyK_of ry q
  refine ⟨p, _, rfl, .inl ⟨vs, ky, h3, rfl, by rw [rk.length]; exact hl, rfl⟩, ?_⟩
  have s := (s1.trans s2).trans s3
  exact ek.nx V3 _ _ _ _ s (r3.mut ho3 (oo' := .dK (putD kvs ky z)) ⟨_, rfl, rk.put ky (rz.mono (s2.trans s3))⟩) (sr.mono s) q
/-- del d[k] -/
def sDDel (to ti : TrE) : TrS := fun N R env os => to (R.xk env) env os fun w os2 => ti (R.xk env) env os2 fun y os3 => dctO w os3 fun n p kvs => keyK y fun ky => (valD kvs ky).isSome = true ∧ N env (os3.set n (p, .dK (delD kvs ky)))
theorem c1_ddel (ho : Cm X o to) (hi : Cm X i ti) : CmS X (.Delete [.Subscript o i tpos] pos) (sDDel to ti) := by
  intro N R env os q F V0 H σ D W r sr ek
  refine wS1_of (ps_ddel wE_pe wE_pe) ?_
  refine ho _ _ _ _ q F V0 H σ _ W r sr (ek.xk sr) fun V2 os2 H2 u w s2 r2 rw' q => ?_
  refine hi _ _ _ _ q F V2 H2 σ _ W r2 (sr.mono s2) ((ek.xk sr).mono s2) fun V3 os3 H3 iv y s3 r3 ry q => ?_
  obtain ⟨n, p, kvs, vs, rfl, ho3, h3, rk, q⟩ := dctO_of r3 (rw'.mono s3) q
  obtain ⟨ky, rfl, hl, q⟩ := keyK_of ry q
  refine ⟨p, vs, ky, rfl, h3, rfl, by rw [rk.isSome]; exact hl, ?_⟩
  have s := s2.trans s3
  exact ek.nx V3 _ _ _ _ s (r3.mut ho3 (oo' := .dK (delD kvs ky)) ⟨_, rfl, rk.del ky⟩) (sr.mono s) q
/-- {} -/
def eDNew : TrE := fun _ _ os k => ∀ p, k (.ref p) ((p, .dK []) :: os)
theorem cm_dnew : Cm X (.Dict [] [] pos) eDNew := by
  intro kx env os k q F V0 H σ Q W r sr ek c
  refine wE_of pe_dnewK fun p hp => ?_
  exact c V0 _ _ (.ref p) _ (Same.refl _) (r.addO hp (oo := .dK []) ⟨[], rfl, .nil⟩) (.ref p) (q p)
/-- an owned dict becomes data: it is locked -/
theorem _root_.EV.Rel.freezeD {K : PySem.W.Frag} {F V0 H : Hp} {os : Os} {n : Nat} {a : Addr} {kvs : List (Key × D)} (r : Rel K F V0 os H) (h : os[n]? = some (a, .dK kvs)) :
    ∃ vs, H a = some (.dK vs) ∧ ∀ od, ∃ V1, Same V0 V1 ∧ Rel K F V1 (os.eraseIdx n) (upd H a (.frz od (.dK vs))) ∧ Rp K V1 (.ref a) (.dK kvs) := by
  obtain ⟨h1, h2, ho, h3, vs, rfl, h4⟩ := r.own _ (List.mem_of_getElem? h)
  refine ⟨vs, h3, fun od => ?_⟩
  have sv : Same V0 (upd V0 a (.frz od (.dK vs))) := same_upd h2
  have mono4 : RpK K (upd V0 a (.frz od (.dK vs))) vs kvs := RpK.mono sv h4
  refine ⟨upd V0 a (.frz od (.dK vs)), sv, ⟨fun b u e => ?_, fun b u e => ?_, fun b u e => ?_, fun q hq => ?_, r.nd.sublist ((List.eraseIdx_sublist _ _).map _)⟩, .dK ⟨od, upd_same⟩ mono4⟩
  · rw [upd_ne (ne_of_none e h1)]; exact r.fr b u e
  · by_cases hb : b = a
    · subst hb; rw [upd_same] at e ⊢; exact e
    · rw [upd_ne hb] at e ⊢; exact r.vi b u e
  · rw [upd_ne (ne_of_none e h1)]; exact r.fv b u e
  · obtain ⟨j, hj⟩ := List.getElem?_of_mem hq
    obtain ⟨k1, k2, ho', k3, k4⟩ := r.own q ((List.eraseIdx_sublist _ _).subset hq)
    have ne : q.1 ≠ a := fun e => by
      have e1 : (os.map (·.1))[n]? = some a := by rw [List.getElem?_map, h]; rfl
      rw [List.getElem?_eraseIdx] at hj
      split at hj
      · have e2 : (os.map (·.1))[j]? = some a := by rw [List.getElem?_map, hj]; exact congrArg some e
        have := nd_ix r.nd e1 e2
        omega
      · have e2 : (os.map (·.1))[j + 1]? = some a := by rw [List.getElem?_map, hj]; exact congrArg some e
        have := nd_ix r.nd e1 e2
        omega
    exact ⟨k1, by rw [upd_ne ne]; exact k2, ho', by rw [upd_ne ne]; exact k3, k4.mono sv⟩
def frzD (w : D) (os : Os) (k : D → Os → Prop) : Prop := match w with
  | .ref a => ∃ (n : Nat) (kvs : List (Key × D)), os[n]? = some (a, OO.dK kvs) ∧ k (.dK kvs) (os.eraseIdx n)
  | w => k w os
def eFrzD (t : TrE) : TrE := fun kx env os k => t kx env os fun w os1 => frzD w os1 k
theorem wE_lock {σ : L2.St} {H : Hp} {Q : VK} (h : wE X e σ H fun v H' => Q v H' ∨ ∃ d u, H' d = some u ∧ Mut (some u) ∧ ∀ od, Q v (upd H' d (.frz od u))) : wE X e σ H Q := wE_mk fun pins s I =>
  wpAny_mono (wE_run h pins s I) (fun u s' hh => by
    obtain ⟨v, H', I', ru, q | ⟨d, u', hd, mu, q⟩⟩ := hh
    · exact ⟨v, H', I', ru, q⟩
    · obtain ⟨od, I2⟩ := I'.lock hd mu
      exact ⟨v, _, I2, ru, q od⟩) fun _ _ z => z
theorem cm_frzD (h : Cm X e te) : Cm X e (eFrzD te) := by
  intro kx env os k q F V0 H σ Q W r sr ek c
  refine wE_lock ?_
  refine h _ _ _ _ q F V0 H σ _ W r sr ek fun V1 os1 H1 v w s1 r1 rv q => ?_
  unfold frzD at q
  split at q
  · obtain ⟨n, kvs, ho, q⟩ := q
    obtain rfl := rv.toRef
    obtain ⟨vs, h3, fz⟩ := r1.freezeD ho
    refine .inr ⟨_, _, h3, True.intro, fun od => ?_⟩
    obtain ⟨V2, s2, r2, rp⟩ := fz od
    exact c V2 _ _ _ _ (s1.trans s2) r2 rp q
  · exact .inl (c V1 os1 H1 v w s1 r1 rv q)
/-- for k in d, d data -/
theorem gi_keys {V1 : Hp} {a : Addr} {od : Obj} {xs : List (Key × V)} {ds : List (Key × D)} (h : V1 a = some (.frz od (.dK xs))) (r : RpK X.K V1 xs ds) : GI X.K V1 (Itk a od xs) (ds.map fun kv => dOfK kv.1) none := by
  have hl := r.length
  refine ⟨fun i F V2 os H s2 r2 _ hi => ⟨(s2.trans r2.vi) _ _ h, by rw [List.length_map] at hi; omega⟩, fun i F V2 os H s2 r2 _ hi => ⟨(s2.trans r2.vi) _ _ h, by rw [List.length_map] at hi; omega⟩, fun i F V2 os H x H' w s2 r2 _ y e => ?_⟩
  obtain ⟨rfl, ky, v, y, rfl⟩ := y
  rw [List.getElem?_map] at e
  obtain ⟨p, e1, rfl⟩ := Option.map_eq_some_iff.mp e
  obtain ⟨v', e2, _⟩ := r.get e1
  rw [y] at e2
  cases e2
  exact ⟨V2, Same.refl _, r2, rp_ofK _⟩
def iDct (te : TrE) : TrI := fun kx env os ki => te kx env os fun w os1 => match w with
  | .dK kvs => ki (kvs.map fun kv => dOfK kv.1) none os1
  | _ => False
theorem ci_dct {tg : Expr} (h : Cm X e te) : CmI X tg e (iDct te) := by
  intro kx env os ki q F V0 H σ R W r sr ek c
  refine wPI_of (pi_keys wE_pe) ?_
  refine h _ _ _ _ q F V0 H σ _ W r sr ek fun V1 os1 H1 v w s1 r1 rv q => ?_
  split at q
  · cases rv with
    | dK h1 h2 =>
      obtain ⟨od, h1⟩ := h1
      exact ⟨_, od, rfl, .inl ⟨_, r1.vi _ _ h1, c V1 os1 H1 _ _ none s1 r1 (gi_keys h1 h2) q⟩⟩
  · exact q.elim
/-- len(d) -/
def cLenD : TrC := fun ws os k => match ws with
  | [w] => dctK w os fun kvs => k (.int kvs.length) os
  | _ => False
theorem cmc_lenD : CmC X (.builtin "len") cLenD := by
  intro ws os k h
  unfold cLenD at h
  split at h
  · intro F V0 H vs Q r rs c pins s σ us I rv
    obtain ⟨v, rfl, rw'⟩ := rs.one
    obtain ⟨kvs, hd, q⟩ := dctK_of h
    obtain ⟨a, xs, rfl, h1, h2⟩ := dctOf_of r rw' hd
    obtain ⟨u, rfl, ru⟩ := rv.one
    obtain rfl : u = Value.ref a := ru
    refine d_len I h1 fun t s' I' => ⟨.int xs.length, H, I', ⟨t, rfl⟩, ?_⟩
    rw [h2.length]
    exact c V0 os H _ _ (Same.refl _) r rwI q
  · exact h.elim
/-- dict(d): an owned copy -/
def cDictO : TrC := fun ws os k => match ws with
  | [w] => dctK w os fun kvs => ∀ p, k (.ref p) ((p, .dK kvs) :: os)
  | _ => False
theorem cmc_dictO : CmC X (.type "dict") cDictO := by
  intro ws os k h
  unfold cDictO at h
  split at h
  · refine JC.mk call_dictD fun F V0 H vs Q r rs c => ?_
    obtain ⟨v, rfl, rw'⟩ := rs.one
    obtain ⟨kvs, hd, q⟩ := dctK_of h
    obtain ⟨a, xs, rfl, h1, h2⟩ := dctOf_of r rw' hd
    exact ⟨a, xs, rfl, h1, fun p hp => c V0 _ _ (.ref p) (.ref p) (Same.refl _) (r.addO hp (oo := .dK kvs) ⟨xs, rfl, h2⟩) (.ref p) (q p)⟩
  · exact h.elim
/-- isinstance(x, T), x a dict -/
def cIsiD : TrC := fun ws os k => match ws with
  | [w, .ty m] => dctK w os fun _ => ∃ b, kitB "dict" m = some b ∧ k (.bl b) os
  | _ => False
theorem cmc_isiD : CmC X (.builtin "isinstance") cIsiD := by
  intro ws os k h
  unfold cIsiD at h
  split at h
  · rename_i w m
    refine JC.mk call_isi fun F V0 H vs Q r rs c => ?_
    obtain ⟨v, v2, rfl, rv, rv2⟩ := rs.two
    cases rv2
    obtain ⟨kvs, hd, b, hb, q⟩ := dctK_of h
    obtain ⟨a, xs, rfl, h1, h2⟩ := dctOf_of r rv hd
    have t : TyX X.K H (.ref a) (.type "dict") := by
      rcases h1 with h1 | ⟨o, h1⟩
      · exact .base (.dK h1)
      · exact .fDict h1
    exact ⟨_, .ty m, _, _, b, rfl, .ty m, t, kit_ty hb, c V0 os H _ _ (Same.refl _) r rwB q⟩
  · exact h.elim
/-- two dicts that hold the same (ints, texts, bools, None) -/
def eqDK (ks ls : List (Key × D)) : Prop := ks.length = ls.length ∧ ∀ p ∈ ks, valD ls p.1 = some p.2 ∧ isScal p.2 = true
theorem hits_D {V0 : Hp} {P : Program} {w : World} {A : Around} {s : Shared} {lv : List (Key × Value)} {xs ys : List (Key × V)} {ks ls : List (Key × D)} (ra : RpK X.K V0 xs ks) (rb : RpK X.K V0 ys ls)
    (h : ∀ p ∈ ks, valD ls p.1 = some p.2 ∧ isScal p.2 = true) : ∀ p ∈ xs, valV ys p.1 = some p.2 ∧ flatB p.2 = true := by
  intro p hp
  obtain ⟨i, hi⟩ := List.getElem?_of_mem hp
  have hl : i < ks.length := by rw [← ra.length]; exact (List.getElem?_eq_some_iff.mp hi).1
  obtain ⟨v, e1, rv⟩ := ra.get (List.getElem?_eq_getElem hl)
  rw [hi] at e1
  cases e1
  obtain ⟨h1, h2⟩ := h _ (List.getElem_mem hl)
  obtain ⟨v', e2, rv'⟩ := (rb.val (k := ks[i].1)).1 _ h1
  have ev := rp_scal h2 rv
  have ev' := rp_scal h2 rv'
  refine ⟨by rw [e2, ev, ev'], ?_⟩
  show flatB v = true
  rw [ev]
  cases hk : ks[i].2 <;> rw [hk] at h2 <;> first | rfl | cases h2
def oEqD : TrO := fun x y os k => dctK x os fun ks => dctK y os fun ls => eqDK ks ls ∧ k (.bl true) os
def oNeD : TrO := fun x y os k => dctK x os fun ks => dctK y os fun ls => eqDK ks ls ∧ k (.bl false) os
theorem cmo_eqD (hr : Room lvl X.A) : CmO X (compareOp .Eq) oEqD := by
  intro x y os k h F V0 H v u Q r rx ry c
  refine wO_mk fun pins s σ iv ov I r1 r2 => ?_
  obtain ⟨ks, hk, h⟩ := dctK_of h
  obtain ⟨ls, hl, ⟨hlen, hp⟩, q⟩ := dctK_of h
  obtain ⟨a, xs, rfl, ea, ra⟩ := dctOf_of r rx hk
  obtain ⟨b, ys, rfl, eb, rb⟩ := dctOf_of r ry hl
  obtain rfl : iv = Value.ref a := r1
  obtain rfl : ov = Value.ref b := r2
  obtain ⟨_, ya, va, ka, da⟩ := dk_rd I.hok ea
  obtain ⟨_, yb, vb, kb, db⟩ := dk_rd I.hok eb
  have hl2 : va.length = vb.length := by rw [← ka.length, ← kb.length, ra.length, rb.length]; exact hlen
  exact PySem.W.keq_eq (knd := mixKind X.prog X.w) (r := true) ya yb da db (Nat.lt_of_succ_lt (hu_of hr)) (fun _ => hits_all kb ka (hits_D (P := X.prog) (w := X.w) (A := X.A) (s := s) (lv := []) ra rb hp)) (fin_bl I (c V0 os H _ _ (Same.refl _) r rwB q) (by simp [hl2]))
theorem cmo_neD (hr : Room lvl X.A) : CmO X (compareOp .NotEq) oNeD := by
  intro x y os k h F V0 H v u Q r rx ry c
  refine wO_mk fun pins s σ iv ov I r1 r2 => ?_
  obtain ⟨ks, hk, h⟩ := dctK_of h
  obtain ⟨ls, hl, ⟨hlen, hp⟩, q⟩ := dctK_of h
  obtain ⟨a, xs, rfl, ea, ra⟩ := dctOf_of r rx hk
  obtain ⟨b, ys, rfl, eb, rb⟩ := dctOf_of r ry hl
  obtain rfl : iv = Value.ref a := r1
  obtain rfl : ov = Value.ref b := r2
  obtain ⟨_, ya, va, ka, da⟩ := dk_rd I.hok ea
  obtain ⟨_, yb, vb, kb, db⟩ := dk_rd I.hok eb
  have hl2 : va.length = vb.length := by rw [← ka.length, ← kb.length, ra.length, rb.length]; exact hlen
  exact PySem.W.keq_ne (knd := mixKind X.prog X.w) (r := true) ya yb da db (Nat.lt_of_succ_lt (hu_of hr)) (fun _ => hits_all kb ka (hits_D (P := X.prog) (w := X.w) (A := X.A) (s := s) (lv := []) ra rb hp)) (fin_bl I (c V0 os H _ _ (Same.refl _) r rwB q) (by simp [hl2]))
end
end EV

set_option Elab.async false
set_option linter.all false
set_option maxRecDepth 100000
/-! E10: dict comprehensions. -/
namespace EV
open PySem PySem.Spec PyProof.Rows L2
/-- the turns over ws, acc made so far -/
def dcW (b : TrB) (t : TrT) (tk tv : TrE) (env : DEnv) (k : List (Key × D) → Os → Prop) (gd : Gd) : List D → List (Key × D) → Os → Prop
  | [], acc, os => wkX os fun os => gK gd os (k acc os)
  | w :: ws, acc, os => wkX os fun os => gK gd os (b w env fun env1 => t kx0 env1 os fun bo os1 => (bo = true → tk kx0 env1 os1 fun y os2 => tv kx0 env1 os2 fun z os3 => keyK y fun ky => dcW b t tk tv env k gd ws (putD acc ky z) os3) ∧ (bo = false → dcW b t tk tv env k gd ws acc os1))
def dcK (k : D → Os → Prop) : List (Key × D) → Os → Prop := fun ds os => ∀ p, k (.ref p) ((p, .dK ds) :: os)
theorem tdc_of {X : Cx} {kx : Kx} {env : DEnv} {os : Os} {k : D → Os → Prop} {kxe vxe iter tg : Expr} {ifs : List Expr} {scope : Scope} {vs : List Nat} {g : TG} {bn : TrB} {tt : TrT} {tek tev : TrE} {ti : TrI}
    (hb : BindOk X.K vs g bn) (hi : CmI X tg iter ti) (ht : ∀ s H C cl fp, CmTs (Bk X scope s H C cl fp) ifs tt) (hek : ∀ s H C cl fp, Cm (Bk X scope s H C cl fp) kxe tek) (he : ∀ s H C cl fp, Cm (Bk X scope s H C cl fp) vxe tev)
    (h : ti kx env os fun ws gd os1 => ws.length ≤ sizeLine ∧ dcW bn tt tek tev (wipeE env vs) (dcK k) gd ws [] os1) {F V0 H : Hp} {σ : L2.St} {Q : VK} {W : WX} (r : Rel X.K F V0 os H) (sr : SR X.K V0 σ env) (ek : XkOk X F V0 σ kx W)
    (c : ∀ (V1 : Hp) (os1 : Os) (H1 : Hp) (v : V) (w : D), Same V0 V1 → Rel X.K F V1 os1 H1 → Rp X.K V1 v w → k w os1 → Q v H1) :
    tDc (wPI X tg iter) g (fun σ H Q => ∀ s0 H0 C cl fp, wTs (Bk X scope s0 H0 C cl fp) ifs σ H Q) (fun σ H Q => ∀ s0 H0 C cl fp, wE (Bk X scope s0 H0 C cl fp) kxe σ H Q) (fun σ H Q => ∀ s0 H0 C cl fp, wE (Bk X scope s0 H0 C cl fp) vxe σ H Q) vs σ H Q := by
  refine hi _ _ _ _ h F V0 H σ _ W r sr ek fun V1 os1 H1 J ws gd s1 r1 gi ⟨hz, q⟩ => ?_
  intro L hL
  have hFL := r1.fr.free hL
  have hVL := r1.vi.free hL
  -- the list in the frame
  have put : ∀ (acc : List (Key × V)) (V2 : Hp) (os2 : Os) (H2 : Hp), Rel X.K F V2 os2 H2 → H2 L = none → Rel X.K (upd F L (.dK acc)) V2 os2 (upd H2 L (.dK acc)) := by
    intro acc V2 os2 H2 r2 hn
    have f2 := r2.fr.free hn
    have v2 := r2.vi.free hn
    refine ⟨fun a o e => ?_, fun a o e => ?_, fun a o e => ?_, fun p hp => ?_, r2.nd⟩
    · by_cases ha : a = L
      · subst ha; rw [upd_same] at e ⊢; exact e
      · rw [upd_ne ha] at e ⊢; exact r2.fr a o e
    · rw [upd_ne (ne_of_none e v2)]
      exact r2.vi a o e
    · by_cases ha : a = L
      · subst ha; exact v2
      · rw [upd_ne ha] at e; exact r2.fv a o e
    · obtain ⟨h1, h2, ho, h3, h4⟩ := r2.own p hp
      have ne := ne_of_none h3 hn
      exact ⟨by rw [upd_ne ne]; exact h1, h2, ho, by rw [upd_ne ne]; exact h3, h4⟩
  have grow : ∀ (acc acc' : List (Key × V)) (V2 : Hp) (os2 : Os) (H2 : Hp), Rel X.K (upd F L (.dK acc)) V2 os2 H2 → Rel X.K (upd F L (.dK acc')) V2 os2 (upd H2 L (.dK acc')) := by
    intro acc acc' V2 os2 H2 r2
    have v2 : V2 L = none := r2.fv L _ upd_same
    refine ⟨fun a o e => ?_, fun a o e => ?_, fun a o e => ?_, fun p hp => ?_, r2.nd⟩
    · by_cases ha : a = L
      · subst ha; rw [upd_same] at e ⊢; exact e
      · rw [upd_ne ha] at e ⊢; exact r2.fr a o (by rw [upd_ne ha]; exact e)
    · rw [upd_ne (ne_of_none e v2)]
      exact r2.vi a o e
    · by_cases ha : a = L
      · subst ha; exact v2
      · rw [upd_ne ha] at e; exact r2.fv a o (by rw [upd_ne ha]; exact e)
    · obtain ⟨h1, h2, ho, h3, h4⟩ := r2.own p hp
      have ne : p.1 ≠ L := fun z => by rw [z, upd_same] at h1; cases h1
      exact ⟨by rw [upd_ne ne] at h1 ⊢; exact h1, h2, ho, by rw [upd_ne ne]; exact h3, h4⟩
  refine ⟨fun j m H2 => m = ws.length - j ∧ j ≤ ws.length ∧ ∃ (V2 : Hp) (os2 : Os) (av : List (Key × V)) (ad : List (Key × D)), Same V1 V2 ∧ Rel X.K (upd F L (.dK av)) V2 os2 H2 ∧ RpK X.K V2 av ad ∧ ad.length ≤ j ∧ dcW bn tt tek tev (wipeE env vs) (dcK k) gd (ws.drop j) ad os2,
    ⟨ws.length, rfl, Nat.zero_le _, V1, os1, [], [], Same.refl _, put [] V1 os1 H1 r1 hL, .nil, Nat.le_refl _, q⟩, ?_⟩
  rintro j m H2 ⟨rfl, hj, V2, os0, av, ad, s2, r0, ra2, hl2, q2⟩
  by_cases hlt : j < ws.length
  · rw [List.drop_eq_getElem_cons hlt] at q2
    obtain ⟨os2, hwk, q2⟩ := q2
    have r2 := r0.wk hwk
    obtain ⟨hG, q2⟩ := gK_ok q2
    refine .inr ⟨gi.go j (upd F L (.dK av)) V2 os2 H2 s2 r2 hG hlt, fun H3 => ∃ (V3 : Hp) (os3 : Os) (av3 : List (Key × V)) (ad3 : List (Key × D)), Same V1 V3 ∧ Rel X.K (upd F L (.dK av3)) V3 os3 H3 ∧ RpK X.K V3 av3 ad3 ∧ ad3.length ≤ j + 1 ∧ dcW bn tt tek tev (wipeE env vs) (dcK k) gd (ws.drop (j + 1)) ad3 os3,
      fun H3 q3 => ⟨ws.length - (j + 1), by omega, rfl, hlt, q3⟩, fun x' H' y => ?_⟩
    obtain ⟨V3, s3, r3, rw3⟩ := gi.yld j (upd F L (.dK av)) V2 os2 H2 x' H' ws[j] s2 r2 hG y (List.getElem?_eq_getElem hlt)
    refine hb (upd F L (.dK av)) V3 H' os2 σ _ x' ws[j] _ _ r3 rw3 ((sr_wipe (sr.mono s1) _).mono (s2.trans s3)) q2 fun σ2 env2 sr3 hw q2 => ⟨hw, fun s0 H0 C cl fp => ?_⟩
    refine ht s0 H0 C cl fp _ _ _ q2 (upd F L (.dK av)) V3 H' _ _ r3 sr3 fun V4 os4 H4 b s4 r4 q4 => ?_
    cases b with
    | false => exact iteF ⟨V4, os4, av, ad, (s2.trans s3).trans s4, r4, RpK.mono (s3.trans s4) ra2, Nat.le_succ_of_le hl2, q4.2 rfl⟩
    | true =>
      refine iteT fun s0 H0 C cl fp => ?_
      refine hek s0 H0 C cl fp _ _ _ _ (q4.1 rfl) (upd F L (.dK av)) V4 H4 _ _ _ r4 (sr3.mono s4) XkOk.none fun V5 os5 H5 y5 w5 s5 r5 rw5 q5 => ?_
      intro s0 H0 C cl fp
      refine he s0 H0 C cl fp _ _ _ _ q5 (upd F L (.dK av)) V5 H5 _ _ _ r5 ((sr3.mono s4).mono s5) XkOk.none fun V6 os6 H6 y6 w6 s6 r6 rw6 q6 => ?_
      obtain ⟨ky, rfl, q6⟩ := keyK_of rw5 q6
      have s36 := ((s3.trans s4).trans s5).trans s6
      have ra6 : RpK X.K V6 (putK av ky y6) (putD ad ky w6) := (RpK.mono s36 ra2).put ky rw6
      refine ⟨av, ky, rfl, r6.fr L _ upd_same, ?_, V6, os6, putK av ky y6, putD ad ky w6, s2.trans s36, grow av _ V6 os6 H6 r6, ra6, by have := putD_len ad ky w6; omega, q6⟩
      rw [ra2.length]
      omega
  · have e : j = ws.length := by omega
    subst e
    rw [List.drop_length] at q2
    obtain ⟨os2, hwk, q2⟩ := q2
    have r2 := r0.wk hwk
    obtain ⟨hG, q2⟩ := gK_ok q2
    refine .inl ⟨gi.stop _ (upd F L (.dK av)) V2 os2 H2 s2 r2 hG (Nat.le_refl _), ?_⟩
    have q2 : dcK k ad os2 := q2
    have v2 : V2 L = none := r2.fv L _ upd_same
    refine c V2 ((L, .dK ad) :: os2) H2 (.ref L) (.ref L) (s1.trans s2) ⟨fun a o e => r2.fr a o (by rw [upd_ne (ne_of_none e hFL)]; exact e), r2.vi, fun a o e => ?_, fun p hp => ?_, ?_⟩ (.ref L) (q2 L)
    · exact r2.fv a o (by rw [upd_ne (ne_of_none e hFL)]; exact e)
    · rcases List.mem_cons.mp hp with e | hp
      · subst e
        exact ⟨hFL, v2, _, r2.fr L _ upd_same, av, rfl, ra2⟩
      · obtain ⟨h1, h2, ho, h3, h4⟩ := r2.own p hp
        have ne : p.1 ≠ L := fun z => by rw [z, upd_same] at h1; cases h1
        exact ⟨by rw [upd_ne ne] at h1; exact h1, h2, ho, h3, h4⟩
    · rw [List.map_cons, List.nodup_cons]
      refine ⟨fun hm => ?_, r2.nd⟩
      obtain ⟨q, hq, e⟩ := List.mem_map.mp hm
      obtain ⟨h1, _⟩ := r2.own q hq
      have e' : q.1 = L := e
      rw [e', upd_same] at h1
      cases h1
@[irreducible] def dcX (b : TrB) (t : TrT) (tk tv : TrE) (env : DEnv) (k : List (Key × D) → Os → Prop) (gd : Gd) (ws : List D) (os : Os) : Prop := dcW b t tk tv env k gd ws [] os
theorem dcX_eq {b : TrB} {t : TrT} {tk tv : TrE} {env : DEnv} {k : List (Key × D) → Os → Prop} {gd : Gd} {ws : List D} {os : Os} : dcX b t tk tv env k gd ws os = dcW b t tk tv env k gd ws [] os := by unfold dcX; rfl
def eDc (vs : List Nat) (b : TrB) (ti : TrI) (tt : TrT) (tk tv : TrE) : TrE := fun kx env os k => ti kx env os fun ws gd os1 => ws.length ≤ sizeLine ∧ dcX b tt tk tv (wipeE env vs) (dcK k) gd ws os1
section
variable {X : Cx} {kxe vxe iter tge : Expr} {ifs : List Expr} {scope : Scope} {own : List (Str × Nat)} {pos : Pos} {g : TG} {bn : TrB} {tt : TrT} {tek tev : TrE} {ti : TrI}
theorem cm_dc (hc : X.calm = true) (hN : X.N.Nodup) (ok : BlkOk X.N X.env.scope scope own) (hb : BindOk X.K (own.map (·.2)) g bn)
    (hg : ∀ s H C cl fp, PG (Bk X scope s H C cl fp) tge g) (hi : CmI X tge iter ti) (ht : ∀ s H C cl fp, CmTs (Bk X scope s H C cl fp) ifs tt) (hek : ∀ s H C cl fp, Cm (Bk X scope s H C cl fp) kxe tek) (he : ∀ s H C cl fp, Cm (Bk X scope s H C cl fp) vxe tev)
    (hs : ∀ x, foldedSetIterable iter X.env x = pure x) : Cm X (.DictComp kxe vxe [⟨tge, iter, ifs, 0⟩] scope pos) (eDc (own.map (·.2)) bn ti tt tek tev) := by
  intro kx env os k h F V0 H σ Q W r sr ek c
  refine wE_of (pe_dc (X := X) (own := own) (wi := wPI X tge iter) (g := g) (tt := fun σ H Q => ∀ s0 H0 C cl fp, wTs (Bk X scope s0 H0 C cl fp) ifs σ H Q) (tk := fun σ H Q => ∀ s0 H0 C cl fp, wE (Bk X scope s0 H0 C cl fp) kxe σ H Q) (tv := fun σ H Q => ∀ s0 H0 C cl fp, wE (Bk X scope s0 H0 C cl fp) vxe σ H Q) hc hN wPI_pi ok
    hg (fun s0 H0 C cl fp => ⟨fun pins s σ H Q I q => wTs_pts.run pins s σ H Q I (q s0 H0 C cl fp)⟩) (fun s0 H0 C cl fp => ⟨fun pins s σ H Q I q => wE_pe.run pins s σ H Q I (q s0 H0 C cl fp)⟩) (fun s0 H0 C cl fp => ⟨fun pins s σ H Q I q => wE_pe.run pins s σ H Q I (q s0 H0 C cl fp)⟩) hs) ?_
  unfold eDc at h
  simp only [dcX_eq] at h
  exact tdc_of hb hi ht hek he h r sr ek c
end
theorem dcX_inv {b : TrB} {t : TrT} {tk tv : TrE} {env : DEnv} {k : List (Key × D) → Os → Prop} {gd : Gd} {ws : List D} {os : Os} (I : Nat → List (Key × D) → Os → Prop) (h0 : I 0 [] os)
    (hs : ∀ (j : Nat) (w : D) (acc : List (Key × D)) (os : Os) (N : List (Key × D) → Os → Prop), ws[j]? = some w → I j acc os → (∀ a o o2, WkO o o2 → I (j + 1) a o2 → N a o) →
      b w env fun env1 => t kx0 env1 os fun bo os1 => (bo = true → tk kx0 env1 os1 fun y os2 => tv kx0 env1 os2 fun z os3 => keyK y fun ky => N (putD acc ky z) os3) ∧ (bo = false → N acc os1))
    (hd : ∀ acc os, I ws.length acc os → k acc os) (hG : ∀ j acc os, I j acc os → gOk gd os) : dcX b t tk tv env k gd ws os := by
  rw [dcX_eq]
  have gen : ∀ (m j : Nat) (acc : List (Key × D)) (os os2 : Os), m = ws.length - j → j ≤ ws.length → WkO os os2 → I j acc os2 → dcW b t tk tv env k gd (ws.drop j) acc os := by
    intro m
    induction m with
    | zero =>
      intro j acc os os2 hm hj hw h
      have e : j = ws.length := by omega
      subst e
      rw [List.drop_length]
      exact ⟨os2, hw, gK_mk (hG _ acc os2 h) (hd acc os2 h)⟩
    | succ m ih =>
      intro j acc os os2 hm hj hw h
      have hlt : j < ws.length := by omega
      rw [List.drop_eq_getElem_cons hlt]
      exact ⟨os2, hw, gK_mk (hG j acc os2 h) (hs j ws[j] acc os2 (fun a o => dcW b t tk tv env k gd (ws.drop (j + 1)) a o) (List.getElem?_eq_getElem hlt) h fun a o o2 hw2 z => ih (j + 1) a o o2 (by omega) hlt hw2 z)⟩
  exact gen _ 0 [] os os rfl (Nat.zero_le _) (.refl _) h0
end EV

set_option Elab.async false
set_option linter.all false
set_option maxRecDepth 100000
/-! E11: more methods of lists. -/
namespace EV
open PySem PySem.Spec PyProof.Rows L2
theorem idx_ne : ∀ (ns : List Int) (i : Int) (m : Nat), m < ns.idxOf i → ns[m]? ≠ some i
  | [], i, m, h => by simp at h
  | a :: r, i, 0, h => by
    rw [List.idxOf_cons] at h
    intro e
    have e : a = i := by simpa using e
    rw [e] at h
    simp at h
  | a :: r, i, m + 1, h => by
    rw [List.idxOf_cons] at h
    rw [List.getElem?_cons_succ]
    by_cases e : a = i
    · rw [e] at h; simp at h
    · rw [show (a == i) = false from beq_eq_false_iff_ne.mpr e] at h
      exact idx_ne r i m (by simpa using h)
section
variable {X : Cx} {kx : Kx} {env : DEnv} {os : Os} {k : D → Os → Prop} {pos pos' apos cpos tpos : Pos} {o e f i value : Expr} {to te tf ti tv : TrE} {lvl : Nat}
/-- a list at hand, data or owned -/
def lstK (w : D) (os : Os) (k : List D → Prop) : Prop := match w with
  | .lst ds => k ds
  | .ref p => ∃ (n : Nat) (ws : List D), os[n]? = some (p, OO.lst ws) ∧ k ws
  | _ => False
theorem lstK_of {w : D} {os : Os} {kk : List D → Prop} (h : lstK w os kk) : ∃ ds, LstOf os w ds ∧ kk ds := by
  unfold lstK at h
  split at h
  · exact ⟨_, rfl, h⟩
  · obtain ⟨n, ws, ho, q⟩ := h
    exact ⟨ws, ⟨n, ho⟩, q⟩
  · exact h.elim
/-- its ints -/
def lstI (w : D) (os : Os) (k : List Int → Prop) : Prop := ∃ ns : List Int, LstOf os w (ns.map D.int) ∧ k ns
/-- xs.count(e): ints -/
def eLCnt (to te : TrE) : TrE := fun kx env os k => to kx env os fun w os1 => lstH w os1 (te kx env os1 fun y os2 => match y with
  | .int i => ∃ ns : List Int, LstOf os2 w (ns.map D.int) ∧ k (.int (ns.count i : Nat)) os2
  | _ => False)
where lstH (w : D) (os : Os) (k : Prop) : Prop := lstK w os fun _ => k
theorem tyL_of {F V0 H : Hp} {v : V} {w : D} {q : Prop} (r : Rel X.K F V0 os H) (rv : Rp X.K V0 v w) (h : lstK w os fun _ => q) : ∃ a, v = .ref a ∧ tyV X.K "list" (.ref a) H ∧ q := by
  obtain ⟨ds, hd, q⟩ := lstK_of h
  obtain ⟨a, vs, rfl, h1, h2⟩ := lstOf_of r rv hd
  exact ⟨a, rfl, .inl ⟨rfl, vs, h1⟩, q⟩
theorem cm_lcnt (h : Cm X o to) (h2 : Cm X e te) (hbase : attributeBase o "count" X.env (eval o X.env) = eval o X.env)
    (hfew : ((backTo cpos (starEach [e] X.env)).all (fun x => !x.1) && (backToKw cpos (keywordEach [] X.env)).all (fun x => x.1.isSome)
      && decide ([e].length + ([] : List Keyword).length + (if ([] : List Keyword).isEmpty then 0 else 1) < 30)) = true)
    (hline : (apos.endLine == cpos.line) = true) (hs : starEach [e] X.env = (false, eval e X.env) :: starEach [] X.env) :
    Cm X (.Call (.Attribute o "count" apos) [e] [] cpos) (eLCnt to te) := by
  intro kx env os k q F V0 H σ Q W r sr ek c
  refine wE_of (pe_bm PySem.F.plainAttrs_list PySem.F.slot_list_count PySem.F.type_list_count mt_lcount wE_pe (pa_cons wE_pe pa_nil hs) hbase hfew hline hs) ?_
  refine h _ _ _ _ q F V0 H σ _ W r sr ek fun V1 os1 H1 v w s1 r1 rv q => ?_
  obtain ⟨a, rfl, ty, q⟩ := tyL_of r1 rv q
  refine ⟨ty, ?_⟩
  refine h2 _ _ _ _ q F V1 H1 σ _ W r1 (sr.mono s1) (ek.mono s1) fun V2 os2 H2 u y s2 r2 ru q => ?_
  split at q
  · obtain ⟨ns, hl, q⟩ := q
    obtain ⟨a', vs, e', h3, h4⟩ := lstOf_of r2 (rv.mono s2) hl
    cases e'
    have e3 := rpA_int h4
    subst e3
    cases ru
    exact ⟨a, ns, _, rfl, rfl, h3, c V2 os2 H2 _ _ (s1.trans s2) r2 rwI q⟩
  · exact q.elim
/-- xs.index(e): ints -/
def eLIdx (to te : TrE) : TrE := fun kx env os k => to kx env os fun w os1 => eLCnt.lstH w os1 (te kx env os1 fun y os2 => match y with
  | .int i => ∃ ns : List Int, LstOf os2 w (ns.map D.int) ∧ i ∈ ns ∧ k (.int (ns.idxOf i : Nat)) os2
  | _ => False)
theorem cm_lidx (h : Cm X o to) (h2 : Cm X e te) (hbase : attributeBase o "index" X.env (eval o X.env) = eval o X.env)
    (hfew : ((backTo cpos (starEach [e] X.env)).all (fun x => !x.1) && (backToKw cpos (keywordEach [] X.env)).all (fun x => x.1.isSome)
      && decide ([e].length + ([] : List Keyword).length + (if ([] : List Keyword).isEmpty then 0 else 1) < 30)) = true)
    (hline : (apos.endLine == cpos.line) = true) (hs : starEach [e] X.env = (false, eval e X.env) :: starEach [] X.env) :
    Cm X (.Call (.Attribute o "index" apos) [e] [] cpos) (eLIdx to te) := by
  intro kx env os k q F V0 H σ Q W r sr ek c
  refine wE_of (pe_bm PySem.F.plainAttrs_list PySem.F.slot_list_index PySem.F.type_list_index mt_index wE_pe (pa_cons wE_pe pa_nil hs) hbase hfew hline hs) ?_
  refine h _ _ _ _ q F V0 H σ _ W r sr ek fun V1 os1 H1 v w s1 r1 rv q => ?_
  obtain ⟨a, rfl, ty, q⟩ := tyL_of r1 rv q
  refine ⟨ty, ?_⟩
  refine h2 _ _ _ _ q F V1 H1 σ _ W r1 (sr.mono s1) (ek.mono s1) fun V2 os2 H2 u y s2 r2 ru q => ?_
  split at q
  · rename_i i
    obtain ⟨ns, hl, hi, q⟩ := q
    obtain ⟨a', vs, e', h3, h4⟩ := lstOf_of r2 (rv.mono s2) hl
    cases e'
    have e3 := rpA_int h4
    subst e3
    cases ru
    have hj := List.idxOf_lt_length_iff.mpr hi
    refine ⟨a, _, .int i, ns.idxOf i, .int i, rfl, rfl, h3, rfl, List.all_eq_true.mpr fun x hx => ?_, ?_, ?_, fun m z' hm hz => ?_, c V2 os2 H2 _ _ (s1.trans s2) r2 rwI q⟩
    · obtain ⟨n, _, rfl⟩ := List.mem_map.mp hx; rfl
    · rw [List.getElem?_map, List.getElem?_eq_getElem hj, List.getElem_idxOf hj]; rfl
    · simp [eqV]
    · rw [List.getElem?_map] at hz
      obtain ⟨n, hn, rfl⟩ := Option.map_eq_some_iff.mp hz
      have ne : n ≠ i := fun e => idx_ne ns i m hm (by rw [hn, e])
      simpa [eqV] using ne
  · exact q.elim
/-- a, b = x, y: plain local names, stored from the right -/
def sPar (i j : Nat) (tl : TrA) : TrS := fun N R env os => tl (R.xk env) env os fun ws os1 => match ws with
  | [v, w] => N (setE (setE env i (some v)) j (some w)) os1
  | _ => False
theorem c1_par {i j : Nat} {x y : Str} {a b : Expr} {tl : TrA} {px py pt : Pos} {kt k2 pt2} (hc : X.calm = true) (hN : X.N.Nodup) (hi : X.N[i]? = some x) (hj : X.N[j]? = some y) (hij : i ≠ j)
    (hx : X.env.scope.names.lookup x = some .local) (hy : X.env.scope.names.lookup y = some .local) (ha : CmA X [a, b] tl 2)
    (hw : swappedStores [.Tuple [.Name x px, .Name y py] kt pt] (.Tuple [a, b] k2 pt2) X.env = pure (some [x, y]))
    (hs : swapsWithSole [.Tuple [.Name x px, .Name y py] kt pt] (.Tuple [a, b] k2 pt2) pos.line X.env = pure false) : CmS X (.Assign [.Tuple [.Name x px, .Name y py] kt pt] (.Tuple [a, b] k2 pt2) pos) (sPar i j tl) := by
  intro N R env os q F V0 H σ D W r sr ek
  refine wS1_of (ps_par hc hN hi hj hij hx hy wA_pa hw hs) ?_
  refine ha.2 _ _ _ _ q F V0 H σ _ W r sr (ek.xk sr) fun V1 os1 H1 vs ws s1 r1 rs ⟨_, q⟩ => ?_
  split at q
  · obtain ⟨v, w, rfl, rv, rw'⟩ := rs.two
    exact ⟨v, w, rfl, ek.nx V1 os1 H1 _ _ s1 r1 (sr_setE (sr_setE (sr.mono s1) rv i) rw' j) q⟩
  · exact q.elim
/-- xs.extend(ys) -/
def eExt (to te : TrE) : TrE := fun kx env os k => to kx env os fun w os1 => onL w os1 fun p => te kx env os1 fun y os2 => ∃ (m : Nat) (us ds : List D), os2[m]? = some (p, .lst us) ∧ LstOf os2 y ds ∧ us.length + ds.length ≤ sizeLine ∧ k .non (os2.set m (p, .lst (us ++ ds)))
end
end EV

set_option Elab.async false
set_option linter.all false
set_option maxRecDepth 100000
/-! E12: exceptions of own classes: made, raised, caught. -/
namespace EV
open PySem PySem.Spec PyProof.Rows L2
/-- an own class that has ValueError's __init__ -/
structure InhC (K : PySem.W.Frag) (C : Addr) : Prop where
  rd : PySem.W.readsIn K C (.type "type") = true
  tyC : PySem.W.typeIn K (.ref C) = some (.type "type")
  ga : PySem.W.specialIn K (.ref C) "__getattribute__" = some (some (.builtin "type.__getattribute__"))
  at_ : PySem.W.findCls K (.ref C) (.type "type") "__init__" = some (.val (.builtin "ValueError.__init__"))
section
variable {X : Cx} {o e : Expr} {es : List Expr} {to te : TE} {ta : TA} {f : Str} {p p' p1 p2 pos : Pos}
theorem pe_clsinit {pl : Sem Bool} {x : Str} {D : Addr} (hg : Gl X x) (hm : X.mg x = some (.ref D)) (hdb : (x == ("__debug__" : Str)) = false) (T : InhC X.K D) (ha : PA X (e :: es) ta)
    (hc : eval (.Call (.Attribute (.Name x p1) "__init__" p2) (e :: es) [] pos) X.env = (do
      let ov ← eval (.Name x p1) X.env
      standAt p2.atName
      let (f, first) ← holding [ov] (getMethod ov "__init__" pl)
      callWith pos f first (backTo pos (starEach (e :: es) X.env)) (backToKw pos (keywordEach [] X.env))) := by rfl)
    (he : starEach (e :: es) X.env = (false, eval e X.env) :: starEach es X.env := by rfl) (hpl : (backTo pos (starEach es X.env)).any (·.1) = false := by rfl) :
    PE X (.Call (.Attribute (.Name x p1) "__init__" p2) (e :: es) [] pos) (tVeI X.K ta) := by
  refine ⟨fun pins s σ H Q I h => ?_⟩
  obtain ⟨m, fr⟩ := I.fr
  refine PySem.W.methodCall_KW (ld_glob I hg hm (PySem.W.method_of_cls fr I.ok.mod.kin T.ga (PySem.W.cls_val fr I.ok.mod.kin T.tyC T.rd T.at_ (by decide +kernel) ?_)) hdb) hc
  show wpAny _ _ (callWith pos (.builtin "ValueError.__init__") [] (backTo pos (starEach (e :: es) X.env)) []) _ X.xe _
  refine PyProof.Rows.callWith_method1 (thn (ha.run pos pins _ σ H _ (I.tok _) h) fun us s1 hh => ?_) he hpl
  obtain ⟨vs, H1, I1, r1, a, C, ws, ev, hl, O, ea, q⟩ := hh
  subst ev
  cases r1 with
  | @cons _ u0 _ ur ra rr => cases (show u0 = Value.ref a from ra); exact oinit_ok O I1 ea (by have := Paired.length rr; have := sizeLine_eq; omega) fun s' J => ⟨.non, H1, J, rfl, q⟩
end
/-- what an own exception's __init__(self, x) does: D.__init__(self, ..); self.f = x -/
def spInit (K : PySem.W.Frag) (C : Addr) (fx : Str) : Sp := fun vs H Q _ => ∃ a v, vs = [.ref a, v] ∧ OexC K C ∧ PySem.W.findIn K (.ref C) fx = some none ∧ H a = some (exo a C none) ∧ ∀ d, H d = none → d ≠ a → Q .non (upd (upd H d (exd d [(fx, v)])) a (exo a C (some d)))
section
variable {P : Program} {w : World} {K : PySem.W.Frag} {mg : Str → Option Value} {base : Heap}
theorem okInit {x qual pn fx dn ms : Str} {st : Stmt} {f D C : Addr} {fd : FuncData} {p1 p2 p3 p4 p5 p6 q1 q2 q3 q4 : Pos} {j} (F : Fun K x qual st f fd) (sc : FnScope ["self", pn] ["self", pn] (defScope st))
    (hb : defBody st = [.Expr (.Call (.Attribute (.Name dn p1) "__init__" p2) [.Name "self" p3, .Constant (.str ms) j p4] [] p5) p6, .Assign [.Attribute (.Name "self" q1) fx q2] (.Name pn q3) q4])
    (gd : (defScope st).names.lookup dn = some .globalImplicit) (hm : mg dn = some (.ref D)) (hdb : (dn == ("__debug__" : Str)) = false) (T : InhC K D)
    (hcl : ∀ env : Env, ∃ pl : Sem Bool, eval (.Call (.Attribute (.Name dn p1) "__init__" p2) [.Name "self" p3, .Constant (.str ms) j p4] [] p5) env = (do
      let ov ← eval (.Name dn p1) env
      standAt p2.atName
      let (f, first) ← holding [ov] (getMethod ov "__init__" pl)
      callWith p5 f first (backTo p5 (starEach [.Name "self" p3, .Constant (.str ms) j p4] env)) (backToKw p5 (keywordEach [] env))))
    (v1 : Vis (defScope st) "self") (v2 : Vis (defScope st) pn) (nd2 : (pn == ("__debug__" : Str)) = false) (nc2 : (pn == ("__classdict__" : Str)) = false) :
    FnOk P w K mg base (L2.CX P w) 1 f fd ["self", pn] (spInit K C fx) := by
  refine F.okX sc (fun vs H Q E h => by obtain ⟨a, v, rfl, _⟩ := h; rfl) fun cdv A outer s H vs Q E hr hsp => ?_
  obtain ⟨a, v, rfl, O, hno, ha, q⟩ := hsp
  rw [hb]
  obtain ⟨pl, hcl⟩ := hcl (cxOf (L2.CX P w) P w K mg base ["self", pn] qual (defScope st) f cdv A outer s H E).env
  refine ⟨_, pss_cons (ps_expr (pe_clsinit gd hm hdb T (pa_cons (pe_var (i := 0) rfl v1 (by decide +kernel) (by decide +kernel)) (pa_cons pe_str pa_nil rfl) rfl) hcl rfl rfl) rfl) (pss_one (ps_ost (pe_var (i := 0) rfl v1 (by decide +kernel) (by decide +kernel)) (pe_var (i := 1) rfl v2 nd2 nc2) rfl)), ?_⟩
  refine ⟨.ref a, rfl, ?_⟩
  refine ⟨a, C, [.str ms], rfl, (by show 1 ≤ 1000; decide), O, ha, ?_⟩
  refine ⟨v, rfl, .ref a, rfl, a, C, rfl, O, hno, .inl ⟨ha, fun d hd hda => ?_⟩⟩
  exact q d hd hda
/-- an own exception's class, by its name -/
structure CalE (P : Program) (w : World) (K : PySem.W.Frag) (mg : Str → Option Value) (base : Heap) (x : Str) (C : Addr) (fn : Nat) : Prop where
  ex : ∃ (fI : Addr) (fd : FuncData) (ps : List Str), FnOk P w K mg base (L2.CX P w) 1 fI fd ps (spInit K C (nm fn)) ∧ Binds K fd ps [] ∧ PySem.W.findIn K (.ref C) "__init__" = some (some (.ref fI)) ∧ PySem.W.typeIn K (.ref fI) = some (.type "function") ∧ mg x = some (.ref C)
  ox : OexC K C
  no : PySem.W.findIn K (.ref C) (nm fn) = some none
end
/-- raise C(e) -/
def sRz (C : Addr) (fn : Nat) (te : TrE) : TrS := fun N R env os => te (R.xk env) env os fun w os1 => R.ex ⟨C, [(fn, w)]⟩ env os1
theorem c1_rz {X : Cx} {C : Addr} {fn : Nat} {x : Str} {e : Expr} {te : TrE} {p pos pos2 : Pos} (hc : X.calm = true) (CE : CalE X.prog X.w X.K X.mg X.base x C fn) (hr : Room 2 X.A) (hg : Gl X x) (h : Cm X e te) (hdb : (x == ("__debug__" : Str)) = false)
    (he : starEach [e] X.env = (false, eval e X.env) :: starEach [] X.env) (hpl : (backTo pos (starEach [] X.env)).any (·.1) = false) : CmS X (.Raise (some (.Call (.Name x p) [e] [] pos)) none pos2) (sRz C fn te) := by
  obtain ⟨⟨fI, fd, ps, G, hb, hi, ht, hm⟩, O, hno⟩ := CE
  intro N R env os q F V0 H σ D W r sr ek
  refine wS1_of (ps_raise hc ek.tk (pmk_oex O hi ht G hr hb .nil passL hg hm (pa_cons wE_pe pa_nil he) hdb he hpl)) ?_
  refine h _ _ _ _ q F V0 H σ _ W r sr (ek.xk sr) fun V1 os1 H1 v w' s1 r1 rv q => ?_
  refine ⟨(by show 1 ≤ 1000; decide), fun a ha => ?_⟩
  refine ⟨a, v, rfl, O, hno, upd_same, fun d hd hda => ?_⟩
  have hd1 : H1 d = none := by rw [upd_ne hda] at hd; exact hd
  refine ⟨rfl, d, [(nm fn, v)], upd_same, by rw [upd_ne hda, upd_same], hd1, ?_⟩
  have eH : upd (del (upd (upd (upd H1 a (exo a C none)) d (exd d [(nm fn, v)])) a (exo a C (some d))) a) d (.xd [(nm fn, v)]) = upd H1 d (.xd [(nm fn, v)]) := by
    funext b
    by_cases hbd : b = d
    · subst hbd; rw [upd_same, upd_same]
    · rw [upd_ne hbd, upd_ne hbd]
      by_cases hba : b = a
      · subst hba; rw [del_same, ha]
      · rw [del_ne hba, upd_ne hba, upd_ne hbd, upd_ne hba]
  rw [eH]
  have sv : Same V1 (upd V1 d (.xd [(nm fn, v)])) := same_upd (r1.vi.free hd1)
  refine ek.ex (upd V1 d (.xd [(nm fn, v)])) os1 _ σ env (.ref C) (some d) ⟨C, [(fn, w')]⟩ (s1.trans sv) (r1.addV hd1 _) ((sr.mono s1).mono sv) ⟨rfl, d, _, rfl, upd_same, .cons ⟨rfl, rv.mono sv⟩ .nil⟩ q

/-! ### try, except C as n -/
def sTry (i : Nat) (C : Addr) (fn : Nat) (tb : TrS) (ts : Addr → Addr → TrS) : TrS := fun N R env os =>
  tb N { R with ex := fun x env1 os1 => match x.fs with
    | [(f, w)] => x.C = C ∧ f = fn ∧ ∀ a dx, ts a dx (fun e o => N (setE e i none) o) { rt := R.rt, bk := fun e o => R.bk (setE e i none) o, ct := fun e o => R.ct (setE e i none) o } (setE env1 i (some (.exn a dx C fn w))) os1
    | _ => False } env os
theorem c1_try {X : Cx} {i fn : Nat} {C : Addr} {x n : Str} {body suite : List Stmt} {b₀ : Stmt} {np pos pos' : Pos} {tb : TrS} {ts : Addr → Addr → TrS} (hs : X.stack = X.env :: X.outer) (hf : X.env.frame = some X.env.locals) (hN : X.N.Nodup) (hi : X.N[i]? = some n) (hln : X.env.kindOf n = some .local)
    (hg : Gl X x) (hdb : (x == ("__debug__" : Str)) = false) (hm : X.mg x = some (.ref C)) (hx : PySem.W.exmOne X.K (.ref C) (.ref C) = some true)
    (hb : ∀ (pn : List (Addr × Obj)) (xe : Value → Shared → Prop), PassesOwn (model X.prog X.w) X.A X.env xe → CmSs (X.tr pn xe) body tb)
    (hsu : ∀ (a : Addr) (oe : Obj) (dx : Addr) (pn : List (Addr × Obj)), Zc (.ref C) (some dx) oe → (∃ vs, oe.data = .fields vs) → CmSs (X.suite a ((a, oe) :: pn)) (b₀ :: suite) (ts a dx)) :
    CmS X (.Try body [.ExceptHandler (some (.Name x np)) (some n) (b₀ :: suite) pos'] [] [] pos) (sTry i C fn tb ts) := by
  intro N R env os q F V0 H σ D W r sr ek
  refine wS1_of (ps_try_as (i := i) (tb := fun W D σ H => ∀ (pn : List (Addr × Obj)) (xe : Value → Shared → Prop), Takes (X.tr pn xe) W → PassesOwn (model X.prog X.w) X.A X.env xe → wSs (X.tr pn xe) body D σ H)
    (ts := fun a cls d D σ H => ∀ (oe : Obj) (pn : List (Addr × Obj)), Zc cls d oe → (∃ vs, oe.data = .fields vs) → wSs (X.suite a ((a, oe) :: pn)) (b₀ :: suite) D σ H)
    hs hf hN hi hln ⟨hg, hdb, .inl hm⟩ ek.tk (fun W pn xe tk po => ⟨fun pins s σ H D I q => wSs_pss.run pins s σ H D I (q pn xe tk po)⟩) (fun a oe cls d pn hz hf => ⟨fun pins s σ H D I q => wSs_pss.run pins s σ H D I (q oe pn hz hf)⟩)) ?_
  intro pn xe tk po
  refine hb pn xe po _ _ _ _ q F V0 H σ D _ r sr ⟨ek.nx, ek.rt, ek.bk, ek.ct, tk, fun V1 os1 H1 σ1 env1 cls d x s1 r1 sr1 exr qx => ?_⟩
  obtain ⟨ec, dx, vf, ed, ev, rf⟩ := exr
  have qx : (match x.fs with
    | [(f, w)] => x.C = C ∧ f = fn ∧ ∀ a dx, ts a dx (fun e o => N (setE e i none) o) { rt := R.rt, bk := fun e o => R.bk (setE e i none) o, ct := fun e o => R.ct (setE e i none) o } (setE env1 i (some (.exn a dx C fn w))) os1
    | _ => False) := qx
  split at qx
  · rename_i f w' hfs
    obtain ⟨eC, rfl, qx⟩ := qx
    rw [hfs] at rf
    cases rf with
    | @cons p _ ps _ hp rt =>
      cases rt
      obtain ⟨pn1, pv⟩ := p
      obtain ⟨e1, rv⟩ := hp
      have e1 : pn1 = nm f := e1
      subst e1
      rw [ec, ed, eC]
      refine ⟨true, hx, fun _ a ha oe pn2 hz hfl => ?_, fun z => nomatch z⟩
      refine hsu a oe dx pn2 hz hfl _ _ _ _ (qx a dx) F V1 H1 _ _ (fun _ _ _ _ => False) r1 (sr_setE sr1 (.exn ev rv) i) ⟨fun V2 o2 H2 σ2 e2 s2 r2 sr2 q2 => ?_, fun V2 o2 H2 v w s2 r2 rv2 q2 => ?_, fun V2 o2 H2 σ2 e2 s2 r2 sr2 q2 => ?_, fun V2 o2 H2 σ2 e2 s2 r2 sr2 q2 => ?_, takes0, fun _ _ _ _ _ _ _ _ _ _ _ _ z => z⟩
      · exact ek.nx V2 o2 H2 _ _ (s1.trans s2) r2 (set_none sr2 i) q2
      · exact ek.rt V2 o2 H2 v w (s1.trans s2) r2 rv2 q2
      · exact ek.bk V2 o2 H2 _ _ (s1.trans s2) r2 (set_none sr2 i) q2
      · exact ek.ct V2 o2 H2 _ _ (s1.trans s2) r2 (set_none sr2 i) q2
  · exact qx.elim
/-- n.f, in the suite -/
def eXf (a dx C : Addr) (fn i : Nat) : TrE := fun _ env os k => match getE env i with
  | some (.exn a' dx' C' f' w) => a' = a ∧ dx' = dx ∧ C' = C ∧ f' = fn ∧ k w os
  | _ => False
theorem cm_xf {X : Cx} {a dx C : Addr} {fn i : Nat} {oe : Obj} {pn : List (Addr × Obj)} {x : Str} {fx : Str} {p pos : Pos} (hfx : fx = nm fn) (T : XfC X.K C) (hno : PySem.W.findIn X.K (.ref C) fx = some none) (hz : Zc (.ref C) (some dx) oe) (hf : ∃ vs, oe.data = .fields vs)
    (hN : X.N[i]? = some x) (hv : Vis X.env.scope x) (hd : (x == ("__debug__" : Str)) = false) (hcd : (x == ("__classdict__" : Str)) = false) (hb : ∀ env, attributeBase (.Name x p) fx env (eval (.Name x p) env) = eval (.Name x p) env) :
    Cm (X.suite a ((a, oe) :: pn)) (.Attribute (.Name x p) fx pos) (eXf a dx C fn i) := by
  subst hfx
  intro kx env os k h F V0 H σ Q W r sr ek c
  unfold eXf at h
  split at h
  · rename_i a' dx' C' f' w he
    obtain ⟨rfl, rfl, rfl, rfl, q⟩ := h
    obtain ⟨v, e1, r1⟩ := sr.2 i _ (getE_eq _ _ _ he)
    cases r1 with
    | exn h1 h2 =>
      rename_i u
      refine wE_of (pe_xf T hno hz hf (pe_var (X := X.suite a' ((a', oe) :: pn)) hN hv hd hcd) (hb _)) ?_
      exact ⟨_, e1, rfl, rfl, _, _, u, rfl, r.vi _ _ h1, by simp [List.lookup], c V0 os H u w (Same.refl _) r h2 q⟩
  · exact h.elim
/-- isinstance(n, T), in the suite -/
def cIsE (a dx C : Addr) (fn : Nat) (dT : D) (b : Bool) : TrC := fun ws os k => match ws with
  | [.exn a' dx' C' f' _, t] => a' = a ∧ dx' = dx ∧ C' = C ∧ f' = fn ∧ t = dT ∧ k (.bl b) os
  | _ => False
theorem cmc_isE {X : Cx} {a dx C : Addr} {fn : Nat} {oe : Obj} {pn : List (Addr × Obj)} {dT : D} {cv : Value} {b : Bool} (T : ExcC X.K C) (hz : Zc (.ref C) (some dx) oe) (hf : ∃ vs, oe.data = .fields vs)
    (hT : (∃ t, dT = .ref t ∧ cv = .ref t) ∨ ∃ m, dT = .ty m ∧ cv = .type m) (hk : PySem.W.kitOne X.K (.ref C) cv = some b) : CmC (X.suite a ((a, oe) :: pn)) (.builtin "isinstance") (cIsE a dx C fn dT b) := by
  intro ws os k h
  unfold cIsE at h
  split at h
  · rename_i a' dx' C' f' w' t
    obtain ⟨rfl, rfl, rfl, rfl, rfl, q⟩ := h
    intro F V0 H vs Q r rs c pins s σ us I rv
    obtain ⟨v, v2, rfl, rx, rt⟩ := rs.two
    cases rx with
    | exn h1 h2 =>
      cases rv with
      | cons ru rv =>
        cases rv with
        | @cons _ u2 _ _ ru2 rv2 =>
        cases rv2
        cases ru
        have ec : u2 = cv := by
          rcases hT with ⟨t, rfl, rfl⟩ | ⟨m, rfl, rfl⟩
          · obtain rfl := rt.toRef; exact ru2
          · cases rt; exact ru2
        subst ec
        obtain ⟨hget, _⟩ := I.pin (a', oe) (List.mem_append.mpr (.inl List.mem_cons_self))
        obtain ⟨vs, hv⟩ := hf
        have hx : ObjOk X.prog X.w H s.heap dx' (.xd [(nm f', _)]) := I.hok dx' _ (r.vi _ _ h1)
        obtain ⟨mA, hns, _⟩ := hx
        obtain ⟨od, ho, _⟩ := lookIn_ns hns
        have J : PySem.W.InstAt s.heap a' oe C' (some od) := ⟨hget, hz.1, by unfold PySem.W.notCls; rw [hv] <;> rfl, by rw [hz.2]; exact ho⟩
        exact PySem.W.kia_one (PySem.W.kitx_exc (by obtain ⟨cd, hc, _⟩ := PySem.W.any_some T.hd; rw [hc]; rfl) T.hg T.hk T.hs T.ha T.hn T.ht T.hm) I.kIn J hk (fun z => nomatch z) fun tk => ⟨.bl b, H, I.kept (t' := tk) fun _ _ z => z, rfl, c V0 os H _ _ (Same.refl _) r rwB q⟩
  · exact h.elim
end EV

set_option Elab.async false
set_option linter.all false
set_option maxRecDepth 100000
/-! E13: enumerate over owned lists. -/
namespace EV
open PySem PySem.Spec PyProof.Rows L2
theorem gi_enum_own {K : PySem.W.Frag} {V1 : Hp} {p : Addr} {ds : List D} : GI K V1 (Ite K p) (enumW 0 ds) (some (p, ds)) := by
  have key : ∀ (F V2 : Hp) (os : Os) (H : Hp), Rel K F V2 os H → gOk (some (p, ds)) os → ∃ vs, SqL K H p vs ∧ RpA K V2 vs ds := fun F V2 os H r2 ⟨n, ho⟩ => by
    obtain ⟨_, _, ho', h3, vs, rfl, h4⟩ := r2.own _ (List.mem_of_getElem? ho)
    exact ⟨vs, SqL.of h3, h4⟩
  refine ⟨fun i F V2 os H s2 r2 g hi => ?_, fun i F V2 os H s2 r2 g hi => ?_, fun i F V2 os H x H' w s2 r2 g y e => ?_⟩
  · obtain ⟨vs, h, ra⟩ := key F V2 os H r2 g
    have hl := ra.length
    rw [enumW_len] at hi
    exact ⟨vs, vs[i]'(by omega), h, by simp [hl, hi]⟩
  · obtain ⟨vs, h, ra⟩ := key F V2 os H r2 g
    have hl := ra.length
    rw [enumW_len] at hi
    exact ⟨vs, h, by omega⟩
  · obtain ⟨vs, h, ra⟩ := key F V2 os H r2 g
    obtain ⟨T, v, rfl, hT, rfl, y⟩ := y
    have ex := y vs h
    obtain ⟨d, ed, rd⟩ := ra.getV ex
    obtain ⟨d', ed', rfl⟩ := enumW_get e
    rw [ed] at ed'; cases ed'
    obtain ⟨s3, r3, rp⟩ := rel_newT (vs := [.int (i : Nat), v]) (ds := [.int (i : Nat), d]) r2 hT (.cons (.int _) (.cons rd .nil))
    rw [Int.zero_add]
    exact ⟨_, s3, r3, rp⟩
/-- enumerate(a list), the list owned or data -/
def iEnO (te : TrE) : TrI := fun kx env os ki => te kx env os fun w os1 => match w with
  | .lst ds => ki (enumW 0 ds) none os1
  | .ref p => ∃ (n : Nat) (ws : List D), os1[n]? = some (p, OO.lst ws) ∧ ki (enumW 0 ws) (some (p, ws)) os1
  | _ => False
theorem ci_enO {X : Cx} {e : Expr} {te : TrE} {p pos : Pos} {elts : List Expr} {kk : Nat} {tpos : Pos} (hg : Gl X "enumerate") (hm : X.mg "enumerate" = none) (h : Cm X e te) (hs : starEach [e] X.env = [(false, eval e X.env)]) :
    CmI X (.Tuple elts kk tpos) (.Call (.Name "enumerate" p) [e] [] pos) (iEnO te) := by
  intro kx env os ki q F V0 H σ R W r sr ek c
  refine wPI_of (pi_enum hg hm (pa_cons wE_pe pa_nil hs) hs) ?_
  refine h _ _ _ _ q F V0 H σ _ W r sr ek fun V1 os1 H1 v w s1 r1 rv q => ?_
  split at q
  · obtain ⟨p, xs, rfl, h1, h2⟩ := rp_lst rv
    exact ⟨p, xs, rfl, r1.vi.seq h1, c V1 os1 H1 _ _ _ s1 r1 (gi_enum h1 h2) q⟩
  · obtain ⟨n, ws, ho, q⟩ := q
    obtain rfl := rv.toRef
    obtain ⟨_, _, ho', h3, vs, rfl, h4⟩ := r1.own _ (List.mem_of_getElem? ho)
    exact ⟨_, vs, rfl, SqL.of h3, c V1 os1 H1 _ _ _ s1 r1 gi_enum_own q⟩
  · exact q.elim
/-! ### tuples that are constants of the module -/
theorem rp_fix {K : PySem.W.Frag} {a : Addr} {xs : List V} {ds : List D} {od : Option Addr} {its : Array Value} {n : Nat} {sl : Array (Option Value)} (hl : K.lookup a = some ⟨.type "tuple", od, .seq its n, sl⟩) (hz : its.size ≤ sizeLine) (hv : Vals xs its.toList) (hr : ∀ V0 : Hp, RpA K V0 xs ds) :
    ∀ V0 : Hp, Rp K V0 (.ref a) (.tup ds) := fun V0 => .tup (.inr ⟨_, its, n, hl, rfl, rfl, hz, hv⟩) (hr V0)
theorem glb_tup {K : PySem.W.Frag} {mg : Str → Option Value} {x : Str} {a : Addr} {d : D} (h : mg x = some (.ref a)) (hr : ∀ V0 : Hp, Rp K V0 (.ref a) d) : Glb K mg x d := ⟨.ref a, _, h, rfl, hr⟩
end EV

set_option Elab.async false
set_option linter.all false
set_option maxRecDepth 100000
/-! E14: an instance == a number (its class has no __eq__ of its own). -/
namespace EV
open PySem PySem.Spec PyProof.Rows L2
section
variable {M : Model} {P : Program} {w : World} {A : Around} {E : Value → Shared → Prop} {s : Shared} {K : PySem.W.Frag} {o C dx : Addr} {oo : Obj} {od : Option Obj} {i : Int} {t : Tok}
theorem oi_same {R : Bool → Shared → Prop} (h : R false s) : wpAny M A (isSame (.ref o) (.int i t)) R E s :=
  wpAny_of_eq (rfl : isSame (.ref o) (.int i t) = pure false) h
theorem oi_entry {R : Fin → Shared → Prop} (h : R (.done (.ret .notImplemented)) s) : wpAny M A (Builtin.«object.__eq__» ⟨[.ref o, .int i t], []⟩) R E s := by
  unfold Builtin.«object.__eq__»
  repeat (first | with_reducible refine oi_same ?_ | wp_step)
  exact h
theorem oi_call {R : Value → Shared → Prop} (X : K.In s.heap) (I : PySem.W.InstAt s.heap o oo C od) (hm : PySem.W.mroIn K C (.type "object") = some true) (h : R .notImplemented s) :
    wpAny (model P w) A (call (.builtin "object.__eq__") [.ref o, .int i t]) R E s := by
  refine wpAny_call (codeAny_call_builtin F.cmp_object.eq.plain F.cmpEntry_eq ?_)
  exact PySem.W.check_slot F.cmpKind_eq F.cmpSplit_eq (I.type.andThen (PySem.W.looks_mroIn X hm)) (F.cmpArgs_eq _ _) (oi_entry h)
theorem oi_int (n : Int) (u : Tok) (a B d : Addr) :
    Meets (Builtin.«int.__eq__» ⟨[.int n u, .ref a], []⟩) (fun _ R z => z.heap.get? a = some (PySem.W.instObj B d) ∧ R (.ok (.ret .notImplemented)) z) :=
  .of_wp fun pr wd Ar R z h => by
    obtain ⟨hp, g, dr, tk, os⟩ := z
    obtain ⟨hl, h⟩ := h
    unfold PySem.W.instObj at hl
    wp_walk using wpAny_loadPart' hl, wpAny_load hl
    exact ⟨_, rfl, h⟩
theorem oi_sub : PySem.W.subIn K (.type "int") (.ref C) = some false := by
  have e : fastBuiltinMro "int" = some [.type "int", .type "object"] := by decide +kernel
  show (fastBuiltinMro "int").map (fun l => l.contains (.ref C)) = some false
  rw [e]
  first
    | rfl
    | simp
theorem oi_rc (hu : A.units < cLine) (X : K.In s.heap) (I : PySem.W.InstAt s.heap o (PySem.W.instObj C dx) C od) (hm : PySem.W.mroIn K C (.type "object") = some true)
    (hs : PySem.W.findIn K (.ref C) "__eq__" = some (some (.builtin "object.__eq__"))) {R : Value → Shared → Prop} (h : R (.bool false) s) : wpAny (model P w) A (richCompare .Eq (.ref o) (.int i t)) R E s := by
  have m1 : wpAny (model P w) A (tryCompare (.ref o) "__eq__" (.int i t)) (fun r z => r = none ∧ z = s) E s := by
    unfold tryCompare
    refine wpAny_bind (HN.ifBound_objEq X I hs (oi_call X I hm ?_))
    exact wpAny_pure ⟨rfl, rfl⟩
  have m2 : wpAny (model P w) A (tryCompare (.int i t) "__eq__" (.ref o)) (fun r z => r = none ∧ z = s) E s :=
    wpAny_tryCompare_declines (typeIs_int s i t) F.slot_int_eq_refl (call_meets F.slot_int_eq_refl (typeIs_int s i t) F.entry_int_eq (F.args_int_eq_2 _ _) (oi_int i t o C dx) ⟨I.at_, ⟨rfl, rfl, rfl⟩⟩)
  simp only [richCompare, cmpInfo_Eq, oneThing_ref]
  refine wpAny_holding (wpAny_bind (wpAny_cRoomFor hu ?_))
  refine wpAny_bind (I.type.here (wpAny_bind (wpAny_typeOf (typeIs_int s i t) ?_)))
  split
  · refine wpAny_bind ((PySem.W.looks_subIn X oi_sub).here ?_)
    simp only [Bool.false_eq_true, if_false, Bool.not_false, if_true]
    refine wpAny_bind (m := tryCompare (.ref o) _ (.int i t)) (wpAny_mono m1 (fun r s1 z => ?_) fun _ _ e => e)
    obtain ⟨rfl, rfl⟩ := z
    refine wpAny_bind (m := tryCompare (.int i t) _ (.ref o)) (wpAny_mono m2 (fun r s2 z => ?_) fun _ _ e => e)
    obtain ⟨rfl, rfl⟩ := z
    exact wpAny_bind (wpAny_rule (wpAny_bind (oi_same (wpAny_pure h))))
  · rename_i z
    exact absurd (by simp) z
end
/-! the answers of except and isinstance for own classes -/
theorem exm_self {K : PySem.W.Frag} {C : Addr} (be : PySem.W.subIn K (.ref C) (.type "BaseException") = some true) (iC : PySem.W.isClsIn K C = true) (tC : PySem.W.typeIn K (.ref C) = some (.type "type")) (sC : PySem.W.subIn K (.ref C) (.ref C) = some true) :
    PySem.W.exmOne K (.ref C) (.ref C) = some true := by
  unfold PySem.W.isClsIn at iC
  unfold PySem.W.exmOne PySem.W.kitCls
  simp only [be, iC, tC, sC]
  rfl
theorem kit_ref {K : PySem.W.Frag} {C D : Addr} (iD : PySem.W.isClsIn K D = true) (tD : PySem.W.typeIn K (.ref D) = some (.type "type")) (s : PySem.W.subIn K (.ref C) (.ref D) = some true) : PySem.W.kitOne K (.ref C) (.ref D) = some true := by
  unfold PySem.W.isClsIn at iD
  unfold PySem.W.kitOne PySem.W.kitCls
  simp only [iD, tD, s]
  split <;> rfl
theorem kit_typ {K : PySem.W.Frag} {C : Addr} {T : String} {b : Bool} (m : PySem.W.kitMeta T = true) (s : PySem.W.subIn K (.ref C) (.type T) = some b) : PySem.W.kitOne K (.ref C) (.type T) = some b := by
  unfold PySem.W.kitOne PySem.W.kitCls
  simp only [m, s]
  rfl
/-- a class without an __eq__ of its own -/
structure EqC (K : PySem.W.Frag) (C : Addr) : Prop where
  mo : PySem.W.mroIn K C (.type "object") = some true
  eq : PySem.W.findIn K (.ref C) "__eq__" = some (some (.builtin "object.__eq__"))
def rEqI (K : PySem.W.Frag) : R2 := fun x y H Q => ∃ a C dx fs i, x = .ref a ∧ y = .int i ∧ H a = some (.ins C dx fs) ∧ EqC K C ∧ Q (.bl false) H
theorem op_eqI {X : Cx} (hu : X.A.units < cLine) : OpR X (compareOp .Eq) (rEqI X.K) := by
  intro pins s σ H x y v u Q I rx ry h
  obtain ⟨a, C, dx, fs, i, rfl, rfl, ha, hE, q⟩ := h
  cases rx
  obtain ⟨t, rfl⟩ := ry
  obtain ⟨mA, O, _⟩ := ins_get I.hok ha
  obtain ⟨od, J, _⟩ := O.look
  exact oi_rc hu I.kIn J hE.mo hE.eq ⟨.bl false, H, I, rfl, q⟩
/-- x == i, where x may be an instance of the classes Cs -/
def oEqI (C : Addr) : TrO := fun x y os k => match x, y with
  | .ref a, .int _ => ∃ (n : Nat) (fs : List (Nat × D)), os[n]? = some (a, OO.ins C fs) ∧ k (.bl false) os
  | x, y => oEq x y os k
theorem cmo_eqI {lvl : Nat} {X : Cx} {C : Addr} (hr : Room lvl X.A) (hC : EqC X.K C) : CmO X (compareOp .Eq) (oEqI C) := by
  intro x y os k h
  unfold oEqI at h
  split at h
  · rename_i a i
    obtain ⟨n, fs, ho, q⟩ := h
    refine JO.mk (op_eqI (by have := hr.units; omega)) fun F V0 H v u Q r rx ry c => ?_
    obtain rfl := rx.toRef
    cases ry
    obtain ⟨_, _, ho', h3, dx, vf, rfl, _⟩ := r.own _ (List.mem_of_getElem? ho)
    exact ⟨a, C, dx, vf, i, rfl, rfl, h3, hC, c V0 os H _ _ (Same.refl _) r rwB q⟩
  · exact cmo_eq hr x y os k h
end EV

set_option Elab.async false
set_option linter.all false
set_option maxRecDepth 100000
/-! E15: calls with keywords. -/
namespace EV
open PySem PySem.Spec PyProof.Rows L2
/-- the weakest judgement of keywords -/
@[irreducible] def wK (X : Cx) (kws : List Keyword) : TA := fun σ H Q => ∀ (pos : Pos) (pins : List (Addr × Obj)) (s : Shared), Inv X pins σ H s → wpAny (model X.prog X.w) X.A (evalAll ((backToKw pos (keywordEach kws X.env)).map (·.2))) (AP X pins σ Q) X.xe s
theorem wK_pk {X : Cx} {kws : List Keyword} : PK X kws (wK X kws) := by unfold wK; exact ⟨fun pos pins s _ _ _ I h => h pos pins s I⟩
theorem wK_of {X : Cx} {kws : List Keyword} {t : TA} (h : PK X kws t) {σ : L2.St} {H : Hp} {Q : List V → Hp → Prop} (q : t σ H Q) : wK X kws σ H Q := by unfold wK; exact fun pos pins s I => h.run pos pins s σ H Q I q
def JK (X : Cx) (kx : Kx) (kws : List Keyword) (env : DEnv) (os : Os) (k : List D → Os → Prop) : Prop :=
  ∀ (F V0 H : Hp) (σ : L2.St) (Q : List V → Hp → Prop) (W : WX), Rel X.K F V0 os H → SR X.K V0 σ env → XkOk X F V0 σ kx W →
    (∀ (V1 : Hp) (os1 : Os) (H1 : Hp) (vs : List V) (ws : List D), Same V0 V1 → Rel X.K F V1 os1 H1 → RpA X.K V1 vs ws → k ws os1 → Q vs H1) → wK X kws σ H Q
def CmK (X : Cx) (kws : List Keyword) (t : TrA) (n : Nat) : Prop := ∀ kx env os k, t kx env os k → JK X kx kws env os fun ws os1 => ws.length = n ∧ k ws os1
section
variable {X : Cx} {e : Expr} {es : List Expr} {kws : List Keyword} {te : TrE} {tl tk : TrA} {n m : Nat} {nn : Option Str} {kpos p pos : Pos} {x : Str} {lvl : Nat} {T : FT} {C : Addr}
theorem ck_nil : CmK X [] aN 0 := fun kx env os kl q F V0 H σ Q W r sr ek c => wK_of pk_nil (c V0 os H [] [] (Same.refl _) r .nil ⟨rfl, q⟩)
theorem ck_cons (h : Cm X e te) (h2 : CmK X kws tk n) : CmK X (⟨nn, e, kpos⟩ :: kws) (aC te tk) (n + 1) := by
  intro kx env os kl q F V0 H σ Q W r sr ek c
  refine wK_of (pk_cons wE_pe wK_pk) ?_
  refine h _ _ _ _ q F V0 H σ _ W r sr ek fun V1 os1 H1 v w s1 r1 rv q => ?_
  exact h2 _ _ _ _ q F V1 H1 σ _ W r1 (sr.mono s1) (ek.mono s1) fun V2 os2 H2 vs ws s2 r2 rs ⟨hl, q2⟩ => c V2 os2 H2 (v :: vs) (w :: ws) (s1.trans s2) r2 (.cons (rv.mono s2) rs) ⟨congrArg (· + 1) hl, q2⟩
/-- a class by its name, made with keywords alone -/
structure CalKI (P : Program) (w : World) (K : PySem.W.Frag) (mg : Str → Option Value) (base : Heap) (lvl : Nat) (C : Addr) (x : Str) (n : Nat) (T : FT) (ks : List Str) (gD : List D → List D) : Prop where
  ex : ∃ (f : Addr) (fd : FuncData) (ps : List Str) (g : List Value → List Value → List Value) (gV : List V → List V → List V) (gT : List V → List V),
    FnOk P w K mg base (L2.CX P w) lvl f fd ps (spX K n T) ∧ Mk K C f ∧ KBn K fd ps 1 ks g gV ∧ mg x = some (.ref C) ∧ (∀ o zs, gV [o] zs = o :: gT zs) ∧
      (∀ (V0 : Hp) (zs : List V) (ws : List D), RpA K V0 zs ws → RpA K V0 (gT zs) (gD ws)) ∧ ∀ zs : List V, zs.length = ks.length → (gT zs).length + 1 = n
theorem run_makeKS {CX : CXT} {sp : Sp} {E : XK} {f : Addr} {fd : FuncData} {ps ks : List Str} {pins : List (Addr × Obj)} {σ : L2.St} {H : Hp} {s : Shared} {Q : VK} {g : List Value → List Value → List Value} {gV : List V → List V → List V} {ws : List Value} {zs : List V}
    (M : Mk X.K C f) (G : FnOk X.prog X.w X.K X.mg X.base CX lvl f fd ps sp) (hr : Room (lvl + 1) X.A) (hb : KBn X.K fd ps 1 ks g gV) (hx : PassesAt CX X σ E) (I : Inv X pins σ H s) (rz : Vals zs ws) (l2 : zs.length = ks.length)
    (h : ∀ x dx, H x = none → H dx = none → dx ≠ x → sp (gV [.ref x] zs) (upd (upd H dx (.own x)) x (.ins C dx [])) (fun v H2 => v = .non ∧ Q (.ref x) H2) E) :
    wpAny (model X.prog X.w) X.A (call (.ref C) [] (ks.zip ws)) (EP X pins σ Q) X.xe s := by
  have hq := h (s.heap.objs.size + 1) s.heap.objs.size (I.hok.fresh (Nat.le_add_right _ 1)) (I.hok.fresh (Nat.le_refl _)) (Nat.ne_of_lt (Nat.lt_add_one _))
  have I2 := Inv.made (C := C) I
  have r2 := hb.rel (vs := [V.ref (s.heap.objs.size + 1)]) (us := [Value.ref (s.heap.objs.size + 1)]) (.cons rfl .nil) rz
  have bd := hb.to _ [Value.ref (s.heap.objs.size + 1)] ws I2.kIn rfl (rz.length.symm.trans l2)
  refine wpAny_call (make_map (f := f) I.kIn M.makes M.init (beq_iff_eq.mp M.fn) (codeAny_mono (G.run _ X.stack _ _ ⟨[Value.ref (s.heap.objs.size + 1)], ks.zip ws⟩ _ _ _ E (hr.make C [] (ks.zip ws)) (I2.env0.make C [] (ks.zip ws)) bd r2 hq) fun r s' hq' => ?_))
  cases r with
  | error e => exact hx pins _ _ e s' I2 hq'
  | ok fl =>
    cases fl with
    | ret u =>
      obtain ⟨v, H', I3, rv, ev, q3⟩ := I2.after hq'
      subst ev
      exact ⟨rv, V.ref (s.heap.objs.size + 1), H', I3, rfl, q3⟩
    | next => exact hq'.elim
    | brk => exact hq'.elim
    | cont => exact hq'.elim
def eMakeK (C : Addr) (T : FT) (gD : List D → List D) (tk : TrA) : TrE := fun kx env os k => tk kx env os fun ws os1 => makeX T C (gD ws) os1 k kx
theorem cm_makeK {ks : List Str} {gD : List D → List D} (M : CalKI X.prog X.w X.K X.mg X.base lvl C x n T ks gD) (hr : Room (lvl + 1) X.A) (hg : Gl X x) (hk : CmK X kws tk ks.length) (hdb : (x == ("__debug__" : Str)) = false)
    (hall : (backToKw pos (keywordEach kws X.env)).all (·.1.isSome) = true) (hks : (backToKw pos (keywordEach kws X.env)).filterMap (·.1) = ks) (hpl : ((backTo pos (starEach [] X.env)).any (·.1) || (backToKw pos (keywordEach kws X.env)).any (·.1.isNone)) = false) :
    Cm X (.Call (.Name x p) [] kws pos) (eMakeK C T gD tk) := by
  obtain ⟨f, fd, ps, g, gV, gT, G, mk, hb, hm, h1, h2, h3⟩ := M.ex
  intro kx env os k h F V0 H σ Q W r sr ek c
  refine wE_mk fun pins s I => ?_
  refine wpAny_Call_Name_kw (ld_glob I hg hm ?_ hdb)
  refine PySem.W.callWith_KW0 (h₀ := X.base) I.ok.mod.kin mk.kp hall ?_ hpl
  refine thn (wK_pk.run pos pins s σ H (fun zs H1 => zs.length = ks.length ∧ ∀ x dx, H1 x = none → H1 dx = none → dx ≠ x → spX X.K n T (.ref x :: gT zs) (upd (upd H1 dx (.own x)) x (.ins C dx [])) (fun v H2 => v = .non ∧ Q (.ref x) H2) (WE W σ)) I ?_) fun ws s2 ⟨zs, H2, I2, rz, l2, q2⟩ => ⟨I2.kIn, ?_⟩
  · exact hk _ _ _ _ h F V0 H σ _ W r sr ek fun V1 os1 H1 vs ws s1 r1 rs ⟨hl, q⟩ => ⟨rs.length.trans hl, made_of r1 (h2 _ _ _ rs) (h3 _ (rs.length.trans hl)) q (ek.mono s1) fun V2 os2 H2 v w s2 r2 rv q2 => c V2 os2 H2 v w (s1.trans s2) r2 rv q2⟩
  · rw [hks]
    exact run_makeKS mk G hr hb (passAt ek.tk σ) I2 rz l2 fun x dx a b d => by rw [h1]; exact q2 x dx a b d
/-- a def by its name, called with n0 values and keywords -/
structure CalKX (P : Program) (w : World) (K : PySem.W.Frag) (mg : Str → Option Value) (base : Heap) (lvl : Nat) (x : Str) (n n0 : Nat) (T : FT) (ks : List Str) (gD : List D → List D → List D) : Prop where
  ex : ∃ (f : Addr) (fd : FuncData) (ps : List Str) (g : List Value → List Value → List Value) (gV : List V → List V → List V),
    FnOk P w K mg base (L2.CX P w) lvl f fd ps (spX K n T) ∧ mg x = some (.ref f) ∧ PySem.W.keepIn K (.ref f) = true ∧ KBn K fd ps n0 ks g gV ∧
      (∀ (V0 : Hp) (vs zs : List V) (us ws : List D), RpA K V0 vs us → RpA K V0 zs ws → RpA K V0 (gV vs zs) (gD us ws)) ∧ ∀ vs zs : List V, vs.length = n0 → zs.length = ks.length → (gV vs zs).length = n
theorem run_fnKS {CX : CXT} {sp : Sp} {E : XK} {f : Addr} {fd : FuncData} {ps ks : List Str} {pins : List (Addr × Obj)} {σ : L2.St} {H : Hp} {s : Shared} {Q : VK} {g : List Value → List Value → List Value} {gV : List V → List V → List V} {us ws : List Value} {vs zs : List V}
    (G : FnOk X.prog X.w X.K X.mg X.base CX lvl f fd ps sp) (hr : Room lvl X.A) (hb : KBn X.K fd ps n ks g gV) (hx : PassesAt CX X σ E) (I : Inv X pins σ H s) (rv : Vals vs us) (rz : Vals zs ws) (l1 : vs.length = n) (l2 : zs.length = ks.length) (h : sp (gV vs zs) H Q E) :
    wpAny (model X.prog X.w) X.A (call (.ref f) us (ks.zip ws)) (EP X pins σ Q) X.xe s := by
  have r2 := hb.rel rv rz
  have bd := hb.to s us ws I.kIn (rv.length.symm.trans l1) (rz.length.symm.trans l2)
  refine wpAny_call (codeAny_mono (G.run X.A X.stack s H ⟨us, ks.zip ws⟩ _ _ Q E hr I.env0 bd r2 h) fun r s' hq => ?_)
  cases r with
  | error e => exact hx pins H s e s' I hq
  | ok fl =>
    cases fl with
    | ret u => exact I.after hq
    | next => exact hq.elim
    | brk => exact hq.elim
    | cont => exact hq.elim
def eCallK (T : FT) (gD : List D → List D → List D) (tl tk : TrA) : TrE := fun kx env os k => tl kx env os fun us os1 => tk kx env os1 fun ws os2 => callX T (gD us ws) os2 k kx
theorem cm_callK {ks : List Str} {gD : List D → List D → List D} (CC : CalKX X.prog X.w X.K X.mg X.base lvl x n m T ks gD) (hr : Room lvl X.A) (hg : Gl X x) (ha : CmA X (e :: es) tl m) (hk : CmK X kws tk ks.length) (hdb : (x == ("__debug__" : Str)) = false)
    (hall : (backToKw pos (keywordEach kws X.env)).all (·.1.isSome) = true) (hks : (backToKw pos (keywordEach kws X.env)).filterMap (·.1) = ks) (he : starEach (e :: es) X.env = (false, eval e X.env) :: starEach es X.env)
    (hpl : ((backTo pos (starEach (e :: es) X.env)).any (·.1) || (backToKw pos (keywordEach kws X.env)).any (·.1.isNone)) = false) :
    Cm X (.Call (.Name x p) (e :: es) kws pos) (eCallK T gD tl tk) := by
  obtain ⟨f, fd, ps, g, gV, G, hm, hkp, hb, h2, h3⟩ := CC.ex
  intro kx env os k h F V0 H σ Q W r sr ek c
  refine wE_mk fun pins s I => ?_
  refine wpAny_Call_Name_kw (ld_glob I hg hm ?_ hdb)
  refine PySem.W.callWith_KW (h₀ := X.base) I.ok.mod.kin hkp hall (thn (wA_pa.run pos pins s σ H (fun vs H1 => wK X kws σ H1 fun zs H2 => vs.length = m ∧ zs.length = ks.length ∧ spX X.K n T (gV vs zs) H2 Q (WE W σ)) I ?_) fun us s1 ⟨vs, H1, I1, r1, q⟩ => ?_) hpl he
  · refine ha.2 _ _ _ _ h F V0 H σ _ W r sr ek fun V1 os1 H1 vs us s1 r1 rs ⟨hl, q⟩ => ?_
    refine hk _ _ _ _ q F V1 H1 σ _ W r1 (sr.mono s1) (ek.mono s1) fun V2 os2 H2 zs ws s2 r2 rz ⟨hl2, q⟩ => ?_
    have l1 := rs.length.trans hl
    have l2 := rz.length.trans hl2
    exact ⟨l1, l2, sp_of r2 (h2 _ _ _ _ _ (rs.mono s2) rz) (h3 _ _ l1 l2) q (ek.mono (s1.trans s2)) fun V3 os3 H3 v w s3 r3 rv q2 => c V3 os3 H3 v w ((s1.trans s2).trans s3) r3 rv q2⟩
  · refine thn (wK_pk.run pos pins s1 σ H1 _ I1 q) fun ws s2 ⟨zs, H2, I2, rz, l1, l2, q2⟩ => ⟨I2.kIn, ?_⟩
    rw [hks]
    exact run_fnKS G hr hb (passAt ek.tk σ) I2 r1 rz l1 l2 q2
end
/-! the parameters in their order: from the keywords' values (true), or a default (false) -/
def pick {α : Type} : List (Bool × Nat) → List α → List α → List α
  | [], _, _ => []
  | (true, i) :: r, ms, zs => zs[i]?.toList ++ pick r ms zs
  | (false, i) :: r, ms, zs => ms[i]?.toList ++ pick r ms zs
theorem paired_at {α β : Type} {R : α → β → Prop} : ∀ {xs : List α} {ys : List β} (i : Nat), Paired R xs ys → Paired R xs[i]?.toList ys[i]?.toList
  | _, _, _, .nil => by simp; exact .nil
  | _, _, 0, .cons h _ => .cons h .nil
  | _, _, i + 1, .cons _ r => by simp only [List.getElem?_cons_succ]; exact paired_at i r
theorem paired_app {α β : Type} {R : α → β → Prop} : ∀ {xs xs2 : List α} {ys ys2 : List β}, Paired R xs ys → Paired R xs2 ys2 → Paired R (xs ++ xs2) (ys ++ ys2)
  | _, _, _, _, .nil, h => h
  | _, _, _, _, .cons a r, h => .cons a (paired_app r h)
theorem paired_pick {α β : Type} {R : α → β → Prop} {ms zs : List α} {ns ws : List β} (h1 : Paired R ms ns) (h2 : Paired R zs ws) : ∀ idx : List (Bool × Nat), Paired R (pick idx ms zs) (pick idx ns ws)
  | [] => .nil
  | (true, i) :: r => paired_app (paired_at i h2) (paired_pick h1 h2 r)
  | (false, i) :: r => paired_app (paired_at i h1) (paired_pick h1 h2 r)
theorem rpA_at {K : PySem.W.Frag} {V0 : Hp} : ∀ {xs : List V} {ys : List D} (i : Nat), RpA K V0 xs ys → RpA K V0 xs[i]?.toList ys[i]?.toList
  | _, _, _, .nil => by simp; exact .nil
  | _, _, 0, .cons h _ => .cons h .nil
  | _, _, i + 1, .cons _ r => by simp only [List.getElem?_cons_succ]; exact rpA_at i r
theorem rpA_pick {K : PySem.W.Frag} {V0 : Hp} {ms zs : List V} {ns ws : List D} (h1 : RpA K V0 ms ns) (h2 : RpA K V0 zs ws) : ∀ idx : List (Bool × Nat), RpA K V0 (pick idx ms zs) (pick idx ns ws)
  | [] => .nil
  | (true, i) :: r => (rpA_at i h2).append (rpA_pick h1 h2 r)
  | (false, i) :: r => (rpA_at i h1).append (rpA_pick h1 h2 r)
def pickOk (a b : Nat) : List (Bool × Nat) → Bool
  | [] => true
  | (true, i) :: r => decide (i < a) && pickOk a b r
  | (false, i) :: r => decide (i < b) && pickOk a b r
theorem pick_len {α : Type} {ms zs : List α} : ∀ {idx : List (Bool × Nat)}, pickOk zs.length ms.length idx = true → (pick idx ms zs).length = idx.length
  | [], _ => rfl
  | (true, i) :: r, h => by
    rw [pickOk, Bool.and_eq_true, decide_eq_true_eq] at h
    rw [pick, List.getElem?_eq_getElem h.1, List.length_append, pick_len h.2]
    simp; omega
  | (false, i) :: r, h => by
    rw [pickOk, Bool.and_eq_true, decide_eq_true_eq] at h
    rw [pick, List.getElem?_eq_getElem h.1, List.length_append, pick_len h.2]
    simp; omega
theorem len_cons {α : Type} {l : List α} {n : Nat} (h : l.length = n + 1) : ∃ a r, l = a :: r ∧ r.length = n := by
  cases l with
  | nil => exact absurd h (by simp)
  | cons a r => exact ⟨a, r, rfl, by simpa using h⟩
section
variable {P : Program} {w : World} {K : PySem.W.Frag} {mg : Str → Option Value} {base : Heap} {lvl n n0 : Nat} {C f : Addr} {x : Str} {T : FT} {fd : FuncData} {ps ks : List Str} {idx : List (Bool × Nat)} {mV : List V} {mD : List D}
theorem calKI_of (G : FnOk P w K mg base (L2.CX P w) lvl f fd ps (spX K n T)) (M : Mk K C f) (hb : ∃ mv : List Value, KBn K fd ps 1 ks (fun us ws => us ++ pick idx mv ws) (fun vs zs => vs ++ pick idx mV zs)) (hm : mg x = some (.ref C))
    (hr : ∀ V0 : Hp, RpA K V0 mV mD) (hi : pickOk ks.length mV.length idx = true) (hn : idx.length + 1 = n) : CalKI P w K mg base lvl C x n T ks (fun ws => pick idx mD ws) := by
  obtain ⟨mv, hb⟩ := hb
  refine ⟨f, fd, ps, _, _, fun zs => pick idx mV zs, G, M, hb, hm, fun _ _ => rfl, fun V0 zs ws h => rpA_pick (hr V0) h idx, fun zs hz => ?_⟩
  rw [pick_len (by rw [hz]; exact hi), hn]
theorem calKX_of (G : FnOk P w K mg base (L2.CX P w) lvl f fd ps (spX K n T)) (hk : PySem.W.keepIn K (.ref f) = true) (hb : ∃ mv : List Value, KBn K fd ps n0 ks (fun us ws => us ++ pick idx mv ws) (fun vs zs => vs ++ pick idx mV zs)) (hm : mg x = some (.ref f))
    (hr : ∀ V0 : Hp, RpA K V0 mV mD) (hi : pickOk ks.length mV.length idx = true) (hn : n0 + idx.length = n) : CalKX P w K mg base lvl x n n0 T ks (fun us ws => us ++ pick idx mD ws) := by
  obtain ⟨mv, hb⟩ := hb
  refine ⟨f, fd, ps, _, _, G, hm, hk, hb, fun V0 vs zs us ws h1 h2 => h1.append (rpA_pick (hr V0) h2 idx), fun vs zs hv hz => ?_⟩
  rw [List.length_append, pick_len (by rw [hz]; exact hi), hv, hn]
end
end EV

set_option Elab.async false
set_option linter.all false
set_option maxRecDepth 100000
namespace EV
open PySem PySem.Spec PyProof.Rows L2
/-! keywords at any number: the binder's loops -/
theorem forIn_steps {α σ : Type} {f : α → σ → Sem (ForInStep σ)} (g : σ → α → σ) (P : List α → σ → Prop) (hs : ∀ a r s, P (a :: r) s → f a s = pure (.yield (g s a)) ∧ P r (g s a)) : ∀ (l : List α) (s : σ), P l s → forIn l s f = pure (l.foldl g s)
  | [], s, _ => rfl
  | a :: l, s, h => by
    obtain ⟨e, h2⟩ := hs a l s h
    rw [List.forIn_cons, e, pure_bind]
    exact forIn_steps g P hs l _ h2
theorem lk_none {k : Str} : ∀ {l : List (Str × Value)}, k ∉ l.map (·.1) → l.lookup k = none
  | [], _ => rfl
  | (a, b) :: l, h => by
    rw [List.map_cons, List.mem_cons, not_or] at h
    rw [List.lookup_cons, show (k == a) = false from by simpa using h.1]
    exact lk_none h.2
theorem lk_some {k : Str} : ∀ {l : List (Str × Value)}, k ∈ l.map (·.1) → (l.lookup k).isSome = true
  | [], h => by simp at h
  | (a, b) :: l, h => by
    rw [List.lookup_cons]
    by_cases e : k = a
    · rw [show (k == a) = true from by simpa using e]; rfl
    · rw [show (k == a) = false from by simpa using e]
      rw [List.map_cons, List.mem_cons] at h
      exact lk_some (h.resolve_left e)
theorem foldl_snoc {β : Type} : ∀ (l : List (Str × Value)) (s : List (Str × Value)) (e : β), l.foldl (fun (z : List (Str × Value) × β) x => (z.1 ++ [(x.1, x.2)], z.2)) (s, e) = (s ++ l, e)
  | [], s, e => by simp
  | x :: l, s, e => by
    rw [List.foldl_cons, foldl_snoc l]
    simp
def fillUp : List Str → List (Str × Value) → List (Str × Value) → List (Str × Value) → Prop
  | [], sl, [], sl2 => sl2 = sl
  | n :: r, sl, q, sl2 => if (sl.lookup n).isSome = true then fillUp r sl q sl2 else match q with
    | [] => False
    | (m, v) :: q => m = n ∧ fillUp r (sl ++ [(n, v)]) q sl2
  | [], _, _ :: _, _ => False
theorem chain_loop {α β : Type} {D : Addr} {R : α} {f : Str → List (Str × Value) × β → Sem (ForInStep (List (Str × Value) × β))} {k1 : Str → List (Str × Value) × β → Option Value → Sem (ForInStep (List (Str × Value) × β))} {cont : List (Str × Value) × β → Sem α} {sl2 : List (Str × Value)} {e : β}
    (hf : ∀ n s, f n s = if (s.1.lookup n).isNone = true then nsGet D n >>= k1 n s else pure (.yield s)) (hk : ∀ n s v, k1 n s (some v) = pure (.yield (s.1 ++ [(n, v)], s.2))) (hc : cont (sl2, e) = pure R) :
    ∀ (ko : List Str) (sl : List (Str × Value)) (q : List (Str × Value)), fillUp ko sl q sl2 → KwChain D q (forIn ko (sl, e) f >>= cont) R
  | [], sl, [], h => by
    have h : sl2 = sl := h
    subst h
    show (pure (sl2, e) >>= cont) = pure R
    rw [pure_bind]; exact hc
  | [], _, _ :: _, h => False.elim h
  | n :: r, sl, q, h => by
    rw [List.forIn_cons, hf]
    unfold fillUp at h
    cases hl : (sl.lookup n).isSome with
    | true =>
      rw [hl, if_pos rfl] at h
      rw [if_neg (by rw [Option.isNone_iff_eq_none]; intro z; rw [z] at hl; cases hl), pure_bind]
      exact chain_loop hf hk hc r sl q h
    | false =>
      rw [hl, if_neg Bool.false_ne_true] at h
      rw [if_pos (by rw [Option.isNone_iff_eq_none]; cases z : sl.lookup n with
        | none => rfl
        | some _ => rw [z] at hl; cases hl)]
      cases q with
      | nil => exact False.elim h
      | cons a q =>
        obtain ⟨m, v⟩ := a
        obtain ⟨rfl, h⟩ := h
        exact ⟨_, _, _, _, _, _, rfl, hk _ _ v, chain_loop hf hk hc r _ q h⟩
theorem bind_kw {fd : FuncData} {D : Addr} {ns ko : List Str} {kw q sl2 R : List (Str × Value)} {us : List Value} (h1 : fd.params.posonlyargs = []) (h2 : fd.params.args.map (·.arg) = ns) (h3 : fd.params.kwonlyargs.map (·.arg) = ko) (h4 : fd.params.vararg = none) (h5 : fd.params.kwarg = none) (h6 : fd.defaults = .none) (h7 : fd.kwdefaults = .ref D)
    (hu : us.length = ns.length) (hn : (ns ++ kw.map (·.1)).Nodup) (hm : ∀ p ∈ kw, ko.contains p.1 = true) (hq : fillUp ko (ns.zip us ++ kw) q sl2) (hR : (ns ++ ko).filterMap (fun n => (sl2.lookup n).map (n, ·)) = R) : KwChain D q (bindArgs fd ⟨us, kw⟩) R := by
  unfold bindArgs
  simp only [h1, h2, h3, h4, h5, h6, h7, List.map_nil, List.nil_append]
  rw [forIn_steps (fun z x => (z.1 ++ [(x.1, x.2)], z.2)) (fun l s => (∀ p ∈ l, ko.contains p.1 = true) ∧ (l.map (·.1)).Nodup ∧ ∀ p ∈ l, p.1 ∉ s.1.map (·.1))]
  · rw [foldl_snoc, pure_bind]
    show KwChain D q (do
      let z ← (pure none : Sem (Option (Array Value)))
      _) R
    rw [pure_bind]
    have e0 : ((none : Option (Array Value)).getD #[]).toList = [] := rfl
    simp only [e0, List.drop_nil, List.length_nil, Nat.sub_zero, List.take_length, List.drop_length, List.zip_nil_right, List.forIn_nil, pure_bind]
    rw [if_neg (by rw [hu]; simp)]
    have e1 : ns.filter (fun n => (List.lookup n (ns.zip us ++ kw)).isNone) = [] := by
      rw [List.filter_eq_nil_iff]
      intro n hn' z
      have hz : n ∈ (ns.zip us ++ kw).map (·.1) := by
        rw [List.map_append, List.map_fst_zip (by omega)]
        exact List.mem_append_left _ hn'
      have := lk_some hz
      rw [Option.isNone_iff_eq_none] at z
      rw [z] at this
      cases this
    rw [e1, if_neg (by simp)]
    refine chain_loop (sl2 := sl2) (e := []) (k1 := fun n s d => match d with
      | some v => pure (.yield (s.1 ++ [(n, v)], s.2))
      | none => pure (.yield (s.1, s.2 ++ [n]))) (fun n s => ?_) (fun n s v => rfl) ?_ ko _ q hq
    · rfl
    · dsimp only
      rw [if_neg (by simp), hR]
  · intro a r s ⟨c1, c2, c3⟩
    dsimp only
    rw [if_pos (by rw [c1 a (List.mem_cons_self ..)]; simp), if_neg (by rw [lk_none (c3 a (List.mem_cons_self ..))]; exact Bool.false_ne_true)]
    refine ⟨rfl, fun p hp => c1 p (List.mem_cons_of_mem _ hp), (List.nodup_cons.mp c2).2, fun p hp => ?_⟩
    rw [List.map_append, List.mem_append, not_or]
    refine ⟨c3 p (List.mem_cons_of_mem _ hp), ?_⟩
    intro z
    rw [List.map_cons, List.map_nil, List.mem_singleton] at z
    have z : p.1 = a.1 := z
    exact (List.nodup_cons.mp c2).1 (List.mem_map.mpr ⟨p, hp, z⟩)
  · obtain ⟨_, n2, n3⟩ := List.nodup_append.mp hn
    refine ⟨hm, n2, fun p hp z => ?_⟩
    rw [List.map_fst_zip (by omega)] at z
    exact n3 _ z _ (List.mem_map_of_mem hp) rfl
theorem fillUp_lack : ∀ (ko : List Str) (sl : List (Str × Value)) (mv : List Value), ko.Nodup → mv.length = (ko.filter fun n => !(sl.map (·.1)).contains n).length →
    fillUp ko sl ((ko.filter fun n => !(sl.map (·.1)).contains n).zip mv) (sl ++ (ko.filter fun n => !(sl.map (·.1)).contains n).zip mv)
  | [], sl, mv, _, _ => by simp [fillUp]
  | n :: r, sl, mv, hn, hm => by
    rw [List.nodup_cons] at hn
    unfold fillUp
    by_cases e : n ∈ sl.map (·.1)
    · rw [List.filter_cons_of_neg (by simpa using e)] at hm ⊢
      rw [if_pos (lk_some e)]
      exact fillUp_lack r sl mv hn.2 hm
    · rw [List.filter_cons_of_pos (by simpa using e)] at hm ⊢
      rw [lk_none e, if_neg (by exact Bool.false_ne_true)]
      cases mv with
      | nil => cases hm
      | cons v mv =>
        rw [List.zip_cons_cons]
        refine ⟨rfl, ?_⟩
        have ef : (r.filter fun n => !(sl.map (·.1)).contains n) = r.filter fun m => !((sl ++ [(n, v)]).map (·.1)).contains m := by
          refine List.filter_congr fun m hm' => ?_
          have hne : m ≠ n := fun z => hn.1 (z ▸ hm')
          simp [hne]
        have ih := fillUp_lack r (sl ++ [(n, v)]) mv hn.2 (by rw [← ef]; simpa using hm)
        rw [← ef, List.append_assoc, List.singleton_append] at ih
        exact ih
/-- the chain of a call with keywords, by closed facts about the names -/
theorem kw_chain {fd : FuncData} {D : Addr} {us ws mv : List Value} {R : List (Str × Value)} (ns ko ks lack : List Str) (h1 : fd.params.posonlyargs = []) (h2 : fd.params.args.map (·.arg) = ns) (h3 : fd.params.kwonlyargs.map (·.arg) = ko) (h4 : fd.params.vararg = none) (h5 : fd.params.kwarg = none) (h6 : fd.defaults = .none) (h7 : fd.kwdefaults = .ref D)
    (hu : us.length = ns.length) (hw : ws.length = ks.length) (hm : mv.length = lack.length) (hnd : (ns ++ ks).Nodup) (hc : ks.all ko.contains = true) (hl : (ko.filter fun n => !(ns ++ ks).contains n) = lack) (hko : ko.Nodup)
    (hR : (ns ++ ko).filterMap (fun n => (((ns.zip us ++ ks.zip ws) ++ lack.zip mv).lookup n).map (n, ·)) = R) : KwChain D (lack.zip mv) (bindArgs fd ⟨us, ks.zip ws⟩) R := by
  have ek : (ks.zip ws).map (·.1) = ks := List.map_fst_zip (by omega)
  have es : (ns.zip us ++ ks.zip ws).map (·.1) = ns ++ ks := by rw [List.map_append, ek, List.map_fst_zip (by omega)]
  refine bind_kw h1 h2 h3 h4 h5 h6 h7 hu (by rw [ek]; exact hnd) (fun p hp => ?_) ?_ hR
  · exact List.all_eq_true.mp hc p.1 (by rw [← ek]; exact List.mem_map_of_mem hp)
  · have h := fillUp_lack ko (ns.zip us ++ ks.zip ws) mv hko (by rw [es, hl]; exact hm)
    rw [es, hl] at h
    exact h
end EV

set_option Elab.async false
set_option linter.all false
set_option maxRecDepth 100000
/-! E17: enumerate over a tuple and a text, zip over tuples, for over a text, tuple(xs), index of texts. -/
namespace EV
open PySem PySem.Spec PyProof.Rows L2
/-! ### enumerate over anything that draws -/
/-- items told by yv, n of them, while C stands; each in a new pair -/
def Jen (n : Nat) (yv : Nat → V → Prop) (C : Hp → Prop) : It :=
  ⟨fun i H => i < n ∧ C H, fun i H v H' => ∃ T x, v = .ref T ∧ H T = none ∧ H' = upd H T (.tup [.int (i : Nat), x]) ∧ yv i x, fun i H => n ≤ i ∧ C H⟩
theorem turn_enumD {P : Program} {w : World} {K : PySem.W.Frag} {elts : List Expr} {kk : Nat} {tpos : Pos} {e it : Addr} {ty : String} {n : Nat} {yv : Nat → V → Prop} {C : Hp → Prop} {In : Nat → Heap → Prop} (hne : e ≠ it)
    (hobj : ∀ i h, In i h → ∃ o vs, h.get? it = some o ∧ o.cls = .type ty ∧ o.data = .fields vs)
    (hkp : ∀ i h h', In i h → (∀ o, h.get? it = some o → h'.get? it = some o) → In i h')
    (hd : ∀ (X : Cx), X.prog = P → X.w = w → X.K = K → X.calm = true → ∀ (pins : List (Addr × Obj)) (s : Shared) (σ : L2.St) (H : Hp) (i : Nat) (old : Value) (c : Int), Inv X pins σ H s → In i s.heap → IsEnum s.heap e it c old → C H →
      ∃ (fp : List Addr) (Pv : Nat → Value → Prop) (St : Nat → Heap → Prop), Draws P w X.A.in1 it fp n Pv St ∧ e ∉ fp ∧ St i s.heap ∧ (∀ j h, St j h → In j h) ∧ (i ≤ n) ∧ ∀ v, Pv i v → ∃ x, RelV x v ∧ yv i x) :
    Turn P w K (.Tuple elts kk tpos) (Jen n yv C) [e, it] e (fun i h => (∃ old, IsEnum h e it ((i : Nat) : Int) old) ∧ In i h) where
  mem := by simp
  obj := fun i h st b hb => by
    obtain ⟨⟨old, he⟩, hI⟩ := st
    obtain ⟨o, vs, ho, hc, hdd⟩ := hobj i h hI
    have e' : b = e ∨ b = it := by simpa using hb
    rcases e' with z | z
    · rw [z]; exact ⟨_, he, fun v q => nomatch q⟩
    · rw [z]; exact ⟨o, ho, fun v q => by rw [hdd] at q; cases q⟩
  keep := fun i h h' st k => let ⟨⟨old, he⟩, hi⟩ := st; ⟨⟨old, k e (by simp) _ he⟩, hkp i h h' hi fun o q => k it (by simp) o q⟩
  item := by
    intro X hP hw hK hc i pins s σ H E I hf st hg
    obtain ⟨hlt, hC⟩ := hg
    obtain ⟨⟨old, he⟩, hit⟩ := st
    obtain ⟨fp, Pv, St, D, hef, hst, hin, _, hyv⟩ := hd X hP hw hK hc pins s σ H i old _ I hit he hC
    subst hP hw hK
    obtain ⟨oi, vi, hoi, _, _⟩ := hobj i _ hit
    have hel : e < s.heap.objs.size := Heap.lt_size he
    have hil : it < s.heap.objs.size := Heap.lt_size hoi
    refine wpAny_pyNext_enum_itemD D he hst hlt hne hef fun x' h' tk hpx ho hst' hT hsz hk => ?_
    obtain ⟨x, rx, hy⟩ := hyv x' hpx
    refine ⟨_, rfl, wpAny_letOwnedTupleGo_enum (s := { s with heap := h', toks := tk + 1 }) ho fun h'' he' sb => ?_⟩
    have hT2 : h''.get? s.heap.objs.size = some { cls := .type "tuple", data := .seq #[.int i tk, x'] } := (sb.2 _ (Nat.ne_of_gt hel)).trans hT
    have nw : ObjOk X.prog X.w (upd H s.heap.objs.size (.tup [.int (i : Nat), x])) h'' s.heap.objs.size (.tup [.int (i : Nat), x]) :=
      ⟨by show 2 ≤ sizeLine; decide, [.int i tk, x'], .cons ⟨_, rfl⟩ (.cons rx .nil), ⟨_, hT2, rfl, _, rfl⟩⟩
    have I1 : Inv X pins σ (upd H s.heap.objs.size (.tup [.int (i : Nat), x])) { s with heap := h'', toks := tk + 1 } :=
      I.turnedNew (ch := [e, it]) (fun b ob hb q => (sb.2 b (fun z => hb (by simp [z]))).trans (hk b ob (fun z => hb (by simp [z])) (fun z => hb (by simp [z])) q)) hf (Nat.le_refl _) nw
    refine ⟨.ref s.heap.objs.size, _, I1, rfl, ⟨_, x, rfl, I.hok.fresh (Nat.le_refl _), rfl, hy⟩, ⟨⟨x', ?_⟩, hkp _ _ _ (hin _ _ hst') fun o q => (sb.2 it (Ne.symm hne)).trans q⟩, fun b hb => ?_⟩
    · have e1 : ((i + 1 : Nat) : Int) = (i : Int) + 1 := by omega
      rw [e1]; exact he'
    · have hb' : b < s.heap.objs.size := by
        have e' : b = e ∨ b = it := by simpa using hb
        rcases e' with z | z
        · rw [z]; exact hel
        · rw [z]; exact hil
      rw [upd_ne (Nat.ne_of_lt hb')]
      exact (hf b hb).1
  done := by
    intro X hP hw hK hc i pins s σ H E I hf st hg
    obtain ⟨hle, hC⟩ := hg
    obtain ⟨⟨old, he⟩, hit⟩ := st
    obtain ⟨fp, Pv, St, D, hef, hst, hin, hle2, hyv⟩ := hd X hP hw hK hc pins s σ H i old _ I hit he hC
    subst hP hw hK
    obtain ⟨f0, f1, f2, f3, f4, f5⟩ := hf it (by simp)
    have ei : i = n := Nat.le_antisymm hle2 hle
    rw [ei] at hst
    exact wpAny_pyNext_enum_endD D he hst fun h' eb => ⟨rfl, I.turned (t' := s.toks) (fun b o hb q => eb b o hb q) f0 f1 f3 f4 f5⟩
  self := fun A i s Q E st h => let ⟨⟨_, he⟩, _⟩ := st; wpAny_pyIter_enum he h
/-- the characters of a text -/
def chs (x : Str) : List D := x.cps.toList.map fun c => D.str ⟨#[c]⟩
set_option maxHeartbeats 1000000 in
theorem new_enumB {v : Value} {ob : Obj} {HB : Heap → Prop} (B : Begins v ob HB) :
    Meets (Builtin.«enumerate.__new__» ⟨[.type "enumerate", v], []⟩) (fun _ R sh => HB sh.heap ∧
      R (.ok (.ret (.ref (sh.heap.push ob).objs.size))) { sh with heap := (sh.heap.push ob).push { cls := .type "enumerate", data := .fields #[.none, .bool false, .ref sh.heap.objs.size, rawInt 0, .none, .none] } }) :=
  .of_wp fun prog w A R sh hh => by
    obtain ⟨hp, g, dr, tk, os⟩ := sh
    obtain ⟨hB, hR⟩ := hh
    have hsub := sub_enumerate
    have it1 : ∀ {A' : Around} {E' : Value → Shared → Prop} {Q' : Value → Shared → Prop}, Q' (.ref hp.objs.size) ⟨hp.push ob, g, dr, tk, os⟩ → wpAny (model prog w) A' (pyIter v) Q' E' ⟨hp, g, dr, tk, os⟩ :=
      fun q => B.iter prog w _ _ ⟨hp, g, dr, tk, os⟩ _ hB q
    wp_walk using it1
    refine wpAny_stack_any fun st => wpAny_pure ?_
    split
    · rename_i c _ _ _ _ _
      cases (c == Value.type "enumerate")
      all_goals (wp_walk using it1; exact ⟨_, rfl, hR⟩)
    · wp_walk using it1
      exact ⟨_, rfl, hR⟩
theorem call_enumB {prog : Program} {w : World} {A : Around} {E : Value → Shared → Prop} {sh : Shared} {v : Value} {ob : Obj} {HB : Heap → Prop} {Q : Value → Shared → Prop} (B : Begins v ob HB) (hB : HB sh.heap)
    (hq : ∀ h', IsEnum h' (sh.heap.objs.size + 1) sh.heap.objs.size 0 .none → h'.get? sh.heap.objs.size = some ob → h'.objs.size = sh.heap.objs.size + 2 →
      (∀ b o, sh.heap.get? b = some o → h'.get? b = some o) → Q (.ref (sh.heap.objs.size + 1)) { sh with heap := h' }) :
    wpAny (model prog w) A (call (.type "enumerate") [v]) Q E sh := by
  refine callType_new F.called_enumerate (by decide) (F.typeCall_enumerate_1 _) (F.newCall_enumerate_1 _) (fun obj => F.args_object_init_2 obj _) F.entry_enumerate_new (new_enumB B) ⟨hB, ?_⟩
  have hz : (sh.heap.push ob).objs.size = sh.heap.objs.size + 1 := Heap.size_push ..
  show _ ∧ _
  rw [hz]
  have he := Heap.get?_push_size (sh.heap.push ob) (o := { cls := .type "enumerate", data := .fields #[.none, .bool false, .ref sh.heap.objs.size, rawInt 0, .none, .none] }) rfl
  rw [hz] at he
  exact ⟨⟨_, he, rfl⟩, hq _ he (Heap.get?_push_of_some _ (Heap.get?_push_size _ B.free)) (by rw [Heap.size_push, hz]) fun b o y => Heap.get?_push_of_some _ (Heap.get?_push_of_some _ y)⟩
def JenT (K : PySem.W.Frag) (a : Addr) (xs : List V) : It := Jen xs.length (fun i v => xs[i]? = some v) (fun H => SqT K H a xs)
def JenS (x : Str) : It := Jen x.cps.size (fun i v => ∃ c, x.cps[i]? = some c ∧ v = .str ⟨#[c]⟩) (fun _ => True)
theorem turn_enumT {P : Program} {w : World} {K : PySem.W.Frag} {elts : List Expr} {kk : Nat} {tpos : Pos} {a : Addr} {xs : List V} (e it : Addr) (hne : e ≠ it) :
    Turn P w K (.Tuple elts kk tpos) (JenT K a xs) [e, it] e (fun i h => (∃ old, IsEnum h e it ((i : Nat) : Int) old) ∧ h.IsTupleIter it a i ∧ i ≤ xs.length) := by
  refine turn_enumD (ty := "tuple_iterator") hne (fun i h hi => ?_) (fun i h h' hi hk => ⟨hi.1.at fun o q => hk o q, hi.2⟩) fun X hP hw hK hc pins s σ H i old c I hi he hC => ?_
  · obtain ⟨⟨o, ho, hc, hd⟩, _⟩ := hi
    exact ⟨o, _, ho, hc, hd⟩
  · subst hP hw hK
    obtain ⟨its, rv, p, hz⟩ := I.tuple hC
    have hl := rv.length
    have hh : X.A.in1.handled = none := I.ok.hd hc
    have ht : a ≠ it := fun z => by
      obtain ⟨⟨o1, h1, c1, _⟩, _⟩ := hi
      obtain ⟨o2, h2, c2, _⟩ := p
      rw [z, h1] at h2; cases h2
      rw [c1] at c2; exact absurd c2 (by decide)
    have hte : e ≠ a := fun z => by
      obtain ⟨o2, h2, c2, _⟩ := p
      rw [← z] at h2
      rw [show s.heap.get? e = _ from he] at h2; cases h2
      exact absurd (show Value.type "enumerate" = Value.type "tuple" from c2) (by decide)
    have D := Draws.tuple (prog := X.prog) (w := X.w) hh it a ht its.toArray
    rw [show its.toArray.size = xs.length by simp only [List.size_toArray]; omega] at D
    refine ⟨_, _, fun j h => (h.IsTupleIter it a j ∧ h.IsTuple a its.toArray) ∧ j ≤ xs.length, ⟨fun j h st => D.live j h st.1, fun j h h' st q => ⟨D.frame j h h' st.1 q, st.2⟩, fun j s Q E hj st hQ => D.item j s Q E hj st.1 fun x h' tk p1 p2 p3 => hQ x h' tk p1 ⟨p2, hj⟩ p3, fun s Q E st hE => D.done s Q E st.1 hE⟩, by simp [hne, hte], ⟨⟨hi.1, p⟩, hi.2⟩, fun j h st => ⟨st.1.1, st.2⟩, hi.2, fun v hv => ?_⟩
    have hv : its[i]? = some v := by simpa using hv
    have hlt : i < xs.length := by have := (List.getElem?_eq_some_iff.mp hv).1; omega
    obtain ⟨u, hu, ru⟩ := rv.get (List.getElem?_eq_getElem hlt)
    rw [hv] at hu; cases hu
    exact ⟨_, ru, List.getElem?_eq_getElem hlt⟩
theorem turn_enumS {P : Program} {w : World} {K : PySem.W.Frag} {elts : List Expr} {kk : Nat} {tpos : Pos} {x : Str} {t : Tok} (e it : Addr) (hne : e ≠ it) :
    Turn P w K (.Tuple elts kk tpos) (JenS x) [e, it] e (fun i h => (∃ old, IsEnum h e it ((i : Nat) : Int) old) ∧ h.IsStrIter it (strIterType x) x t i ∧ i ≤ x.cps.size) := by
  refine turn_enumD (ty := strIterType x) hne (fun i h hi => ?_) (fun i h h' hi hk => ⟨let ⟨o, ho, r⟩ := hi.1; ⟨o, hk o ho, r⟩, hi.2⟩) fun X hP hw hK hc pins s σ H i old c I hi he hC => ?_
  · obtain ⟨⟨o, ho, hc, hd⟩, _⟩ := hi
    exact ⟨o, _, ho, hc, hd⟩
  · subst hP hw hK
    have hh : X.A.in1.handled = none := I.ok.hd hc
    have D := Draws.text (prog := X.prog) (w := X.w) hh it x t
    refine ⟨_, _, fun j h => h.IsStrIter it (strIterType x) x t j ∧ j ≤ x.cps.size, ⟨fun j h st => D.live j h st.1, fun j h h' st q => ⟨D.frame j h h' st.1 q, st.2⟩, fun j s Q E hj st hQ => D.item j s Q E hj st.1 fun v h' tk p1 p2 p3 => hQ v h' tk p1 ⟨p2, hj⟩ p3, fun s Q E st hE => D.done s Q E st.1 hE⟩, by simp [hne], hi, fun j h st => st, hi.2, fun v hv => ?_⟩
    obtain ⟨c, u, hcx, rfl⟩ := hv
    exact ⟨.str ⟨#[c]⟩, ⟨u, rfl⟩, c, hcx, rfl⟩
def iEnAny (K : PySem.W.Frag) (ta : TA) : TI := fun σ H R => ta σ H fun vs H1 => ∃ v, vs = [v] ∧ ((∃ a xs, v = .ref a ∧ SqL K H1 a xs ∧ R (Ite K a) H1) ∨ (∃ a xs, v = .ref a ∧ SqT K H1 a xs ∧ R (JenT K a xs) H1) ∨ ∃ x, v = .str x ∧ R (JenS x) H1)
theorem pi_enumAny {X : Cx} {e : Expr} {ta : TA} {p pos tpos : Pos} {elts : List Expr} {kk : Nat} (hg : Gl X "enumerate") (hm : X.mg "enumerate" = none) (ha : PA X [e] ta) (hs : starEach [e] X.env = [(false, eval e X.env)]) :
    PI X (.Tuple elts kk tpos) (.Call (.Name "enumerate" p) [e] [] pos) (iEnAny X.K ta) := by
  refine ⟨fun pins s σ H R I h => ?_⟩
  refine Call_ (ld_blt I hg hm boot_enumerate (PyProof.Rows.callWith_type1 (thn (ha.run pos pins s σ H _ I h) fun us s1 ⟨vs, H1, I1, r1, q1⟩ => ?_) hs rfl))
  have fpo : ∀ b ∈ [s1.heap.objs.size + 1, s1.heap.objs.size], FpOk X pins H1 b := fun b hb => by
    have e' : b = s1.heap.objs.size + 1 ∨ b = s1.heap.objs.size := by simpa using hb
    have hle : s1.heap.objs.size ≤ b := by
      rcases e' with z | z
      · rw [z]; exact Nat.le_add_right _ _
      · rw [z]; exact Nat.le_refl _
    exact I1.fpOk hle (I1.hok.fresh hle)
  obtain ⟨v, ex, q1⟩ := q1
  subst ex
  cases r1 with
  | cons r rr =>
    cases rr
    rcases q1 with ⟨a, xs, rfl, hq, q⟩ | ⟨a, xs, rfl, hq, q⟩ | ⟨x, rfl, q⟩
    · cases r
      obtain ⟨its, rv, p', hz⟩ := I1.list hq
      refine call_enumerate_list p'.isList fun h' he hit hsz hk => wpAny_pyIter_enum he ?_
      exact ⟨_, _, _, _, H1, rfl, I1.kept (t' := s1.toks) hk, turn_enum a (s1.heap.objs.size + 1) s1.heap.objs.size, ⟨⟨.none, he⟩, hit, Nat.succ_ne_self _⟩, fpo, q⟩
    · cases r
      obtain ⟨its, rv, p', hz⟩ := I1.tuple hq
      refine call_enumB (begins_tuple a its.toArray) p' fun h' he hit hsz hk => wpAny_pyIter_enum he ?_
      exact ⟨_, _, _, _, H1, rfl, I1.kept (t' := s1.toks) hk, turn_enumT (s1.heap.objs.size + 1) s1.heap.objs.size (Nat.succ_ne_self _), ⟨⟨.none, he⟩, ⟨_, hit, rfl, rfl⟩, Nat.zero_le _⟩, fpo, q⟩
    · obtain ⟨t, rfl⟩ := r
      refine call_enumB (begins_text x t) trivial fun h' he hit hsz hk => wpAny_pyIter_enum he ?_
      exact ⟨_, _, _, _, H1, rfl, I1.kept (t' := s1.toks) hk, turn_enumS (x := x) (t := t) (s1.heap.objs.size + 1) s1.heap.objs.size (Nat.succ_ne_self _), ⟨⟨.none, he⟩, ⟨_, hit, rfl, rfl⟩, Nat.zero_le _⟩, fpo, q⟩

theorem gi_enumT {K : PySem.W.Frag} {V1 : Hp} {a : Addr} {xs : List V} {ds : List D} (h : SqT K V1 a xs) (r : RpA K V1 xs ds) : GI K V1 (JenT K a xs) (enumW 0 ds) none := by
  have hl := r.length
  have hs : ∀ {F V2 : Hp} {os : Os} {H : Hp}, Same V1 V2 → Rel K F V2 os H → SqT K H a xs := fun s2 r2 => same_sqT (s2.trans r2.vi) h
  refine ⟨fun i F V2 os H s2 r2 _ hi => ⟨by rw [enumW_len] at hi; omega, hs s2 r2⟩, fun i F V2 os H s2 r2 _ hi => ⟨by rw [enumW_len] at hi; omega, hs s2 r2⟩, fun i F V2 os H x H' w s2 r2 _ y e => ?_⟩
  obtain ⟨T, v, rfl, hT, rfl, ex⟩ := y
  obtain ⟨d, ed, rd⟩ := r.getV ex
  obtain ⟨d', ed', rfl⟩ := enumW_get e
  rw [ed] at ed'; cases ed'
  obtain ⟨s3, r3, rp⟩ := rel_newT (vs := [.int (i : Nat), v]) (ds := [.int (i : Nat), d]) r2 hT (.cons (.int _) (.cons (Rp.mono s2 rd) .nil))
  rw [Int.zero_add]
  exact ⟨_, s3, r3, rp⟩
theorem chs_len (x : Str) : (chs x).length = x.cps.size := by simp [chs]
theorem chs_get {x : Str} {i : Nat} {w : D} (h : (chs x)[i]? = some w) : ∃ c, x.cps[i]? = some c ∧ w = .str ⟨#[c]⟩ := by
  unfold chs at h
  rw [List.getElem?_map] at h
  obtain ⟨c, hc, rfl⟩ := Option.map_eq_some_iff.mp h
  exact ⟨c, by simpa using hc, rfl⟩
theorem gi_enumS {K : PySem.W.Frag} {V1 : Hp} {x : Str} : GI K V1 (JenS x) (enumW 0 (chs x)) none := by
  refine ⟨fun i F V2 os H s2 r2 _ hi => ⟨by rw [enumW_len, chs_len] at hi; exact hi, trivial⟩, fun i F V2 os H s2 r2 _ hi => ⟨by rw [enumW_len, chs_len] at hi; exact hi, trivial⟩, fun i F V2 os H v H' w s2 r2 _ y e => ?_⟩
  obtain ⟨T, v, rfl, hT, rfl, c, hc, rfl⟩ := y
  obtain ⟨d', ed', rfl⟩ := enumW_get e
  obtain ⟨c', hc', rfl⟩ := chs_get ed'
  rw [hc] at hc'; cases hc'
  obtain ⟨s3, r3, rp⟩ := rel_newT (vs := [.int (i : Nat), .str ⟨#[c]⟩]) (ds := [.int (i : Nat), .str ⟨#[c]⟩]) r2 hT (.cons (.int _) (.cons (.str _) .nil))
  rw [Int.zero_add]
  exact ⟨_, s3, r3, rp⟩
theorem gi_str {K : PySem.W.Frag} {V1 : Hp} {x : Str} : GI K V1 (Its x) (chs x) none := by
  refine ⟨fun i F V2 os H s2 r2 _ hi => by rw [chs_len] at hi; exact hi, fun i F V2 os H s2 r2 _ hi => by rw [chs_len] at hi; exact hi, fun i F V2 os H v H' w s2 r2 _ y e => ?_⟩
  obtain ⟨rfl, c, hc, rfl⟩ := y
  obtain ⟨c', hc', rfl⟩ := chs_get e
  rw [hc] at hc'; cases hc'
  exact ⟨V2, Same.refl _, r2, .str _⟩
/-- enumerate(..): a list, owned or data, a tuple, a text -/
def iEnA (te : TrE) : TrI := fun kx env os ki => te kx env os fun w os1 => match w with
  | .lst ds => ki (enumW 0 ds) none os1
  | .tup ds => ki (enumW 0 ds) none os1
  | .str x => ki (enumW 0 (chs x)) none os1
  | .ref p => ∃ (n : Nat) (ws : List D), os1[n]? = some (p, OO.lst ws) ∧ ki (enumW 0 ws) (some (p, ws)) os1
  | _ => False
theorem ci_enA {X : Cx} {e : Expr} {te : TrE} {p pos : Pos} {elts : List Expr} {kk : Nat} {tpos : Pos} (hg : Gl X "enumerate") (hm : X.mg "enumerate" = none) (h : Cm X e te) (hs : starEach [e] X.env = [(false, eval e X.env)]) :
    CmI X (.Tuple elts kk tpos) (.Call (.Name "enumerate" p) [e] [] pos) (iEnA te) := by
  intro kx env os ki q F V0 H σ R W r sr ek c
  refine wPI_of (pi_enumAny hg hm (pa_cons wE_pe pa_nil hs) hs) ?_
  refine h _ _ _ _ q F V0 H σ _ W r sr ek fun V1 os1 H1 v w s1 r1 rv q => ?_
  split at q
  · obtain ⟨p, xs, rfl, h1, h2⟩ := rp_lst rv
    exact ⟨_, rfl, .inl ⟨p, xs, rfl, r1.vi.seq h1, c V1 os1 H1 _ _ _ s1 r1 (gi_enum h1 h2) q⟩⟩
  · obtain ⟨p, xs, rfl, h1, h2⟩ := rp_tup rv
    exact ⟨_, rfl, .inr (.inl ⟨p, xs, rfl, same_sqT r1.vi h1, c V1 os1 H1 _ _ _ s1 r1 (gi_enumT h1 h2) q⟩)⟩
  · cases rv
    exact ⟨_, rfl, .inr (.inr ⟨_, rfl, c V1 os1 H1 _ _ _ s1 r1 gi_enumS q⟩)⟩
  · obtain ⟨n, ws, ho, q⟩ := q
    obtain rfl := rv.toRef
    obtain ⟨_, _, ho', h3, vs, rfl, h4⟩ := r1.own _ (List.mem_of_getElem? ho)
    exact ⟨_, rfl, .inl ⟨_, vs, rfl, SqL.of h3, c V1 os1 H1 _ _ _ s1 r1 gi_enum_own q⟩⟩
  · exact q.elim
/-- for c in a text -/
def iStrD (te : TrE) : TrI := fun kx env os ki => te kx env os fun w os1 => match w with
  | .str x => ki (chs x) none os1
  | _ => False
theorem ci_strD {X : Cx} {e tge : Expr} {te : TrE} (h : Cm X e te) : CmI X tge e (iStrD te) := by
  intro kx env os ki q F V0 H σ R W r sr ek c
  refine wPI_of (pi_str wE_pe) ?_
  refine h _ _ _ _ q F V0 H σ _ W r sr ek fun V1 os1 H1 v w s1 r1 rv q => ?_
  split at q
  · cases rv
    exact ⟨_, rfl, c V1 os1 H1 _ _ _ s1 r1 gi_str q⟩
  · exact q.elim
theorem gi_zipT {K : PySem.W.Frag} {V1 : Hp} {a b : Addr} {xs ys : List V} {ds es : List D} (h : SqT K V1 a xs) (r : RpA K V1 xs ds) (h' : SqT K V1 b ys) (r' : RpA K V1 ys es) : GI K V1 (RZ.ItzT K a b) (zipW ds es) none := by
  have hl := r.length
  have hl' := r'.length
  have hs : ∀ {F V2 : Hp} {os : Os} {H : Hp}, Same V1 V2 → Rel K F V2 os H → SqT K H a xs ∧ SqT K H b ys := fun s2 r2 => ⟨same_sqT (s2.trans r2.vi) h, same_sqT (s2.trans r2.vi) h'⟩
  refine ⟨fun i F V2 os H s2 r2 _ hi => ?_, fun i F V2 os H s2 r2 _ hi => ?_, fun i F V2 os H x H' w s2 r2 _ y e => ?_⟩
  · rw [zipW_len] at hi
    exact ⟨xs, ys, xs[i]'(by omega), ys[i]'(by omega), (hs s2 r2).1, (hs s2 r2).2, by simp, by simp⟩
  · rw [zipW_len] at hi
    exact ⟨xs, ys, (hs s2 r2).1, (hs s2 r2).2, by omega⟩
  · obtain ⟨T, u, v, rfl, hT, rfl, y1, y2⟩ := y
    obtain ⟨d, ed, rd⟩ := r.getV (y1 xs (hs s2 r2).1)
    obtain ⟨d2, ed2, rd2⟩ := r'.getV (y2 ys (hs s2 r2).2)
    obtain ⟨d', e', ed', ee', rfl⟩ := zipW_get e
    rw [ed] at ed'; cases ed'
    rw [ed2] at ee'; cases ee'
    obtain ⟨s3, r3, rp⟩ := rel_newT (vs := [u, v]) (ds := [d, d2]) r2 hT (.cons (Rp.mono s2 rd) (.cons (Rp.mono s2 rd2) .nil))
    exact ⟨_, s3, r3, rp⟩
/-- zip of two lists, of two tuples -/
def iZipA (ta tb : TrE) : TrI := fun kx env os ki => ta kx env os fun w os1 => tb kx env os1 fun u os2 => match w with
  | .lst ds => (match u with
    | .lst es => ki (zipW ds es) none os2
    | _ => False)
  | .tup ds => (match u with
    | .tup es => ki (zipW ds es) none os2
    | _ => False)
  | _ => False
theorem ci_zipA {X : Cx} {a b : Expr} {ta tb : TrE} {p pos : Pos} {elts : List Expr} {kk : Nat} {tpos : Pos} (hg : Gl X "zip") (hm : X.mg "zip" = none) (h : Cm X a ta) (h2 : Cm X b tb)
    (hs : starEach [a, b] X.env = (false, eval a X.env) :: starEach [b] X.env) (hs2 : starEach [b] X.env = [(false, eval b X.env)]) (hpl : (backTo pos (starEach [b] X.env)).any (·.1) = false) :
    CmI X (.Tuple elts kk tpos) (.Call (.Name "zip" p) [a, b] [] pos) (iZipA ta tb) := by
  intro kx env os ki q F V0 H σ R W r sr ek c
  refine wPI_of (RZ.pi_zipA hg hm (pa_cons wE_pe (pa_cons wE_pe pa_nil hs2) hs) hs hpl) ?_
  refine h _ _ _ _ q F V0 H σ _ W r sr ek fun V1 os1 H1 v w s1 r1 rv q => ?_
  refine h2 _ _ _ _ q F V1 H1 σ _ W r1 (sr.mono s1) (ek.mono s1) fun V2 os2 H2 u y s2 r2 ru q => ?_
  split at q
  · split at q
    · obtain ⟨p, xs, rfl, h1, h2⟩ := rp_lst rv
      obtain ⟨p', ys, rfl, h3, h4⟩ := rp_lst ru
      exact ⟨p, p', xs, ys, rfl, .inl ⟨(s2.trans r2.vi).seq h1, r2.vi.seq h3, c V2 os2 H2 _ _ _ (s1.trans s2) r2 (gi_zip (s2.seq h1) (RpA.mono s2 h2) h3 h4) q⟩⟩
    · exact q.elim
  · split at q
    · obtain ⟨p, xs, rfl, h1, h2⟩ := rp_tup rv
      obtain ⟨p', ys, rfl, h3, h4⟩ := rp_tup ru
      exact ⟨p, p', xs, ys, rfl, .inr ⟨same_sqT (s2.trans r2.vi) h1, same_sqT r2.vi h3, c V2 os2 H2 _ _ _ (s1.trans s2) r2 (gi_zipT (same_sqT s2 h1) (RpA.mono s2 h2) h3 h4) q⟩⟩
    · exact q.elim
  · exact q.elim
/-- tuple(xs) -/
def cTup : TrC := fun ws os k => match ws with
  | [w] => (match w with
    | .tup ds => k (.tup ds) os
    | w => lstK w os fun ds => k (.tup ds) os)
  | _ => False
theorem cmc_tup {X : Cx} : CmC X (.type "tuple") cTup := by
  intro ws os k h
  unfold cTup at h
  split at h
  · split at h
    · exact JC.mk call_tuple_of fun F V0 H vs Q r rs c => by
        obtain ⟨v, rfl, rv⟩ := rs.one
        obtain ⟨a, xs, rfl, h1, h2⟩ := rp_tup rv
        exact ⟨a, xs, rfl, .inr ⟨same_sqT r.vi h1, c V0 os H _ _ (Same.refl _) r rv h⟩⟩
    · obtain ⟨ds, hd, q⟩ := lstK_of h
      exact JC.mk call_tuple_of fun F V0 H vs Q r rs c => by
        obtain ⟨v, rfl, rv⟩ := rs.one
        obtain ⟨a, xs, rfl, h1, h2⟩ := lstOf_of r rv hd
        refine ⟨a, xs, rfl, .inl ⟨h1, fun l hl => ?_⟩⟩
        obtain ⟨s2, r2, rp⟩ := rel_newT r hl h2
        exact c _ os _ _ (.tup ds) s2 r2 rp q
  · exact h.elim
/-! ### index of texts -/
theorem sidx_ne : ∀ (ns : List Str) (i : Str) (m : Nat), m < ns.idxOf i → ns[m]? ≠ some i
  | [], i, m, h => by simp at h
  | a :: r, i, 0, h => by
    rw [List.idxOf_cons] at h
    intro e
    have e : a = i := by simpa using e
    rw [e] at h
    simp at h
  | a :: r, i, m + 1, h => by
    rw [List.idxOf_cons] at h
    rw [List.getElem?_cons_succ]
    by_cases e : a = i
    · rw [e] at h; simp at h
    · rw [show (a == i) = false from beq_eq_false_iff_ne.mpr e] at h
      exact sidx_ne r i m (by simpa using h)
theorem rpA_str {K : PySem.W.Frag} {V0 : Hp} : ∀ {ys : List Str} {vs : List V}, RpA K V0 vs (ys.map D.str) → vs = ys.map V.str
  | [], _, h => by cases h; rfl
  | y :: ys, _, h => by
    cases h with
    | cons a b => cases a; rw [rpA_str b]; rfl
section
variable {X : Cx} {pos pos' apos cpos tpos : Pos} {o e : Expr} {to te : TrE}
/-- a tuple of texts that is a constant of the module -/
structure GlbT (K : PySem.W.Frag) (mg : Str → Option Value) (x : Str) (ys : List Str) : Prop where
  ex : ∃ (a : Addr) (ob : Obj), mg x = some (.ref a) ∧ K.lookup a = some ob ∧ ob.cls = .type "tuple" ∧ ob.dict = none ∧ ∀ V0 : Hp, Rp K V0 (.ref a) (.tup (ys.map D.str))
/-- T.index(e), T a constant -/
def eTIdx (ys : List Str) (te : TrE) : TrE := fun kx env os k => te kx env os fun y os2 => match y with
  | .str z => z ∈ ys ∧ k (.int (ys.idxOf z : Nat)) os2
  | _ => False
/-- xs.index(e): texts -/
def eLIdxS (to te : TrE) : TrE := fun kx env os k => to kx env os fun w os1 => eLCnt.lstH w os1 (te kx env os1 fun y os2 => match y with
  | .str z => ∃ ys : List Str, LstOf os2 w (ys.map D.str) ∧ z ∈ ys ∧ k (.int (ys.idxOf z : Nat)) os2
  | _ => False)
theorem cm_lidxS (h : Cm X o to) (h2 : Cm X e te) (hbase : attributeBase o "index" X.env (eval o X.env) = eval o X.env)
    (hfew : ((backTo cpos (starEach [e] X.env)).all (fun x => !x.1) && (backToKw cpos (keywordEach [] X.env)).all (fun x => x.1.isSome)
      && decide ([e].length + ([] : List Keyword).length + (if ([] : List Keyword).isEmpty then 0 else 1) < 30)) = true)
    (hline : (apos.endLine == cpos.line) = true) (hs : starEach [e] X.env = (false, eval e X.env) :: starEach [] X.env) :
    Cm X (.Call (.Attribute o "index" apos) [e] [] cpos) (eLIdxS to te) := by
  intro kx env os k q F V0 H σ Q W r sr ek c
  refine wE_of (pe_bm PySem.F.plainAttrs_list PySem.F.slot_list_index PySem.F.type_list_index mt_index wE_pe (pa_cons wE_pe pa_nil hs) hbase hfew hline hs) ?_
  refine h _ _ _ _ q F V0 H σ _ W r sr ek fun V1 os1 H1 v w s1 r1 rv q => ?_
  obtain ⟨a, rfl, ty, q⟩ := tyL_of r1 rv q
  refine ⟨ty, ?_⟩
  refine h2 _ _ _ _ q F V1 H1 σ _ W r1 (sr.mono s1) (ek.mono s1) fun V2 os2 H2 u y s2 r2 ru q => ?_
  split at q
  · rename_i i
    obtain ⟨ns, hl, hi, q⟩ := q
    obtain ⟨a', vs, e', h3, h4⟩ := lstOf_of r2 (rv.mono s2) hl
    cases e'
    have e3 := rpA_str h4
    subst e3
    cases ru
    have hj := List.idxOf_lt_length_iff.mpr hi
    refine ⟨a, _, .str i, ns.idxOf i, .str i, rfl, rfl, h3, rfl, List.all_eq_true.mpr fun x hx => ?_, ?_, ?_, fun m z' hm hz => ?_, c V2 os2 H2 _ _ (s1.trans s2) r2 rwI q⟩
    · obtain ⟨n, _, rfl⟩ := List.mem_map.mp hx; rfl
    · rw [List.getElem?_map, List.getElem?_eq_getElem hj, List.getElem_idxOf hj]; rfl
    · simp [eqV]
    · rw [List.getElem?_map] at hz
      obtain ⟨n, hn, rfl⟩ := Option.map_eq_some_iff.mp hz
      have ne : n ≠ i := fun e => sidx_ne ns i m hm (by rw [hn, e])
      simp [eqV, ne]
  · exact q.elim
theorem cm_tidx {x : Str} {ys : List Str} {p : Pos} (g : GlbT X.K X.mg x ys) (hg : Gl X x) (hd : (x == ("__debug__" : Str)) = false) (h2 : Cm X e te) (hbase : attributeBase (.Name x p) "index" X.env (eval (.Name x p) X.env) = eval (.Name x p) X.env)
    (hfew : ((backTo cpos (starEach [e] X.env)).all (fun x => !x.1) && (backToKw cpos (keywordEach [] X.env)).all (fun x => x.1.isSome)
      && decide ([e].length + ([] : List Keyword).length + (if ([] : List Keyword).isEmpty then 0 else 1) < 30)) = true)
    (hline : (apos.endLine == cpos.line) = true) (hs : starEach [e] X.env = (false, eval e X.env) :: starEach [] X.env) :
    Cm X (.Call (.Attribute (.Name x p) "index" apos) [e] [] cpos) (eTIdx ys te) := by
  obtain ⟨a, ob, h1, h3, h4, h5, h6⟩ := g.ex
  intro kx env os k q F V0 H σ Q W r sr ek c
  refine wE_of (pe_bm PySem.F.plainAttrs_tuple PySem.F.slot_tuple_index PySem.F.type_tuple_index mt_tup_index (pe_glob hg h1 (v := .ref a) rfl hd) (pa_cons wE_pe pa_nil hs) hbase hfew hline hs) ?_
  refine ⟨.inr (.inl ⟨rfl, ob, h3, h4, h5⟩), ?_⟩
  refine h2 _ _ _ _ q F V0 H σ _ W r sr ek fun V2 os2 H2 u y s2 r2 ru q => ?_
  unfold eTIdx at q
  split at q
  · rename_i z
    obtain ⟨hi, q⟩ := q
    cases ru
    obtain ⟨a', xs, e', h7, h8⟩ := rp_tup (h6 V2)
    cases e'
    have e3 := rpA_str h8
    subst e3
    have hj := List.idxOf_lt_length_iff.mpr hi
    exact ⟨a, ys, z, ys.idxOf z, rfl, rfl, same_sqT r2.vi h7, by rw [List.getElem?_eq_getElem hj, List.getElem_idxOf hj], fun m hm => sidx_ne ys z m hm, c V2 os2 H2 _ _ s2 r2 rwI q⟩
  · exact q.elim
end
end EV

set_option Elab.async false
set_option linter.all false
set_option maxRecDepth 100000
/-! E18: defs that call themselves: nothing is promised without fuel. -/
namespace EV
open PySem PySem.Spec PyProof.Rows L2
def noT : FT := fun _ _ _ _ => False
theorem okNo {P : Program} {w : World} {K : PySem.W.Frag} {mg : Str → Option Value} {base : Heap} {x qual : Str} {st : Stmt} {f : Addr} {fd : FuncData} {N ps : List Str} {k n : Nat} (F : Fun K x qual st f fd) (sc : FnScope N ps (defScope st)) (hn : ps.length = n) :
    FnOk P w K mg base (L2.CX P w) (k + 1) f fd ps (spX K n noT) := by
  refine F.okX sc (fun vs H Q E h => h.1.trans hn.symm) fun cdv A outer s H vs Q E hr hsp => ?_
  obtain ⟨hl, F0, V0, os, ws, k0, x0, r, ra, hT, c, cx⟩ := hsp
  exact hT.elim
section
variable {X : Cx} {o e : Expr} {apos cpos : Pos} {to te : TrE}
theorem list_extendW (l : Addr) (items : Array Value) (n : Nat) (b : Addr) (items2 : Array Value) (n2 : Nat) (dd2 : Option Addr) (sl2 : Array (Option Value)) (hc0 : ¬(!items.isEmpty && Builtin.List.listTooLong (items.size + items2.size)) = true) (hc1 : items.size ≤ sizeLine) (hs2 : items.size + items2.size ≤ sizeLine + 1) :
    Meets (Builtin.«list.extend» ⟨[.ref l, .ref b], []⟩) (fun _ R s => s.heap.get? l = some { cls := .type "list", dict := none, data := .seq items n, slots := #[] } ∧ s.heap.get? b = some { cls := .type "list", dict := dd2, data := .seq items2 n2, slots := sl2 } ∧ R (.ok (.ret Value.none)) { s with heap := s.heap.update l (Obj.mapSeq fun x => x ++ items2), toks := s.toks }) :=
  .of_wp fun prog w A R s h => by
    obtain ⟨hp, g, d, tk, os⟩ := s; obtain ⟨hl, hb, h⟩ := h; have f1 := AutoSeq1.idx_int; have f2 := AutoSeq1.sub_tuple_tuple; have f3 := AutoSeq1.sub_list_list; have f4 := AutoSeq1.sub_tuple_list; have f5 := AutoSeq1.sub_list_tuple
    have hz' : (items ++ items2).size ≤ sizeLine + 1 := by rw [Array.size_append]; exact hs2
    wp_walk using (wpAny_updateSeq hl rfl (hz := hc1) (_hz' := hz')), AutoSeq1.wpAny_loadPart' hl, AutoSeq1.wpAny_loadPart' hb; exact ⟨_, rfl, h⟩
def rExtS (K : PySem.W.Frag) : V → List V → Hp → VK → Prop := fun x vs H Q => ∃ l b xs zs, x = .ref l ∧ vs = [.ref b] ∧ H l = some (.lst xs) ∧ SqL K H b zs ∧ xs.length + zs.length ≤ sizeLine ∧ Q .non (upd H l (.lst (xs ++ zs)))
theorem mt_extS : MtM X "list.extend" (rExtS X.K) := by
  intro pins s σ H x vs v us Q I rx rv h
  obtain ⟨l, b, xs, zs, rfl, rfl, hH, hB, hz, q⟩ := h
  cases rx
  obtain ⟨u, rfl, ru⟩ := rv.one
  cases ru
  obtain ⟨z, its, n, r, hl, e⟩ := I.lstM hH
  obtain ⟨its2, r2, ⟨⟨cls2, dd2, data2, sl2⟩, n2, ho2, hc2, hn2, hd2⟩, _⟩ := I.list hB
  simp only at hc2 hd2
  subst hc2 hd2
  have hl2 : zs.length = its2.length := r2.length
  have hsz : its.toArray.size + its2.toArray.size ≤ sizeLine := by rw [List.size_toArray, List.size_toArray]; omega
  have hlong : ¬ (!its.toArray.isEmpty && Builtin.List.listTooLong (its.toArray.size + its2.toArray.size)) = true := by
    rw [notLongL hsz, Bool.and_false]
    exact Bool.false_ne_true
  refine call_meets F.slot_list_extend ⟨_, e, rfl⟩ F.entry_list_extend (F.args_list_extend_2 _ _)
    (list_extendW l its.toArray n b its2.toArray n2 _ _ hlong (by rw [List.size_toArray]; omega) (by omega)) ⟨e, ho2, ?_⟩
  refine ⟨.non, _, I.lset (its' := its ++ its2) hH e (by simp) (r.append r2) ?_, rfl, q⟩
  rw [List.length_append]
  omega
theorem cm_ext (h : Cm X o to) (h2 : Cm X e te) (hbase : attributeBase o "extend" X.env (eval o X.env) = eval o X.env)
    (hfew : ((backTo cpos (starEach [e] X.env)).all (fun x => !x.1) && (backToKw cpos (keywordEach [] X.env)).all (fun x => x.1.isSome)
      && decide ([e].length + ([] : List Keyword).length + (if ([] : List Keyword).isEmpty then 0 else 1) < 30)) = true)
    (hline : (apos.endLine == cpos.line) = true) (hs : starEach [e] X.env = (false, eval e X.env) :: starEach [] X.env) :
    Cm X (.Call (.Attribute o "extend" apos) [e] [] cpos) (eExt to te) := by
  intro kx env os k q F V0 H σ Q W r sr ek c
  refine wE_of (pe_bm PySem.F.plainAttrs_list PySem.F.slot_list_extend PySem.F.type_list_extend mt_extS wE_pe (pa_cons wE_pe pa_nil hs) hbase hfew hline hs) ?_
  refine h _ _ _ _ q F V0 H σ _ W r sr ek fun V1 os1 H1 v w s1 r1 rv q => ?_
  obtain ⟨pl, n, ws, rfl, ho, q⟩ := onL_ref q
  obtain rfl := rv.toRef
  obtain ⟨vs, h3, h4, ty⟩ := own_ty r1 ho
  refine ⟨ty, ?_⟩
  refine h2 _ _ _ _ q F V1 H1 σ _ W r1 (sr.mono s1) (ek.mono s1) fun V2 os2 H2 u y s2 r2 ru ⟨m, us, ds, ho2, hy, hl, q⟩ => ?_
  obtain ⟨vs2, h5, h6, _⟩ := own_ty r2 ho2
  obtain ⟨b, ys, rfl, h7, h8⟩ := lstOf_of r2 ru hy
  refine ⟨pl, b, vs2, ys, rfl, rfl, h5, h7, by rw [h6.length, h8.length]; exact hl, ?_⟩
  exact c V2 _ _ _ .non (s1.trans s2) (r2.mut ho2 (oo' := .lst (us ++ ds)) ⟨vs2 ++ ys, rfl, h6.append h8⟩) rwN q
end
section
variable {X : Cx} {tge a : Expr} {p p2 pos pos2 : Pos} {ta : TrE}
/-- reversed(range(n)) -/
def iRv1 (ta : TrE) : TrI := fun kx env os ki => ta kx env os fun w os1 => match w with
  | .int j => -(2 ^ 62) ≤ j ∧ j < 2 ^ 62 ∧ ki (rng ((j.toNat : Int) - 1) (-1) j.toNat) none os1
  | _ => False
theorem ci_rev1 (hg2 : Gl X "reversed") (hm2 : X.mg "reversed" = none) (hg : Gl X "range") (hm : X.mg "range" = none) (h : Cm X a ta) (hs : starEach [a] X.env = (false, eval a X.env) :: starEach [] X.env)
    (hs2 : starEach [.Call (.Name "range" p) [a] [] pos] X.env = (false, eval (.Call (.Name "range" p) [a] [] pos) X.env) :: starEach [] X.env) :
    CmI X tge (.Call (.Name "reversed" p2) [.Call (.Name "range" p) [a] [] pos] [] pos2) (iRv1 ta) := by
  intro kx env os ki q F V0 H σ R W r sr ek c
  refine wPI_of (pi_revR hg2 hm2 (prg_1 hg hm wE_pe hs) hs2) ?_
  refine h _ _ _ _ q F V0 H σ _ W r sr ek fun V1 os1 H1 v w s1 r1 rv q => ?_
  split at q
  · rename_i j
    cases rv
    refine ⟨_, rfl, by decide, by decide, q.1, q.2.1, ?_⟩
    have e0 : (j - 0).toNat = j.toNat := by rw [Int.sub_zero]
    have e1 : (0 : Int) + (((j - 0).toNat : Nat) : Int) - 1 = (j.toNat : Int) - 1 := by rw [e0, Int.zero_add]
    rw [e1, e0]
    exact c V1 os1 H1 _ _ _ s1 r1 (gi_rngC _ _ _) q.2.2
  · exact q.elim
end
/-! all(a list of bools), sorted(a dict of ints), sorted(pairs of ints) -/
theorem rpA_bl {K : PySem.W.Frag} {H : Hp} : ∀ {ns : List Bool} {vs : List V}, RpA K H vs (ns.map D.bl) → vs = ns.map V.bl
  | [], _, h => by cases h; rfl
  | n :: ns, _, h => by
    cases h with
    | cons a b => cases a; rw [rpA_bl b]; rfl
section
variable {X : Cx}
def cAll : TrC := fun ws os k => match ws with
  | [w] => ∃ bs : List Bool, LstOf os w (bs.map D.bl) ∧ k (.bl (bs.all id)) os
  | _ => False
theorem cmc_all (hc : X.calm = true) : CmC X (.builtin "all") cAll := by
  intro ws os k h
  unfold cAll at h
  split at h
  · obtain ⟨bs, h1, q⟩ := h
    exact JC.mk (cr_all hc) fun F V0 H vs Q r rs c => by
      obtain ⟨v, rfl, rv⟩ := rs.one
      obtain ⟨a, xs, rfl, hs, ra⟩ := lstOf_of r rv h1
      have e := rpA_bl ra
      subst e
      exact ⟨a, bs, rfl, hs, c V0 os H _ _ (Same.refl _) r rwB q⟩
  · exact h.elim
def cSortDI : TrC := fun ws os k => match ws with
  | [w] => ∃ (kvs : List (Key × D)) (ks : List Int), DctOf os w kvs ∧ kvs.map (·.1) = ks.map Sum.inl ∧ ks.length < 64 ∧ ∀ ms : List Int, ms.Perm ks → ms.Pairwise (· ≤ ·) → k (.lst (ms.map D.int)) os
  | _ => False
theorem rpK_keys {K : PySem.W.Frag} {H : Hp} : ∀ {vs : List (Key × V)} {kvs : List (Key × D)}, RpK K H vs kvs → vs.map (·.1) = kvs.map (·.1)
  | _, _, .nil => rfl
  | _, _, .cons _ r => by rw [List.map_cons, List.map_cons, rpK_keys r]
theorem cmc_sortDI (hc : X.calm = true) : CmC X (.builtin "sorted") cSortDI := by
  intro ws os k h
  unfold cSortDI at h
  split at h
  · obtain ⟨kvs, ks, h1, h2, h3, q⟩ := h
    exact JC.mk (call_sortedDI hc) fun F V0 H vs Q r rs c => by
      obtain ⟨v, rfl, rv⟩ := rs.one
      obtain ⟨a, xs, rfl, hs, ra⟩ := dctOf_of r rv h1
      refine ⟨a, xs, ks, rfl, hs, (rpK_keys ra).trans h2, h3, fun ms p h1 h2 hp => ?_⟩
      obtain ⟨s2, r2, rp⟩ := rel_newL r hp (rpA_ints (K := X.K) (H := V0) ms)
      exact c _ os _ _ (.lst (ms.map D.int)) s2 r2 rp (q ms h1 h2)
  · exact h.elim
def rSortedPS (K : PySem.W.Frag) : List V → Hp → VK → Prop := fun vs H Q => ∃ (a : Addr) (xs : List V) (ps : List (Int × Int)) (k : V → Int × Int), vs = [V.ref a] ∧ SqL K H a xs ∧ (∀ x ∈ xs, ∃ t, x = V.ref t ∧ SqT K H t [.int (k x).1, .int (k x).2]) ∧
  (∀ (i : Nat) (x : V) (p : Int × Int), xs[i]? = some x → ps[i]? = some p → ∃ t, x = V.ref t ∧ SqT K H t [.int p.1, .int p.2]) ∧ xs.length = ps.length ∧
  ∀ ys p, SrtO.Srtd (ltP k) ys → SrtO.Stb (ltP k) ys xs → xs.map k = ps → H p = none → Q (.ref p) (upd H p (.lst ys))
theorem cr_sortedPS : CallR X (.builtin "sorted") (rSortedPS X.K) := by
  intro pins s σ H vs us Q I r h
  obtain ⟨a, xs, ps, k, rfl, hs, hx, hp, hlen, q⟩ := h
  have hk : xs.map k = ps := by
    apply List.ext_getElem?
    intro i
    rw [List.getElem?_map]
    by_cases hi : i < xs.length
    · have e1 : xs[i]? = some xs[i] := List.getElem?_eq_getElem hi
      have e2 : ps[i]? = some (ps[i]'(hlen ▸ hi)) := List.getElem?_eq_getElem _
      rw [e1, e2]
      obtain ⟨t, et, ht⟩ := hp i _ _ e1 e2
      obtain ⟨t', et', ht'⟩ := hx _ (List.getElem_mem hi)
      rw [et] at et'
      cases et'
      have e := I.tuple_inj ht ht'
      injection e with f1 f2
      injection f2 with f2 _
      injection f1 with f1
      injection f2 with f2
      exact congrArg some (Prod.ext f1.symm f2.symm)
    · rw [List.getElem?_eq_none (by omega), List.getElem?_eq_none (by omega)]
      rfl
  obtain ⟨its, rv, hl, hz⟩ := I.list hs
  obtain ⟨u, rfl, ru⟩ := vals1 r
  obtain rfl : u = Value.ref a := ru
  obtain ⟨e1, e2⟩ := refs_back rv fun x m => by
    obtain ⟨t, e, _⟩ := hx x m
    exact ⟨t, e⟩
  refine SrtO.sorted_pairsO (k := fun u => k (backV u)) hl.isList (by rw [← rv.length]; exact hz) (fun v hv => ?_) fun h' d out h1 h2 kp hd hn => ?_
  · obtain ⟨t, rfl⟩ := e2 v hv
    have hm : V.ref t ∈ xs := by rw [e1]; exact List.mem_map.mpr ⟨_, hv, rfl⟩
    obtain ⟨t', e, ht⟩ := hx _ hm
    cases e
    obtain ⟨its2, r2, ⟨o, ho, hc, n, hd⟩, _⟩ := I.tuple ht
    obtain ⟨u1, u2, rfl, ri, rj⟩ := vals2 r2
    obtain ⟨t1, rfl⟩ := ri
    obtain ⟨t2, rfl⟩ := rj
    exact ⟨t, o, t1, t2, n, rfl, ho, hc, hd⟩
  · have h3 : ∀ u ∈ out, ∃ a, u = Value.ref a := fun u hu => e2 u (h2.perm.mem_iff.mp hu)
    obtain ⟨n, hn⟩ := hn
    have hb : SrtO.Stb (ltP k) (out.map backV) xs := by
      rw [e1]
      exact SrtO.Stb.map (ltP_swo k) backV h2
    refine ⟨.ref d, upd H d (.lst (out.map backV)), I.laid (t' := s.toks) kp hd ⟨?_, out, n, vals_back h3, hn⟩, rfl, q _ d (SrtO.srtd_map h1) hb hk (I.hok.fresh hd)⟩
    rw [hb.len]
    exact hz
def prD (p : Int × Int) : D := .tup [.int p.1, .int p.2]
theorem rp_pr {K : PySem.W.Frag} {H : Hp} {v : V} {p : Int × Int} (h : Rp K H v (prD p)) : ∃ t, v = .ref t ∧ SqT K H t [.int p.1, .int p.2] := by
  obtain ⟨a, xs, rfl, h1, h2⟩ := rp_tup h
  cases h2 with
  | cons b c => cases b; cases c with
    | cons d e => cases d; cases e; exact ⟨a, rfl, h1⟩
theorem rpA_map {K : PySem.W.Frag} {H : Hp} {k : V → Int × Int} : ∀ ys : List V, (∀ y ∈ ys, Rp K H y (prD (k y))) → RpA K H ys ((ys.map k).map prD)
  | [], _ => .nil
  | y :: ys, h => .cons (h y List.mem_cons_self) (rpA_map ys fun z hz => h z (List.mem_cons_of_mem _ hz))
/-- sorted of pairs of ints -/
def cSortP : TrC := fun ws os k => match ws with
  | [w] => ∃ ps : List (Int × Int), LstOf os w (ps.map prD) ∧ ∀ ms : List (Int × Int), ms.Perm ps → ms.Pairwise (fun p q => p.1 < q.1 ∨ (p.1 = q.1 ∧ p.2 ≤ q.2)) → k (.lst (ms.map prD)) os
  | _ => False
theorem cmc_sortP : CmC X (.builtin "sorted") cSortP := by
  intro ws os kk h
  unfold cSortP at h
  split at h
  · obtain ⟨ps, h1, q⟩ := h
    exact JC.mk cr_sortedPS fun F V0 H vs Q r rs c => by
      obtain ⟨v, rfl, rv⟩ := rs.one
      obtain ⟨a, xs, rfl, hs, ra⟩ := lstOf_of r rv h1
      have hl : xs.length = ps.length := by rw [ra.length, List.length_map]
      have hat : ∀ (i : Nat) (x : V) (p : Int × Int), xs[i]? = some x → ps[i]? = some p → Rp X.K V0 x (prD p) := fun i x p e1 e2 => by
        obtain ⟨d, e3, r3⟩ := ra.getV e1
        rw [List.getElem?_map, e2] at e3
        cases e3
        exact r3
      have hch : ∀ x : V, ∃ p : Int × Int, x ∈ xs → Rp X.K V0 x (prD p) := fun x => by
        by_cases hx : x ∈ xs
        · obtain ⟨i, hi⟩ := List.mem_iff_getElem?.mp hx
          have hi2 : i < ps.length := by rw [← hl]; exact (List.getElem?_eq_some_iff.mp hi).1
          exact ⟨ps[i], fun _ => hat i x _ hi (List.getElem?_eq_getElem hi2)⟩
        · exact ⟨(0, 0), fun h => absurd h hx⟩
      let k : V → Int × Int := fun x => Classical.choose (hch x)
      have hk : ∀ x ∈ xs, Rp X.K V0 x (prD (k x)) := fun x hx => Classical.choose_spec (hch x) hx
      refine ⟨a, xs, ps, k, rfl, hs, fun x hx => ?_, fun i x p e1 e2 => ?_, hl, fun ys p g1 g2 g3 hp => ?_⟩
      · obtain ⟨t, e, h⟩ := rp_pr (hk x hx)
        exact ⟨t, e, same_sqT r.vi h⟩
      · obtain ⟨t, e, h⟩ := rp_pr (hat i x p e1 e2)
        exact ⟨t, e, same_sqT r.vi h⟩
      · obtain ⟨s2, r2, rp⟩ := rel_newL r hp (rpA_map (k := k) ys fun y hy => hk y (g2.perm.mem_iff.mp hy))
        refine c _ os _ _ (.lst ((ys.map k).map prD)) s2 r2 rp (q (ys.map k) (g3 ▸ g2.perm.map k) ?_)
        rw [List.pairwise_map]
        refine g1.imp fun {x y} h => ?_
        have := SrtO.lexB_no.mp h
        omega
  · exact h.elim
/-! > of two pairs of ints -/
def rGtP (K : PySem.W.Frag) : R2 := fun x y H Q => ∃ (a b : Addr) (i j i2 j2 : Int), x = .ref a ∧ y = .ref b ∧ SqT K H a [.int i, .int j] ∧ SqT K H b [.int i2, .int j2] ∧ Q (.bl (decide (i2 < i ∨ (i = i2 ∧ j2 < j)))) H
theorem op_gtP (hu : X.A.units < cLine) : OpR X (compareOp .Gt) (rGtP X.K) := by
  intro pins s σ H x y v u Q I rx ry h
  obtain ⟨a, b, i, j, i2, j2, rfl, rfl, ha, hb, q⟩ := h
  cases rx
  cases ry
  obtain ⟨its, r1, p1, _⟩ := I.tuple ha
  obtain ⟨its2, r2, p2, _⟩ := I.tuple hb
  obtain ⟨_, _, rfl, ⟨t1, rfl⟩, ⟨t2, rfl⟩⟩ := vals2 r1
  obtain ⟨_, _, rfl, ⟨t3, rfl⟩, ⟨t4, rfl⟩⟩ := vals2 r2
  have ee : ∀ (x y : Int) (t u : Tok), PySem.SeqAt.EqAt X.A.in1 s (.int x t) (.int y u) (decide (x = y)) := fun x y t u => by
    have z : (x == y) = decide (x = y) := by
      by_cases q : x = y
      · rw [decide_eq_true q]; exact beq_iff_eq.mpr q
      · rw [decide_eq_false q]; exact beq_eq_false_iff_ne.mpr q
    rw [← z]
    exact PySem.SeqAt.EqAt.int_int _ _ _ _
  have R := Ob.RcOp.tuples_gt (A := X.A) (s := s) (e := fun n => if n = 0 then decide (i = i2) else decide (j = j2)) (r := fun n => if n = 0 then decide (i2 < i) else decide (j2 < j)) p1 p2 hu (fun n h1 h2 => by
    match n, h1, h2 with
    | 0, _, _ => exact ee i i2 t1 t3
    | 1, _, _ => exact ee j j2 t2 t4) (fun n h1 h2 _ => by
    match n, h1, h2 with
    | 0, _, _ => exact Ob.RcOp.gt_int _ _ _ _
    | 1, _, _ => exact Ob.RcOp.gt_int _ _ _ _)
  have eb : Ob.lexAt (fun n => if n = 0 then decide (i = i2) else decide (j = j2)) (fun n => if n = 0 then decide (i2 < i) else decide (j2 < j)) false 0 2 = decide (i2 < i ∨ (i = i2 ∧ j2 < j)) := by
    simp only [Ob.lexAt]
    by_cases h1 : i = i2
    · by_cases h2 : j = j2
      · simp [h1, h2]
      · simp [h1, h2]
    · simp [h1]
  have z : wpAny (model X.prog X.w) X.A (compareOp .Gt (.ref a) (.ref b)) (EP X pins σ Q) X.xe s := R X.prog X.w X.xe (EP X pins σ Q) ⟨.bl _, H, I, rfl, by
    have e2 : (Ob.lexAt (fun n => if n = 0 then decide (i = i2) else decide (j = j2)) (fun n => if n = 0 then decide (i2 < i) else decide (j2 < j)) (decide (([Value.int i t1, Value.int j t2] : List Value).toArray.size > ([Value.int i2 t3, Value.int j2 t4] : List Value).toArray.size)) 0 (min ([Value.int i t1, Value.int j t2] : List Value).toArray.size ([Value.int i2 t3, Value.int j2 t4] : List Value).toArray.size)) = decide (i2 < i ∨ (i = i2 ∧ j2 < j)) := eb
    rw [e2]
    exact q⟩
  exact z
def oGtP : TrO := fun x y os k => match x, y with
  | .tup [.int i, .int j], .tup [.int i2, .int j2] => k (.bl (decide (i2 < i ∨ (i = i2 ∧ j2 < j)))) os
  | _, _ => False
theorem cmo_gtP {lvl : Nat} (hr : Room lvl X.A) : CmO X (compareOp .Gt) oGtP := by
  intro x y os k h
  unfold oGtP at h
  split at h
  · rename_i i j i2 j2
    refine JO.mk (op_gtP (by have := hr.units; omega)) fun F V0 H v u Q r rx ry c => ?_
    obtain ⟨t, rfl, h1⟩ := rp_pr (p := (i, j)) rx
    obtain ⟨t2, rfl, h2⟩ := rp_pr (p := (i2, j2)) ry
    exact ⟨t, t2, i, j, i2, j2, rfl, rfl, same_sqT r.vi h1, same_sqT r.vi h2, c V0 os H _ _ (Same.refl _) r rwB h⟩
  · exact h.elim
end
end EV

set_option Elab.async false
set_option linter.all false
set_option maxRecDepth 100000
/-! E19: the law's own def, called from the top (no repr is under way there); repr of data. -/
namespace EV
open PySem PySem.Spec PyProof.Rows L2
/-- the table of modules stands below -/
def SysIn (base : Heap) : Prop := ∃ (o : Obj) (es : Array DictEntry) (n : Nat), base.get? sysModules = some o ∧ o.data = .dict es n
/-- what the law's def promises when the top calls it -/
structure FnAt (P : Program) (w : World) (K : PySem.W.Frag) (mg : Str → Option Value) (base : Heap) (k : Nat) (f : Addr) (fd : FuncData) (ps : List Str) (sp : Sp) : Prop where
  run : ∀ (s : Shared) (H : Hp) (args : Args) (us : List Value) (vs : List V) (Q : VK), Room k callerA → Env0 P w K mg base callerA [] s H → BindsTo s fd args (ps.zip us) → Vals vs us → sp vs H Q (fun _ _ _ => False) →
    codeAny (model P w) callerA (.call (.ref f) args) (CR (L2.CX P w) [] P w H s Q fun _ _ _ => False) s
theorem FnAt.imp {P : Program} {w : World} {K : PySem.W.Frag} {mg : Str → Option Value} {base : Heap} {k : Nat} {f : Addr} {fd : FuncData} {ps : List Str} {sp sp2 : Sp} (F : FnAt P w K mg base k f fd ps sp) (h : ∀ vs H Q E, sp2 vs H Q E → sp vs H Q E) : FnAt P w K mg base k f fd ps sp2 :=
  ⟨fun s H args us vs Q hr he hb hv hs => F.run s H args us vs Q hr he hb hv (h _ _ _ _ hs)⟩
section
variable {P : Program} {w : World} {K : PySem.W.Frag} {mg : Str → Option Value} {base : Heap}
theorem atX {x qual : Str} {st : Stmt} {f : Addr} {fd : FuncData} {N ps : List Str} {k n m : Nat} {tb : TrS} (F : Fun K x qual st f fd) (sc : FnScope N ps (defScope st)) (hn : ps.length = n) (hm : N.length = m) (hnm : n ≤ m)
    (h : ∀ (cdv : Value) (s : Shared) (H : Hp), Room k (callerA.deeper (envOfC qual (defScope st) s.heap.objs.size f cdv)) →
      CmSs (cxOf (L2.CX P w) P w K mg base N qual (defScope st) f cdv callerA [] s H fun _ _ _ => False) (defBody st) tb) : FnAt P w K mg base (k + 1) f fd ps (spX K n (fnT m tb)) := by
  obtain ⟨oc, od, kV, doc, pm, an, cdv, ct, osl, rfl, lk, hcd⟩ := F.ex
  refine ⟨fun s H args us vs Q hr e0 hb rv hsp => ?_⟩
  have sp0 := hsp
  obtain ⟨hl, F0, V0, os, ws, k0, x0, r, ra, hT, c, cx⟩ := hsp
  have hlp : vs.length = ps.length := hl.trans hn.symm
  have KX : K.In s.heap := e0.mod.kin.keeps fun b o e => (e0.bs b o e).1
  have lim : s.heap.NoLimit := e0.mod.nolimit.keeps fun b o e => (e0.bs b o e).1
  have hkind : ∀ y ∈ ps.zip us, (defScope st).names.lookup y.1 = some .local ∨ ((defScope st).names.lookup y.1 = some .cell ∧ ((cellsFrom (s.heap.objs.size + 1) (defScope st).names []).lookup y.1).isSome = true) := by
    rintro ⟨n1, v1⟩ hy
    exact (sc.par n1 (List.of_mem_zip hy).1).imp id fun q => ⟨q, PySem.W.cellsFrom_some _ _ _ (.inl q)⟩
  refine codeAny_call_function hr.depth (KX _ _ lk) rfl sc.co sc.gen rfl (PySem.W.codeRec_of KX hcd) (hb _ _ _ _ ?_)
  refine wpAny_newFunctionEnv_cells sc.kind hkind fun env he s1 x => ?_
  subst he
  refine ⟨lim.keeps x.toInCall.keep, codeAny_func ?_⟩
  have hw : ws.length ≤ N.length := by rw [← ra.length]; omega
  have I := inv_start (CX := L2.CX P w) (E := fun _ _ _ => False) sc hr.hd e0 hlp rv x
  subst hm
  have ht : wSs (cxOf (L2.CX P w) P w K mg base N qual (defScope st) f cdv callerA [] s H fun _ _ _ => False) (defBody st) { nx := fun _ H' => Q .non H', rt := Q } (L2.start N vs) H := by
    refine h cdv s H (hr.deeper _) _ _ _ _ hT F0 V0 H _ _ (fun _ _ _ _ => False) r (sr_startE ra hw) ⟨fun V1 os1 H1 σ1 env1 s1 r1 sr1 q => ?_, fun V1 os1 H1 v w s1 r1 rv q => ?_, fun _ _ _ _ _ _ _ _ z => z.elim, fun _ _ _ _ _ _ _ _ z => z.elim,
      takes_of rfl rfl rfl rfl, fun V1 os1 H1 σ1 env1 cls d x s1 r1 sr1 ex q => ?_⟩
    · obtain ⟨os2, hs, q⟩ := dropX_of q
      exact c V1 os2 H1 _ _ s1 (r1.wk hs) rwN q
    · obtain ⟨os2, hs, q⟩ := dropX_of q
      exact c V1 os2 H1 v w s1 (r1.wk hs) rv q
    · obtain ⟨os2, hs, q⟩ := dropE_of q
      exact cx V1 os2 H1 cls d x s1 (r1.wk hs) ex q
  refine wpAny_mono (wSs_pss.run [] s1 (L2.start N vs) H _ I ht) (fun fl s2 hs => ?_) fun e s2 hs => hs
  cases fl with
  | ret u =>
    obtain ⟨v, σ2, H2, J, rv2, q⟩ := hs
    exact ⟨v, H2, J.os, J.bare, J.base, J.hok, rv2, q⟩
  | next =>
    obtain ⟨σ2, H2, J, q⟩ := hs
    exact ⟨V.non, H2, J.os, J.bare, J.base, J.hok, rfl, q⟩
  | brk => exact hs.elim fun _ z => z.elim fun _ z => z.2.elim
  | cont => exact hs.elim fun _ z => z.elim fun _ z => z.2.elim
end
/-- the law's def from the top, over any ground of tracked things -/
theorem top_at {P : Program} {w : World} {K : PySem.W.Frag} {mg mb : Str → Option Value} {k : Nat} {fa a : Addr} {fd : FuncData} {x : Str} {sp : Sp} {s1 : Shared} {us : List Value} {H : Hp}
    (KX : K.In s1.heap) (hm : s1.heap.Ns mainGlobals mg) (hb : s1.heap.Ns builtinsNs mb) (hbb : ∀ x : Str, x ≠ "__name__" → mb x = bootBuiltins x) (hlim : s1.heap.NoLimit) (hg : s1.gens = #[])
    (ha : s1.heap.get? a = some { cls := .type "list", data := .seq us.toArray }) (hr : Room k callerA) (F : ∀ base : Heap, K.In base → base.Ns mainGlobals mg → (SysIn s1.heap → SysIn base) → FnAt P w K mg base k fa fd [x] sp)
    (hbind : ∀ (s : Shared) (u : Value), BindsTo s fd ⟨[u], []⟩ [(x, u)]) (hO : Only H) (hok : HOk P w H s1.heap) (hA : ∀ b, H b ≠ none → b = a) (hK : H a ≠ none → K.lookup a = none)
    (hsp : sp [.ref a] H (fun v _ => v = .bl true) fun _ _ _ => False) :
    codeAny (model P w) callerA (.call (.ref fa) ⟨[.ref a], []⟩) (fun r s2 => r = .ok (.ret (.bool true)) ∧ OldK s1.heap s2.heap ∧ s2.os = s1.os ∧ AllBare s2.gens) s1 := by
  have seen : ∀ {b : Addr} {o : Obj}, s1.heap.get? b = some o → (b ≠ a ∨ H a = none) → (hidT s1.heap H).get? b = some o := fun {b o} e h => hidT_get e (by
    by_cases hn : H b = none
    · exact hn
    · have eb := hA b hn
      subst eb
      exact h.elim (fun z => absurd rfl z) id)
  have notD : ∀ {b : Addr} {o : Obj} {es : Array DictEntry} {ep : Nat}, s1.heap.get? b = some o → o.data = .dict es ep → b ≠ a := fun {b o es ep} e d z => by
    rw [z, ha] at e
    cases e
    cases (show Data.seq us.toArray _ = Data.dict es ep from d)
  have nsT : ∀ {b : Addr} {m : Str → Option Value}, s1.heap.Ns b m → (hidT s1.heap H).Ns b m := fun ⟨o, es, ep, e, d, r⟩ => ⟨o, es, ep, seen e (.inl (notD e d)), d, r⟩
  have KT : K.In (hidT s1.heap H) := fun b o e => seen (KX b o e) (by
    by_cases hn : H a = none
    · exact .inr hn
    · refine .inl fun z => ?_
      rw [z, hK hn] at e
      cases e)
  have limT : (hidT s1.heap H).NoLimit := by
    obtain ⟨mc, h1, h2⟩ := hlim
    exact ⟨mc, nsT h1, h2⟩
  have noF : ∀ {b : Addr}, b ∈ ([] : List Addr) → False := fun z => nomatch z
  have env : Env0 P w K mg (hidT s1.heap H) callerA [] s1 H := ⟨rfl, ⟨KT, nsT hm, ⟨mb, nsT hb, hbb⟩, limT⟩, fun _ _ e => of_hidT e, Nat.le_of_eq (hidT_size _ _), trivial, fun _ z => (noF z).elim, hok, .of_eq hg⟩
  have run := (F _ KT (nsT hm) fun ⟨o, es, n, e, d⟩ => ⟨o, es, n, seen e (.inl (notD e d)), d⟩).run s1 H ⟨[.ref a], []⟩ [.ref a] [.ref a] _ hr env (hbind s1 (.ref a)) (.cons rfl .nil) hsp
  refine codeAny_mono run fun r s2 h => ?_
  match r, h with
  | .error e, h => exact (cx_no h).elim
  | .ok .next, h => exact False.elim h
  | .ok .brk, h => exact False.elim h
  | .ok .cont, h => exact False.elim h
  | .ok (.ret u), ⟨v, H2, eos, bare, un, hok2, rv, q⟩ =>
    have q2 : v = .bl true := q
    subst q2
    obtain rfl : u = Value.bool true := rv
    refine ⟨rfl, OldK.of_keep fun b o e => ?_, eos, bare⟩
    rcases hO b with z | ⟨ob, xs, z⟩
    · exact un.keep b o e z (fun z => (noF z).elim) fun z => (noF z).elim
    · obtain ⟨e1, _⟩ := hok b _ z
      obtain ⟨e2, _⟩ := hok2 b _ (un.frzs b ob _ z)
      rw [e] at e1
      cases e1
      exact e2
theorem top_law {P : Program} {w : World} {K : PySem.W.Frag} {mg mb : Str → Option Value} {k : Nat} {fa a : Addr} {fd : FuncData} {x : Str} {sp : Sp} {s1 : Shared} {us : List Value} {ns : List Int}
    (KX : K.In s1.heap) (hm : s1.heap.Ns mainGlobals mg) (hb : s1.heap.Ns builtinsNs mb) (hbb : ∀ x : Str, x ≠ "__name__" → mb x = bootBuiltins x) (hlim : s1.heap.NoLimit) (hg : s1.gens = #[])
    (ha : s1.heap.get? a = some { cls := .type "list", data := .seq us.toArray }) (hi : IntsAre us ns) (hl : ns.length ≤ sizeLine) (hr : Room k callerA) (F : ∀ base : Heap, K.In base → base.Ns mainGlobals mg → (SysIn s1.heap → SysIn base) → FnAt P w K mg base k fa fd [x] sp)
    (hbind : ∀ (s : Shared) (u : Value), BindsTo s fd ⟨[u], []⟩ [(x, u)]) (hsp : ∀ H : Hp, SqL K H a (ns.map V.int) → sp [.ref a] H (fun v _ => v = .bl true) fun _ _ _ => False) :
    codeAny (model P w) callerA (.call (.ref fa) ⟨[.ref a], []⟩) (fun r s2 => r = .ok (.ret (.bool true)) ∧ OldK s1.heap s2.heap ∧ s2.os = s1.os ∧ AllBare s2.gens) s1 := by
  have rv := vals_ints hi
  have lu := hi.length
  by_cases hk : K.lookup a = none
  · let H : Hp := fun b => if b = a then some (.frz { cls := .type "list", data := .seq us.toArray } (.lst (ns.map V.int))) else none
    have Ha : H a = some (.frz { cls := .type "list", data := .seq us.toArray } (.lst (ns.map V.int))) := if_pos rfl
    have Hn : ∀ {b : Addr}, b ≠ a → H b = none := fun h => if_neg h
    refine top_at (H := H) KX hm hb hbb hlim hg ha hr F hbind (fun b => ?_) (fun b u z => ?_) (fun b z => ?_) (fun _ => hk) (hsp H (.inl (.inr ⟨_, Ha⟩)))
    · by_cases h : b = a
      · exact .inr ⟨_, _, h ▸ Ha⟩
      · exact .inl (Hn h)
    · by_cases h : b = a
      · subst h
        rw [Ha] at z
        cases z
        exact ⟨ha, by rw [List.length_map]; exact hl, us, _, rv, ha⟩
      · rw [Hn h] at z
        cases z
    · by_cases h : b = a
      · exact h
      · exact absurd (Hn h) z
  · obtain ⟨o, ho⟩ := Option.ne_none_iff_exists'.mp hk
    have e := KX a o ho
    rw [ha] at e
    cases e
    exact top_at (H := fun _ => none) KX hm hb hbb hlim hg ha hr F hbind (fun _ => .inl rfl) (fun b u z => nomatch z) (fun b z => absurd rfl z) (fun z => absurd rfl z)
      (hsp _ (.inr ⟨_, us.toArray, _, ho, rfl, rfl, rfl, by rw [List.size_toArray, lu]; exact hl, by simpa using rv⟩))
theorem walk_at_top {l : PySem.W.OpenLaw} {k : Nat} {q : Program} {loose : List Str} {XP : (Str → Option Value) → Heap → Prop} {YP : World → Heap → Prop} {d : DefRec} {K : Params → PySem.W.Frag} {x : Str} {T : FT}
    (hn : l.most = some 63) (hdf : d.params.defaults = []) (hr : Room k callerA) (hY : ∀ (w : World) (h : Heap), YP w h → (K w.params).In h)
    (F : ∀ (w : World) (mg : Str → Option Value) (fa : Addr) (h : Heap), (K w.params).In h → h.Ns mainGlobals mg → mg d.name = some (.ref fa) →
      ∃ fd : FuncData, (∀ (s : Shared) (u : Value), BindsTo s fd ⟨[u], []⟩ [(x, u)]) ∧ ∀ base : Heap, (K w.params).In base → base.Ns mainGlobals mg → (importsNone q = true → SysIn base) → FnAt l.prog w (K w.params) mg base k fa fd [x] (spX (K w.params) 1 T))
    (hT : ∀ ns : List Int, ns.length ≤ 63 → T [.lst (ns.map D.int)] [] (fun w _ => w = .bl true) (fun _ _ => False)) : PySem.W.WalkO q loose XP YP l.row.toRowW d [] (fun f vs => PySem.call f vs) := by
  refine Att.attach_call hn hdf fun w s0 s1 mg mb fa o pm cd doc a us ns G Y ho hd hcd hmg hobj hints hlen hg => ?_
  have KX := hY w _ Y
  obtain ⟨fd, hb, hF⟩ := F w mg fa _ KX G.T.g hmg
  refine top_law KX G.T.g G.T.b G.T.builtins G.T.nolimit hg hobj hints (Nat.le_trans hlen (by decide)) hr (fun base h1 h2 h3 => hF base h1 h2 fun hq => h3 ?_) hb fun H hS => law_spX (K w.params) T hT H a ns hlen hS
  obtain ⟨mm, ⟨o, es, ep, e, r⟩, _⟩ := (G.T.seer hq).mods
  exact ⟨o, es, ep, e, r.1⟩
/-! ### repr of data -/
def isTL : D → Bool
  | .tup _ => true
  | .lst _ => true
  | _ => false
section
variable {X : Cx}
def rRepr (K : PySem.W.Frag) : List V → Hp → VK → Prop := fun xs H Q => ∃ (a : Addr) (d : PyData), xs = [.ref a] ∧ Dp K H (.ref a) d ∧ d.showable = true ∧ d.hasDict = false ∧ d.depth ≤ 64 ∧ d.shown.length ≤ sizeLine ∧ Q (.str d.shown) H
theorem cr_repr (hg : X.A.guards = some []) (hu : X.A.units + 80 < cLine) : CallR X (.builtin "repr") (rRepr X.K) := by
  intro pins s σ H xs us Q I r h
  obtain ⟨a, d, rfl, hd, hs, hn, hdp, hz, q⟩ := h
  obtain ⟨u, rfl, ru⟩ := r.one
  obtain ⟨as, rd⟩ := Dp.reads I d _ u hd ru
  cases ru
  exact repr_of_reads' rd hs (PyData.noDict_hsm hn) hg (by omega) (fun _ _ e => e) (fun h2 u2 tk hk => ⟨.str _, H, I.kept hk, ⟨_, rfl⟩, q⟩) hz
def cRepr : TrC := fun ws os k => match ws with
  | [w] => ∃ d, AsD os w d ∧ shp d 60 = true ∧ (toP d).showable = true ∧ isTL d = true ∧ (toP d).shown.length ≤ sizeLine ∧ k (.str (toP d).shown) os
  | _ => False
theorem cmc_repr {lvl : Nat} (hg : X.A.guards = some []) (hr : Room lvl X.A) : CmC X (.builtin "repr") cRepr := by
  intro ws os k h
  unfold cRepr at h
  split at h
  · obtain ⟨d, h1, h2, h3, h4, h5, q⟩ := h
    refine JC.mk (cr_repr hg (by have := hr.un; omega)) fun F V0 H vs Q r rs c => ?_
    obtain ⟨v, rfl, rv⟩ := rs.one
    have hd := asD_dp r h1 h2 rv
    obtain ⟨l1, l2⟩ := shp_lay h2
    have hv : ∃ a, v = .ref a := by
      cases d with
      | lst ds => cases hd; exact ⟨_, rfl⟩
      | tup ds => cases hd; exact ⟨_, rfl⟩
      | _ => cases h4
    obtain ⟨a, rfl⟩ := hv
    exact ⟨a, toP d, rfl, hd, h3, PyData.hasDict_of_canLay _ l1, by omega, h5, c V0 os H _ _ (Same.refl _) r rwS q⟩
  · exact h.elim
end
/-! a bound of a text that repr gives -/
mutual
def shwOk : D → Bool
  | .non => true
  | .bl _ => true
  | .int i => decide (-10000000000000000000000000000000000000000 < i ∧ i < 10000000000000000000000000000000000000000)
  | .str x => x.cps.toList.all fun c => decide (c < 65536)
  | .tup ds => shwOkA ds
  | .lst ds => shwOkA ds
  | _ => false
def shwOkA : List D → Bool
  | [] => true
  | d :: ds => shwOk d && shwOkA ds
end
mutual
def shwN : D → Nat
  | .int _ => 45
  | .str x => 10 * x.length + 2
  | .tup ds => 5 + shwNA ds
  | .lst ds => 5 + shwNA ds
  | _ => 5
def shwNA : List D → Nat
  | [] => 0
  | d :: ds => shwN d + 2 + shwNA ds
end
theorem int_shw {i : Int} (h : -10000000000000000000000000000000000000000 < i ∧ i < 10000000000000000000000000000000000000000) : (PyData.int i).showable = true ∧ (PyData.int i).shown.length ≤ 45 := by
  have hn : i.natAbs < 10 ^ 40 := by
    have e : (10 : Nat) ^ 40 = 10000000000000000000000000000000000000000 := by decide
    rw [e]
    omega
  constructor
  · rw [PyData.showable]
    refine decide_eq_true ?_
    by_cases h0 : i.natAbs = 0
    · rw [h0]
      decide
    · have : i.natAbs < 2 ^ 1920 := Nat.lt_of_lt_of_le hn (by decide +kernel)
      exact (Nat.log2_lt h0).mpr this
  · rw [PyData.shown, PySem.ofString_length]
    have := int_text_length_le10 (a := i) (k := 40) (by decide) hn
    omega
theorem shownAll_map (ds : List D) : PyData.shownAll (toPs ds) = ds.map fun d => (toP d).shown := by
  induction ds with
  | nil => rfl
  | cons d ds ih => rw [toPs, PyData.shownAll, ih]; rfl
mutual
theorem shw_of : ∀ {d : D}, shwOk d = true → (toP d).showable = true ∧ (toP d).shown.length ≤ shwN d
  | .non, _ => ⟨by simp [toP, PyData.showable], by rw [toP, PyData.shown]; decide⟩
  | .bl b, _ => ⟨by simp [toP, PyData.showable], by rw [toP, PyData.shown]; cases b <;> decide⟩
  | .int i, h => by
    rw [shwOk, decide_eq_true_iff] at h
    rw [toP]
    exact int_shw h
  | .str x, h => by
    rw [shwOk, List.all_eq_true] at h
    rw [toP]
    refine ⟨by simp [PyData.showable], ?_⟩
    rw [PyData.shown]
    exact StrLaws.reprText_len x fun c hc => Nat.lt_of_lt_of_le (of_decide_eq_true (h c hc)) (by decide)
  | .tup ds, h => by
    rw [shwOk] at h
    obtain ⟨h1, h2, h3⟩ := shwA_of h
    rw [toP, PyData.showable, PyData.shown, shwN]
    have := tupleText_len_le (PyData.shownAll (toPs ds))
    exact ⟨h1, by omega⟩
  | .lst ds, h => by
    rw [shwOk] at h
    obtain ⟨h1, h2, h3⟩ := shwA_of h
    rw [toP, PyData.showable, PyData.shown, shwN]
    have := listText_len_le (PyData.shownAll (toPs ds))
    exact ⟨h1, by omega⟩
  | .ty _, h => by cases h
  | .dK _, h => by cases h
  | .dT _, h => by cases h
  | .exn .., h => by cases h
  | .ref _, h => by cases h
theorem shwA_of : ∀ {ds : List D}, shwOkA ds = true → PyData.showableAll (toPs ds) = true ∧ ((PyData.shownAll (toPs ds)).map (·.length)).sum + 2 * (PyData.shownAll (toPs ds)).length ≤ shwNA ds ∧ True
  | [], _ => ⟨by rw [toPs, PyData.showableAll], by rw [toPs, PyData.shownAll]; exact Nat.le_refl _, trivial⟩
  | d :: ds, h => by
    rw [shwOkA, Bool.and_eq_true] at h
    obtain ⟨h1, h2⟩ := shw_of h.1
    obtain ⟨h3, h4, _⟩ := shwA_of h.2
    rw [toPs, PyData.showableAll, PyData.shownAll, shwNA, List.map_cons, List.sum_cons, List.length_cons, h1, h3]
    exact ⟨rfl, by omega, trivial⟩
end
theorem cRepr_of {d : D} {os : Os} {k : D → Os → Prop} (h1 : shp d 60 = true) (h2 : shwOk d = true) (h3 : isTL d = true) (h4 : shwN d ≤ sizeLine) (q : k (.str (toP d).shown) os) : cRepr [d] os k :=
  ⟨d, .same d, h1, (shw_of h2).1, h3, Nat.le_trans (shw_of h2).2 h4, q⟩
end EV

set_option Elab.async false
set_option linter.all false
set_option maxRecDepth 100000
/-! E20: dicts written out; repr of data with dicts. -/
namespace EV
open PySem PySem.Spec PyProof.Rows L2
section
variable {X : Cx} {pos : Pos}
/-- the pairs of a dict that is written out, its keys constants -/
structure CmP (X : Cx) (pos : Pos) (keys : List (Option Expr)) (values : List Expr) (ks : List Key) (tl : TrA) : Prop where
  ex : ∃ trs, PPs X pos keys values trs ∧ ∀ (kx : Kx) (env : DEnv) (os : Os) (kl : List D → Os → Prop), tl kx env os kl → ∀ (F V0 H : Hp) (σ : L2.St) (Q : List (V × V) → Hp → Prop) (W : WX), Rel X.K F V0 os H → SR X.K V0 σ env → XkOk X F V0 σ kx W →
    (∀ (V1 : Hp) (os1 : Os) (H1 : Hp) (vs : List V) (ws : List D), Same V0 V1 → Rel X.K F V1 os1 H1 → RpA X.K V1 vs ws → vs.length = ks.length → kl ws os1 → Q ((ks.zip vs).map fun kv => (kV kv.1, kv.2)) H1) → tPairs trs σ H Q
theorem cp_nil : CmP X pos [] [] [] aN := ⟨[], pps_nil, fun kx env os kl q F V0 H σ Q W r sr ek c => c V0 os H [] [] (Same.refl _) r .nil rfl q⟩
theorem cp_consK {k v : Expr} {keys : List (Option Expr)} {values : List Expr} {ky : Key} {ks : List Key} {tv : TrE} {tl : TrA} (hk : PE X k (tC (kV ky))) (hv : Cm X v tv) (h : CmP X pos keys values ks tl) :
    CmP X pos (some k :: keys) (v :: values) (ky :: ks) (aC tv tl) := by
  obtain ⟨trs, p, run⟩ := h.ex
  refine ⟨_, pps_cons hk (wE_pe (X := X) (e := v)) p, fun kx env os kl q F V0 H σ Q W r sr ek c => ?_⟩
  refine hv _ _ _ _ q F V0 H σ _ W r sr ek fun V1 os1 H1 y w s1 r1 rv q => ?_
  refine run kx env os1 _ q F V1 H1 σ _ W r1 (sr.mono s1) (ek.mono s1) fun V2 os2 H2 vs ws s2 r2 rs hl q => ?_
  exact c V2 os2 H2 (y :: vs) (w :: ws) (s1.trans s2) r2 (.cons (rv.mono s2) rs) (congrArg (· + 1) hl) q
theorem cp_str {x : Str} {j} {p : Pos} {v : Expr} {keys : List (Option Expr)} {values : List Expr} {ks : List Key} {tv : TrE} {tl : TrA} (hv : Cm X v tv) (h : CmP X pos keys values ks tl) :
    CmP X pos (some (.Constant (.str x) j p) :: keys) (v :: values) (.inr x :: ks) (aC tv tl) := cp_consK (ky := .inr x) pe_str hv h
theorem cp_int {x : Int} {j} {p : Pos} {v : Expr} {keys : List (Option Expr)} {values : List Expr} {ks : List Key} {tv : TrE} {tl : TrA} (hv : Cm X v tv) (h : CmP X pos keys values ks tl) :
    CmP X pos (some (.Constant (.int x) j p) :: keys) (v :: values) (.inl x :: ks) (aC tv tl) := cp_consK (ky := .inl x) pe_int hv h
@[irreducible] def atK (os : Os) (p : Addr) (k : Nat → Prop) : Prop := ∃ n : Nat, os[n]? = some (p, OO.dK []) ∧ k n
theorem atK_mk {os : Os} {p : Addr} {k : Nat → Prop} (n : Nat) (h : os[n]? = some (p, OO.dK [])) (q : k n) : atK os p k := by unfold atK; exact ⟨n, h, q⟩
theorem atK_of {os : Os} {p : Addr} {k : Nat → Prop} (h : atK os p k) : ∃ n : Nat, os[n]? = some (p, OO.dK []) ∧ k n := by unfold atK at h; exact h
def eDisp (ks : List Key) (tl : TrA) : TrE := fun kx env os k => ∀ p, tl kx env ((p, .dK []) :: os) fun ws os2 => atK os2 p fun n => k (.ref p) (os2.set n (p, .dK (ks.zip ws)))
theorem zip_fst {α β : Type} : ∀ (l : List α) (r : List β), ((l.zip r).map (·.1)).Sublist l
  | [], _ => .slnil
  | _ :: _, [] => by rw [List.zip_nil_right]; exact List.nil_sublist _
  | a :: l, b :: r => (zip_fst l r).cons_cons a
theorem mergeK_new : ∀ (more kvs : List (Key × V)), ((kvs ++ more).map (·.1)).Nodup → mergeK kvs more = kvs ++ more
  | [], kvs, _ => (List.append_nil _).symm
  | p :: r, kvs, h => by
    have h1 : ¬ (kvs.any fun kv => decide (kv.1 = p.1)) = true := fun z => by
      obtain ⟨q, hq, e⟩ := List.any_eq_true.mp z
      rw [List.map_append, List.nodup_append] at h
      exact h.2.2 q.1 (List.mem_map.mpr ⟨q, hq, rfl⟩) p.1 (List.mem_map.mpr ⟨p, List.mem_cons_self, rfl⟩) (of_decide_eq_true e)
    have e1 : putK kvs p.1 p.2 = kvs ++ [p] := by
      unfold putK
      rw [if_neg h1]
    show mergeK (putK kvs p.1 p.2) r = _
    rw [e1, mergeK_new r (kvs ++ [p]) (by rw [List.append_assoc]; exact h), List.append_assoc]
    rfl
theorem rpK_zip {K : PySem.W.Frag} {V0 : Hp} : ∀ {ks : List Key} {vs : List V} {ws : List D}, RpA K V0 vs ws → RpK K V0 (ks.zip vs) (ks.zip ws)
  | [], _, _, _ => by rw [List.zip_nil_left, List.zip_nil_left]; exact .nil
  | _ :: _, _, _, .nil => by rw [List.zip_nil_right, List.zip_nil_right]; exact .nil
  | _ :: ks, _, _, .cons h r => .cons h (rpK_zip r)
theorem cm_disp {keys : List (Option Expr)} {values : List Expr} {ks : List Key} {tl : TrA} (h : CmP X pos keys values ks tl) (hall : keys.all (·.isSome) = true) (hl : keys.length = values.length) (h0 : keys ≠ []) (h15 : keys.length ≤ 15) (hk : ks.length ≤ 15) (hnd : ks.Nodup) :
    Cm X (.Dict keys values pos) (eDisp ks tl) := by
  obtain ⟨trs, p, run⟩ := h.ex
  intro kx env os k q F V0 H σ Q W r sr ek c
  refine wE_of (pe_disp p hall hl h0 h15) fun a ha => ?_
  refine run _ _ _ _ (q a) F V0 _ σ _ W (r.addO ha (oo := .dK []) ⟨[], rfl, .nil⟩) sr ek fun V1 os1 H1 vs ws s1 r1 rs hlv q => ?_
  obtain ⟨n, ho, q⟩ := atK_of q
  obtain ⟨_, _, oo, h3, us, rfl, h4⟩ := r1.own _ (List.mem_of_getElem? ho)
  cases h4
  refine ⟨h3, ks.zip vs, rfl, Nat.le_trans (by rw [List.length_zip]; exact Nat.min_le_left _ _) hk, ?_⟩
  have hn : ((([] : List (Key × V)) ++ ks.zip vs).map (·.1)).Nodup := by
    rw [List.nil_append]
    exact hnd.sublist (zip_fst _ _)
  rw [mergeK_new _ [] hn, List.nil_append]
  exact c V1 _ _ (.ref a) _ s1 (r1.mut ho (oo' := .dK (ks.zip ws)) ⟨_, rfl, rpK_zip rs⟩) (.ref a) q
end
/-! ### repr of things that have dicts inside -/
mutual
/-- w, read whole -/
inductive AsP (os : Os) : D → PyData → Prop
  | non : AsP os .non .none
  | bl (b : Bool) : AsP os (.bl b) (.bool b)
  | int (i : Int) : AsP os (.int i) (.int i)
  | str (x : Str) : AsP os (.str x) (.str x)
  | tup {ws : List D} {ds : List PyData} : AsPs os ws ds → AsP os (.tup ws) (.tuple ds)
  | lst {ws : List D} {ds : List PyData} : AsPs os ws ds → AsP os (.lst ws) (.list ds)
  | own {p : Addr} {n : Nat} {ws : List D} {ds : List PyData} : os[n]? = some (p, .lst ws) → AsPs os ws ds → AsP os (.ref p) (.list ds)
  | dK {kvs : List (Key × D)} {es : List (PyData × PyData)} : AsPk os kvs es → AsP os (.dK kvs) (.dict es)
  | ownK {p : Addr} {n : Nat} {kvs : List (Key × D)} {es : List (PyData × PyData)} : os[n]? = some (p, .dK kvs) → AsPk os kvs es → AsP os (.ref p) (.dict es)
inductive AsPs (os : Os) : List D → List PyData → Prop
  | nil : AsPs os [] []
  | cons {w : D} {d : PyData} {ws : List D} {ds : List PyData} : AsP os w d → AsPs os ws ds → AsPs os (w :: ws) (d :: ds)
inductive AsPk (os : Os) : List (Key × D) → List (PyData × PyData) → Prop
  | nil : AsPk os [] []
  | int {i : Int} {w : D} {d : PyData} {ws : List (Key × D)} {ds : List (PyData × PyData)} : AsP os w d → AsPk os ws ds → AsPk os ((.inl i, w) :: ws) ((.int i, d) :: ds)
  | str {x : Str} {w : D} {d : PyData} {ws : List (Key × D)} {ds : List (PyData × PyData)} : AsP os w d → AsPk os ws ds → AsPk os ((.inr x, w) :: ws) ((.str x, d) :: ds)
end
section
variable {X : Cx} {pins : List (Addr × Obj)} {σ : L2.St} {H F V0 : Hp} {s : Shared} {os : Os}
theorem not_sys (I : Inv X pins σ H s) (hb : SysIn X.base) {a : Addr} {o : Obj} {vs : Array Value} {n : Nat} (h : s.heap.get? a = some o) (hd : o.data = .seq vs n) : a ≠ sysModules := fun e => by
  obtain ⟨o2, es, m, h2, h3⟩ := hb
  have h4 := I.bk _ _ h2
  rw [e, h4] at h
  cases h
  rw [hd] at h3
  cases h3
theorem not_mem_app {a : Addr} {l m : List Addr} (h1 : a ∉ l) (h2 : a ∉ m) : a ∉ l ++ m := fun h => (List.mem_append.mp h).elim h1 h2
theorem not_mem_con {a b : Addr} {l : List Addr} (h1 : b ≠ a) (h2 : a ∉ l) : a ∉ b :: l := fun h => (List.mem_cons.mp h).elim (fun e => h1 e.symm) h2
def pkD : Key → PyData
  | .inl i => .int i
  | .inr x => .str x
theorem key_reads {h : Heap} {k : Key} {u : Value} (e : keyIs k u = true) : Reads h u (pkD k) [] := by
  rcases keyIs_shape e with ⟨i, t, rfl, rfl⟩ | ⟨x, t, rfl, rfl⟩
  · exact Reads.int i t
  · exact Reads.str x t
mutual
theorem asP_reads (I : Inv X pins σ H s) (hb : SysIn X.base) (r : Rel X.K F V0 os H) : ∀ {w : D} {d : PyData} {v : V} {u : Value}, AsP os w d → Rp X.K V0 v w → RelV v u → ∃ as, Reads s.heap u d as ∧ sysModules ∉ as
  | _, _, _, _, .non, rv, ru => by cases rv; cases ru; exact ⟨_, Reads.none, fun h => nomatch h⟩
  | _, _, _, _, .bl b, rv, ru => by cases rv; cases ru; exact ⟨_, Reads.bool b, fun h => nomatch h⟩
  | _, _, _, _, .int i, rv, ru => by cases rv; obtain ⟨t, rfl⟩ := ru; exact ⟨_, Reads.int i t, fun h => nomatch h⟩
  | _, _, _, _, .str x, rv, ru => by cases rv; obtain ⟨t, rfl⟩ := ru; exact ⟨_, Reads.str x t, fun h => nomatch h⟩
  | _, _, _, _, .tup h, rv, ru => by
    cases rv with
    | tup h1 h2 =>
      cases ru
      obtain ⟨its, rvs, ⟨o, ho, hc, n, hd⟩, _⟩ := I.tuple (same_sqT r.vi h1)
      obtain ⟨as, q1, q2⟩ := asPs_reads I hb r h h2 rvs
      exact ⟨_, Reads.tuple ho hc hd q1, q2⟩
  | _, _, _, _, .lst h, rv, ru => by
    cases rv with
    | lst h1 h2 =>
      cases ru
      obtain ⟨its, rvs, ⟨o, n, ho, hc, _, hd⟩, _⟩ := I.list (r.vi.seq h1)
      obtain ⟨as, q1, q2⟩ := asPs_reads I hb r h h2 rvs
      exact ⟨_, Reads.list ho hc hd q1, not_mem_con (not_sys I hb ho hd) q2⟩
  | _, _, _, _, .own ho h, rv, ru => by
    obtain rfl := rv.toRef
    cases ru
    obtain ⟨_, _, oo, h3, vs, rfl, h4⟩ := r.own _ (List.mem_of_getElem? ho)
    obtain ⟨its, rvs, ⟨o, n, ho, hc, _, hd⟩, _⟩ := I.list (SqL.of h3)
    obtain ⟨as, q1, q2⟩ := asPs_reads I hb r h h4 rvs
    exact ⟨_, Reads.list ho hc hd q1, not_mem_con (not_sys I hb ho hd) q2⟩
  | _, _, _, _, .dK h, rv, ru => by
    cases rv with
    | dK h1 h2 =>
      cases ru
      obtain ⟨o, h1⟩ := h1
      obtain ⟨z, hs, vs, rel, ob, es, ep, ho, hx, hd, _, pr, _⟩ := dk_rd I.hok (.inr ⟨o, r.vi _ _ h1⟩)
      obtain ⟨as, bs, q1, q2, q3, q4⟩ := asPk_reads I hb r h h2 rel pr
      exact ⟨_, Reads.dict ho hx.1 hd q1 q3, not_mem_app (not_mem_con (fun e => by rw [e] at hs; simp at hs) q2) q4⟩
  | _, _, _, _, .ownK ho h, rv, ru => by
    obtain rfl := rv.toRef
    cases ru
    obtain ⟨_, _, oo, h3, vs, rfl, h4⟩ := r.own _ (List.mem_of_getElem? ho)
    obtain ⟨z, hs, vs, rel, ob, es, ep, ho, hx, hd, _, pr, _⟩ := dk_rd I.hok (.inl h3)
    obtain ⟨as, bs, q1, q2, q3, q4⟩ := asPk_reads I hb r h h4 rel pr
    exact ⟨_, Reads.dict ho hx.1 hd q1 q3, not_mem_app (not_mem_con (fun e => by rw [e] at hs; simp at hs) q2) q4⟩
theorem asPs_reads (I : Inv X pins σ H s) (hb : SysIn X.base) (r : Rel X.K F V0 os H) : ∀ {ws : List D} {ds : List PyData} {vs : List V} {us : List Value}, AsPs os ws ds → RpA X.K V0 vs ws → Vals vs us → ∃ as, ReadsAll s.heap us ds as ∧ sysModules ∉ as
  | _, _, _, _, .nil, rv, ru => by cases rv; cases ru; exact ⟨_, ReadsAll.nil, fun h => nomatch h⟩
  | _, _, _, _, .cons h1 h2, rv, ru => by
    cases rv with
    | cons a b =>
      cases ru with
      | cons c d =>
        obtain ⟨as, q1, q2⟩ := asP_reads I hb r h1 a c
        obtain ⟨bs, q3, q4⟩ := asPs_reads I hb r h2 b d
        exact ⟨_, ReadsAll.cons q1 q3, not_mem_app q2 q4⟩
theorem asPk_reads (I : Inv X pins σ H s) (hb : SysIn X.base) (r : Rel X.K F V0 os H) : ∀ {kvs : List (Key × D)} {es : List (PyData × PyData)} {vs : List (Key × V)} {ws : List (Key × Value)} {ents : List DictEntry}, AsPk os kvs es → RpK X.K V0 vs kvs → KV vs ws → Pairs (mixKind X.prog X.w) ents ws →
    ∃ as bs, ReadsAll s.heap (ents.map (·.key)) (es.map (·.1)) as ∧ sysModules ∉ as ∧ ReadsAll s.heap (ents.map (·.val)) (es.map (·.2)) bs ∧ sysModules ∉ bs
  | _, _, _, _, _, .nil, rv, ru, pr => by cases rv; cases ru; cases pr; exact ⟨_, _, ReadsAll.nil, (fun h => nomatch h), ReadsAll.nil, fun h => nomatch h⟩
  | _, _, _, _, _, .int h1 h2, rv, ru, pr => by
    cases rv with
    | cons a b =>
      cases ru with
      | cons c d =>
        cases pr with
        | cons e1 e2 e3 =>
          obtain ⟨as, bs, q1, q2, q3, q4⟩ := asPk_reads I hb r h2 b d e3
          obtain ⟨ds, q5, q6⟩ := asP_reads I hb r h1 a c.2
          have rk := key_reads (h := s.heap) e1
          rw [← c.1] at rk
          rw [← e2] at q5
          exact ⟨_, _, ReadsAll.cons rk q1, not_mem_app (fun h => nomatch h) q2, ReadsAll.cons q5 q3, not_mem_app q6 q4⟩
  | _, _, _, _, _, .str h1 h2, rv, ru, pr => by
    cases rv with
    | cons a b =>
      cases ru with
      | cons c d =>
        cases pr with
        | cons e1 e2 e3 =>
          obtain ⟨as, bs, q1, q2, q3, q4⟩ := asPk_reads I hb r h2 b d e3
          obtain ⟨ds, q5, q6⟩ := asP_reads I hb r h1 a c.2
          have rk := key_reads (h := s.heap) e1
          rw [← c.1] at rk
          rw [← e2] at q5
          exact ⟨_, _, ReadsAll.cons rk q1, not_mem_app (fun h => nomatch h) q2, ReadsAll.cons q5 q3, not_mem_app q6 q4⟩
end
end
/-! texts of such things are not too long -/
structure Tx (d : PyData) (n N : Nat) : Prop where
  s : d.showable = true
  p : d.depth ≤ n
  b : d.shown.length ≤ N
structure TxA (ds : List PyData) (n N : Nat) : Prop where
  s : PyData.showableAll ds = true
  p : PyData.depthAll ds ≤ n
  b : ((PyData.shownAll ds).map (·.length)).sum + 2 * (PyData.shownAll ds).length ≤ N
def isSeqP : PyData → Bool
  | .list _ => true
  | .tuple _ => true
  | .dict _ => true
  | _ => false
def cReprP : TrC := fun ws os k => match ws with
  | [w] => ∃ d, AsP os w d ∧ isSeqP d = true ∧ d.showable = true ∧ d.depth ≤ 60 ∧ d.shown.length ≤ sizeLine ∧ k (.str d.shown) os
  | _ => False
theorem asP_ref {K : PySem.W.Frag} {H : Hp} {os : Os} {w : D} {d : PyData} {v : V} (h : AsP os w d) (hd : isSeqP d = true) (rv : Rp K H v w) : ∃ a, v = .ref a := by
  cases h with
  | tup _ => cases rv; exact ⟨_, rfl⟩
  | lst _ => cases rv; exact ⟨_, rfl⟩
  | own _ _ => exact ⟨_, rv.toRef⟩
  | dK _ => cases rv; exact ⟨_, rfl⟩
  | ownK _ _ => exact ⟨_, rv.toRef⟩
  | non => cases hd
  | bl _ => cases hd
  | int _ => cases hd
  | str _ => cases hd
theorem cmc_reprP {X : Cx} {lvl : Nat} (hg : X.A.guards = some []) (hb : SysIn X.base) (hr : Room lvl X.A) : CmC X (.builtin "repr") cReprP := by
  intro ws os k h
  unfold cReprP at h
  split at h
  · obtain ⟨d, h1, h2, h3, h4, h5, q⟩ := h
    intro F V0 H vs Q r rs c pins s σ us I rvs
    obtain ⟨v, rfl, rv⟩ := rs.one
    obtain ⟨u, rfl, ru⟩ := rvs.one
    obtain ⟨a, rfl⟩ := asP_ref h1 h2 rv
    obtain ⟨as, rd, hn⟩ := asP_reads I hb r h1 rv ru
    cases ru
    have := hr.un
    exact repr_of_reads' rd h3 (fun _ => hn) hg (by omega) (fun _ _ e => e) (fun h2 u2 tk hk => ⟨.str _, H, I.kept hk, ⟨_, rfl⟩, c V0 os H _ _ (Same.refl _) r rwS q⟩) h5
  · exact h.elim
end EV

set_option Elab.async false
set_option linter.all false
set_option maxRecDepth 100000
/-! E8: lemmas that a reading uses. -/
namespace EV
open PySem PySem.Spec PyProof.Rows L2
section
variable {A B P : Prop} {b : Bool}
theorem brT (h : A) : (true = true → A) ∧ (true = false → B) := ⟨fun _ => h, fun e => nomatch e⟩
theorem brF (h : B) : (false = true → A) ∧ (false = false → B) := ⟨fun e => (nomatch e), fun _ => h⟩
theorem brD [Decidable P] (h1 : P → A) (h2 : ¬ P → B) : (decide P = true → A) ∧ (decide P = false → B) := ⟨fun h => h1 (of_decide_eq_true h), fun h => h2 (of_decide_eq_false h)⟩
theorem brDN [Decidable P] (h1 : ¬ P → A) (h2 : P → B) : ((!decide P) = true → A) ∧ ((!decide P) = false → B) := by
  by_cases hp : P
  · rw [decide_eq_true hp]
    exact ⟨fun e => (nomatch e), fun _ => h2 hp⟩
  · rw [decide_eq_false hp]
    exact ⟨fun _ => h1 hp, fun e => nomatch e⟩
theorem brDT [Decidable P] (hp : P) (h : A) : (decide P = true → A) ∧ (decide P = false → B) := ⟨fun _ => h, fun e => absurd hp (of_decide_eq_false e)⟩
theorem brDF [Decidable P] (hp : ¬ P) (h : B) : (decide P = true → A) ∧ (decide P = false → B) := ⟨fun e => absurd (of_decide_eq_true e) hp, fun _ => h⟩
theorem brDNT [Decidable P] (hp : ¬ P) (h : A) : ((!decide P) = true → A) ∧ ((!decide P) = false → B) := ⟨fun _ => h, fun e => absurd e (by rw [decide_eq_false hp]; exact fun z => nomatch z)⟩
theorem brDNF [Decidable P] (hp : P) (h : B) : ((!decide P) = true → A) ∧ ((!decide P) = false → B) := ⟨fun e => absurd e (by rw [decide_eq_true hp]; exact fun z => nomatch z), fun _ => h⟩
theorem br2 (h1 : b = true → A) (h2 : b = false → B) : (b = true → A) ∧ (b = false → B) := ⟨h1, h2⟩
theorem brN2 (h1 : b = false → A) (h2 : b = true → B) : ((!b) = true → A) ∧ ((!b) = false → B) := by
  cases b
  · exact ⟨fun _ => h1 rfl, fun e => nomatch e⟩
  · exact ⟨fun e => (nomatch e), fun _ => h2 rfl⟩
theorem orT (h : B) : (true = false → A) ∧ (true = true → B) := ⟨fun e => (nomatch e), fun _ => h⟩
theorem orF (h : A) : (false = false → A) ∧ (false = true → B) := ⟨fun _ => h, fun e => nomatch e⟩
theorem orD [Decidable P] (h1 : ¬ P → A) (h2 : P → B) : (decide P = false → A) ∧ (decide P = true → B) := ⟨fun h => h1 (of_decide_eq_false h), fun h => h2 (of_decide_eq_true h)⟩
theorem orDT [Decidable P] (hp : P) (h : B) : (decide P = false → A) ∧ (decide P = true → B) := ⟨fun e => absurd hp (of_decide_eq_false e), fun _ => h⟩
theorem orDF [Decidable P] (hp : ¬ P) (h : A) : (decide P = false → A) ∧ (decide P = true → B) := ⟨fun _ => h, fun e => absurd (of_decide_eq_true e) hp⟩
theorem orDN [Decidable P] (h1 : P → A) (h2 : ¬ P → B) : ((!decide P) = false → A) ∧ ((!decide P) = true → B) := ⟨(brDN h2 h1).2, (brDN h2 h1).1⟩
theorem or2 (h1 : b = false → A) (h2 : b = true → B) : (b = false → A) ∧ (b = true → B) := ⟨h1, h2⟩
theorem orN2 (h1 : b = true → A) (h2 : b = false → B) : ((!b) = false → A) ∧ ((!b) = true → B) := ⟨(brN2 h2 h1).2, (brN2 h2 h1).1⟩
end
theorem szI {n : Nat} (h : n ≤ 1000) : n ≤ sizeLine := Nat.le_of_lt (small1000 h)
theorem szJ {n : Nat} (h : n ≤ 1000) : n < sizeLine := small1000 h
theorem atI_len {α : Type} {ds : List α} {i : Int} (h0 : 0 ≤ i) (h1 : i < ds.length) (d : α) : atI ds i = some (ds.getD i.toNat d) := by
  obtain ⟨j, rfl⟩ : ∃ j : Nat, i = (j : Int) := ⟨i.toNat, by omega⟩
  have hj : j < ds.length := by omega
  refine atI_nat ?_
  simp [hj]
theorem atI_ints {ns : List Int} {i : Int} (h0 : 0 ≤ i) (h1 : i < ns.length) : atI (ns.map D.int) i = some (.int (ns.getD i.toNat 0)) := by
  obtain ⟨j, rfl⟩ : ∃ j : Nat, i = (j : Int) := ⟨i.toNat, by omega⟩
  have hj : j < ns.length := by omega
  refine atI_nat ?_
  simp [hj]
theorem atI_some {α : Type} {ds : List α} {i : Int} {d : α} (h0 : 0 ≤ i) (h1 : ds[i.toNat]? = some d) : atI ds i = some d := by
  obtain ⟨j, rfl⟩ : ∃ j : Nat, i = (j : Int) := ⟨i.toNat, by omega⟩
  exact atI_nat (by simpa using h1)
theorem ixN_some {n : Nat} {i : Int} (h0 : 0 ≤ i) (h1 : i < n) : ixN n i = some i.toNat := by
  have e := atI_len (ds := List.replicate n ()) h0 (by simpa using h1) ()
  unfold atI at e
  rw [List.length_replicate] at e
  cases q : ixN n i with
  | none => rw [q] at e; cases e
  | some j =>
    unfold ixN at q
    simp only [h0, h1] at q
    split at q <;> simp_all
theorem scal_ints : ∀ ns : List Int, (ns.map D.int).all isScal = true
  | [] => rfl
  | _ :: ns => scal_ints ns
theorem inD_ints {i : Int} : ∀ ns : List Int, inD (.int i) (ns.map D.int) = decide (i ∈ ns)
  | [] => by simp [inD, inV]
  | n :: ns => by
    have h := inD_ints (i := i) ns
    unfold inD inV at h ⊢
    rw [List.map_cons, List.map_cons, List.any_cons, h]
    by_cases e : n = i
    · subst e; simp [eqV, scalD]
    · have e' : i ≠ n := fun x => e x.symm
      simp [eqV, scalD, e, e']
theorem shpA_ints (ns : List Int) (n : Nat) : shpA (ns.map D.int) n = true := shpA_all.mpr fun d hd => by
  obtain ⟨i, _, rfl⟩ := List.mem_map.mp hd
  rfl
theorem shp_ints (ns : List Int) : shp (.lst (ns.map D.int)) 60 = true := by
  rw [shp, shpA_ints]; rfl
theorem eqvA_ints : ∀ ns ms : List Int, PyData.eqvAll (toPs (ns.map D.int)) (toPs (ms.map D.int)) = decide (ns = ms)
  | [], [] => by simp [toPs, PyData.eqvAll]
  | [], _ :: _ => by simp [toPs, PyData.eqvAll]
  | _ :: _, [] => by simp [toPs, PyData.eqvAll]
  | n :: r, m :: q => by
    simp only [List.map_cons, toPs, toP, PyData.eqvAll, PyData.eqv, eqvA_ints r q]
    by_cases h : n = m <;> simp [h]
theorem eqD_ints (ns ms : List Int) : eqD (.lst (ns.map D.int)) (.lst (ms.map D.int)) = decide (ns = ms) := by
  unfold eqD
  rw [toP, toP, PyData.eqv]
  exact eqvA_ints ns ms
theorem kit_NoneType_bool : kitB "NoneType" "bool" = some false := by decide +kernel
theorem kit_NoneType_int : kitB "NoneType" "int" = some false := by decide +kernel
theorem kit_NoneType_str : kitB "NoneType" "str" = some false := by decide +kernel
theorem kit_NoneType_tuple : kitB "NoneType" "tuple" = some false := by decide +kernel
theorem kit_NoneType_list : kitB "NoneType" "list" = some false := by decide +kernel
theorem kit_bool_bool : kitB "bool" "bool" = some true := by decide +kernel
theorem kit_bool_int : kitB "bool" "int" = some true := by decide +kernel
theorem kit_bool_str : kitB "bool" "str" = some false := by decide +kernel
theorem kit_bool_tuple : kitB "bool" "tuple" = some false := by decide +kernel
theorem kit_bool_list : kitB "bool" "list" = some false := by decide +kernel
theorem kit_int_bool : kitB "int" "bool" = some false := by decide +kernel
theorem kit_int_int : kitB "int" "int" = some true := by decide +kernel
theorem kit_int_str : kitB "int" "str" = some false := by decide +kernel
theorem kit_int_tuple : kitB "int" "tuple" = some false := by decide +kernel
theorem kit_int_list : kitB "int" "list" = some false := by decide +kernel
theorem kit_str_bool : kitB "str" "bool" = some false := by decide +kernel
theorem kit_str_int : kitB "str" "int" = some false := by decide +kernel
theorem kit_str_str : kitB "str" "str" = some true := by decide +kernel
theorem kit_str_tuple : kitB "str" "tuple" = some false := by decide +kernel
theorem kit_str_list : kitB "str" "list" = some false := by decide +kernel
theorem kit_tuple_bool : kitB "tuple" "bool" = some false := by decide +kernel
theorem kit_tuple_int : kitB "tuple" "int" = some false := by decide +kernel
theorem kit_tuple_str : kitB "tuple" "str" = some false := by decide +kernel
theorem kit_tuple_tuple : kitB "tuple" "tuple" = some true := by decide +kernel
theorem kit_tuple_list : kitB "tuple" "list" = some false := by decide +kernel
theorem kit_list_bool : kitB "list" "bool" = some false := by decide +kernel
theorem kit_list_int : kitB "list" "int" = some false := by decide +kernel
theorem kit_list_str : kitB "list" "str" = some false := by decide +kernel
theorem kit_list_tuple : kitB "list" "tuple" = some false := by decide +kernel
theorem kit_list_list : kitB "list" "list" = some true := by decide +kernel

/-! ### a block of some written things and of a rest -/
theorem perm_front (a b c : Os) : (a ++ (b ++ c)).Perm (b ++ (a ++ c)) := by
  have h := (List.perm_append_comm (l₁ := a) (l₂ := b)).append_right c
  rw [List.append_assoc, List.append_assoc] at h
  exact h
theorem blk_perm (a h b t c : Os) : (a ++ (h ++ (b ++ (t ++ c)))).Perm ((h ++ t) ++ (a ++ (b ++ c))) := by
  rw [List.append_assoc]
  refine (perm_front a h _).trans (List.Perm.append_left h ?_)
  exact ((perm_front b t c).append_left a).trans (perm_front a t _)
theorem blk_back (n : Nat) (a b c o : Os) : (o ++ (a ++ (b ++ c))).Perm (a ++ (o.take n ++ (b ++ (o.drop n ++ c)))) := by
  have h := (blk_perm a (o.take n) b (o.drop n) c).symm
  rw [List.take_append_drop] at h
  exact h
theorem callX_blk {T : FT} {ws : List D} {a h b t c : Os} {k : D → Os → Prop} {kx : Kx} (q : T ws (h ++ t) (fun w o => k w (a ++ (o.take h.length ++ (b ++ (o.drop h.length ++ c))))) (fun x o => kx x (a ++ (o.take h.length ++ (b ++ (o.drop h.length ++ c)))))) :
    callX T ws (a ++ (h ++ (b ++ (t ++ c)))) k kx := by
  rw [callX_eq]
  exact ⟨h ++ t, a ++ (b ++ c), fun o => a ++ (o.take h.length ++ (b ++ (o.drop h.length ++ c))), blk_perm a h b t c, fun o => blk_back h.length a b c o, q⟩
theorem callX_blk0 {T : FT} {ws : List D} {a h b t : Os} {k : D → Os → Prop} {kx : Kx} (q : T ws (h ++ t) (fun w o => k w (a ++ (o.take h.length ++ (b ++ o.drop h.length)))) (fun x o => kx x (a ++ (o.take h.length ++ (b ++ o.drop h.length))))) :
    callX T ws (a ++ (h ++ (b ++ t))) k kx := by
  have e : ∀ o : Os, a ++ (o.take h.length ++ (b ++ (o.drop h.length ++ []))) = a ++ (o.take h.length ++ (b ++ o.drop h.length)) := fun o => by rw [List.append_nil]
  have r := callX_blk (T := T) (ws := ws) (a := a) (h := h) (b := b) (t := t) (c := []) (k := k) (kx := kx) (by simp only [e]; exact q)
  rw [List.append_nil] at r
  exact r
/-- the first thing stays -/
theorem callX_tl {T : FT} {ws : List D} {x : Addr × OO} {os : Os} {k : D → Os → Prop} {kx : Kx} (q : T ws os (fun w o => k w (x :: o)) (fun y o => kx y (x :: o))) : callX T ws (x :: os) k kx := by
  rw [callX_eq]
  exact ⟨os, [x], fun o => x :: o, List.perm_append_comm (l₁ := [x]), fun o => List.perm_append_comm (l₁ := o) (l₂ := [x]), q⟩
theorem ex3 {α β γ : Type} {P : α → β → Prop} {Q : α → β → γ → Prop} {K : α → β → γ → Prop} (h : ∃ n ws, P n ws ∧ ∃ w, Q n ws w ∧ K n ws w) : ∃ n ws w, P n ws ∧ Q n ws w ∧ K n ws w :=
  let ⟨n, ws, h1, w, h2, h3⟩ := h; ⟨n, ws, w, h1, h2, h3⟩
theorem exO {os : Os} {n : Nat} {a C : Addr} {fs : List (Nat × D)} {f : Nat} (h : os[n]? = some (a, .ins C fs)) (h2 : lkF f fs = none) : ∃ (n : Nat) (fs : List (Nat × D)), os[n]? = some (a, .ins C fs) ∧ lkF f fs = none := ⟨n, fs, h, h2⟩
theorem callX_tlE {T : FT} {ws : List D} {x : Addr × OO} {os2 os : Os} {k : D → Os → Prop} {kx : Kx} (e : os2 = x :: os) (q : T ws os (fun w o => k w (x :: o)) (fun y o => kx y (x :: o))) : callX T ws os2 k kx := e ▸ callX_tl q
theorem callX_pm {T : FT} {ws : List D} {os of or : Os} {k : D → Os → Prop} {kx : Kx} (hp : os.Perm (of ++ or)) (q : T ws of (fun w o => k w (o ++ or)) (fun y o => kx y (o ++ or))) : callX T ws os k kx := by
  rw [callX_eq]
  exact ⟨of, or, fun o => o ++ or, hp, fun o => .refl _, q⟩
/-- a part in the middle -/
theorem callX_mid {T : FT} {ws : List D} {a h c : Os} {k : D → Os → Prop} {kx : Kx} (q : T ws h (fun w o => k w (a ++ (o ++ c))) (fun x o => kx x (a ++ (o ++ c)))) : callX T ws (a ++ (h ++ c)) k kx := by
  rw [callX_eq]
  exact ⟨h, a ++ c, fun o => a ++ (o ++ c), perm_front a h c, fun o => perm_front o a c, q⟩
/-- a family of owned lists -/
def inn : List Addr → List (List D) → Os
  | a :: as, l :: ls => (a, .lst l) :: inn as ls
  | _, _ => []
theorem inn_at : ∀ {as : List Addr} {ls : List (List D)} {n : Nat} {a : Addr} {l : List D}, as[n]? = some a → ls[n]? = some l → (inn as ls)[n]? = some (a, .lst l)
  | _ :: _, _ :: _, 0, _, _, h1, h2 => by cases h1; cases h2; rfl
  | _ :: as, _ :: ls, n + 1, _, _, h1, h2 => inn_at (as := as) (ls := ls) (n := n) h1 h2
  | [], _, _, _, _, h1, _ => by simp at h1
  | _ :: _, [], _, _, _, _, h2 => by simp at h2
theorem inn_set : ∀ {as : List Addr} {ls : List (List D)} {n : Nat} {a : Addr} {l : List D}, as[n]? = some a → (inn as ls).set n (a, .lst l) = inn as (ls.set n l)
  | _ :: _, _ :: _, 0, _, _, h1 => by cases h1; rfl
  | _ :: as, _ :: ls, n + 1, _, _, h1 => congrArg (_ :: ·) (inn_set (as := as) (ls := ls) (n := n) h1)
  | [], _, _, _, _, h1 => by simp at h1
  | _ :: _, [], n, _, _, _ => by cases n <;> rfl
theorem inn_len : ∀ {as : List Addr} {ls : List (List D)}, as.length = ls.length → (inn as ls).length = ls.length
  | [], [], _ => rfl
  | _ :: as, _ :: ls, h => congrArg (· + 1) (inn_len (as := as) (ls := ls) (by simpa using h))
  | [], _ :: _, h => by cases h
  | _ :: _, [], h => by cases h
theorem inn_app : ∀ {as : List Addr} {ls : List (List D)} {a : Addr} {l : List D}, as.length = ls.length → inn (as ++ [a]) (ls ++ [l]) = inn as ls ++ [(a, .lst l)]
  | [], [], _, _, _ => rfl
  | _ :: as, _ :: ls, _, _, h => congrArg (_ :: ·) (inn_app (as := as) (ls := ls) (by simpa using h))
  | [], _ :: _, _, _, h => by cases h
  | _ :: _, [], _, _, h => by cases h
theorem inn_appA : ∀ {as as2 : List Addr} {ls ls2 : List (List D)}, as.length = ls.length → inn (as ++ as2) (ls ++ ls2) = inn as ls ++ inn as2 ls2
  | [], _, [], _, _ => rfl
  | _ :: as, as2, _ :: ls, ls2, h => congrArg (_ :: ·) (inn_appA (as := as) (ls := ls) (as2 := as2) (ls2 := ls2) (by simpa using h))
  | [], _, _ :: _, _, h => by cases h
  | _ :: _, _, [], _, h => by cases h
/-- a new list takes a place; the old one goes -/
theorem inn_swap : ∀ {as : List Addr} {ls : List (List D)} {n : Nat} {a : Addr} {l : List D}, as.length = ls.length → n < ls.length → WkO ((a, .lst l) :: inn as ls) (inn (as.set n a) (ls.set n l))
  | b :: as, m :: ls, 0, a, l, _, _ => ⟨[(b, .lst m)], by
      show ((a, OO.lst l) :: (b, .lst m) :: inn as ls).Perm (((a, .lst l) :: inn as ls) ++ [(b, .lst m)])
      exact (List.perm_append_comm (l₁ := [(b, OO.lst m)]) (l₂ := inn as ls)).cons _⟩
  | b :: as, m :: ls, n + 1, a, l, h, hn => by
      have ih := inn_swap (as := as) (ls := ls) (n := n) (a := a) (l := l) (by simpa using h) (by simpa using hn)
      exact WkO.trans (.perm (.swap _ _ _)) (.cons ih)
  | [], [], _, _, _, _, hn => by simp at hn
  | [], _ :: _, _, _, _, h, _ => by cases h
  | _ :: _, [], _, _, _, h, _ => by cases h
theorem atI_mapN {α : Type} {f : α → D} {xs : List α} {i : Int} {x : α} (h0 : 0 ≤ i) (h1 : xs[i.toNat]? = some x) : atI (xs.map f) i = some (f x) := atI_some h0 (by rw [List.getElem?_map, h1]; rfl)
theorem app_at {A B : Os} {n : Nat} {x : Addr × OO} (h : B[n]? = some x) : (A ++ B)[A.length + n]? = some x := by
  rw [List.getElem?_append_right (Nat.le_add_right _ _), Nat.add_sub_cancel_left]; exact h
theorem app_set {A B : Os} {n : Nat} {x : Addr × OO} : (A ++ B).set (A.length + n) x = A ++ B.set n x := by
  rw [List.set_append_right _ _ (Nat.le_add_right _ _), Nat.add_sub_cancel_left]
theorem appL_at {A B : Os} {n : Nat} {x : Addr × OO} (h : A[n]? = some x) : (A ++ B)[n]? = some x := by
  rw [List.getElem?_append_left (List.getElem?_eq_some_iff.mp h).1]; exact h
theorem appL_set {A B : Os} {n : Nat} {x : Addr × OO} (h : n < A.length) : (A ++ B).set n x = A.set n x ++ B := List.set_append_left _ _ h
theorem ixN_last {n : Nat} : ixN (n + 1) (-1) = some n := by
  unfold ixN
  rw [if_neg (by omega), if_pos (by omega)]
  congr 1
  omega
theorem ixN_lastL {α : Type} {xs : List α} {x : α} : ixN (xs ++ [x]).length (-1) = some xs.length := by
  rw [List.length_append]; exact ixN_last
theorem ixN_lastM {α β : Type} {f : α → β} {xs : List α} {x : α} : ixN ((xs ++ [x]).map f).length (-1) = some xs.length := by
  rw [List.length_map]; exact ixN_lastL
theorem atI_last {α : Type} {xs : List α} {x : α} : atI (xs ++ [x]) (-1) = some x := by
  unfold atI
  rw [ixN_lastL]
  simp
theorem atI_lastM {α β : Type} {f : α → β} {xs : List α} {x : α} : atI ((xs ++ [x]).map f) (-1) = some (f x) := by
  rw [List.map_append]; exact atI_last
theorem cutA_init {α : Type} (xs : List α) (x : α) : cutA (xs ++ [x]) none (some (-1)) = xs := by
  unfold cutA HT.sIx
  have e : (-1 + ((xs.length : Int) + 1)).toNat = xs.length := by omega
  simp [e]
theorem cutA_initM {α β : Type} {f : α → β} (xs : List α) (x : α) : cutA ((xs ++ [x]).map f) none (some (-1)) = xs.map f := by
  rw [List.map_append]; exact cutA_init _ _
theorem cutA_lastM {α β : Type} {f : α → β} (xs : List α) (x : α) : cutA ((xs ++ [x]).map f) (some (-1)) none = [f x] := by
  rw [List.map_append]
  unfold cutA HT.sIx
  have e : (-1 + ((xs.length : Int) + 1)).toNat = xs.length := by omega
  have e2 : (List.map f xs ++ [f x]).drop xs.length = [f x] := by
    have := List.drop_left (l₁ := List.map f xs) (l₂ := [f x])
    rw [List.length_map] at this
    exact this
  simp [e, e2]
theorem cutA_from {α : Type} (xs : List α) (n : Nat) : cutA xs (some (n : Int)) none = xs.drop n := by
  unfold cutA
  rw [HT.sIx_nat, HT.sIx_none]
  rcases Nat.le_total n xs.length with h | h
  · rw [Nat.min_eq_left h]
    exact List.take_of_length_le (by rw [List.length_drop]; exact Nat.le_refl _)
  · rw [Nat.min_eq_right h, List.drop_of_length_le (Nat.le_refl _), List.drop_of_length_le h, List.take_nil]
theorem cutA_to {α : Type} (xs : List α) (n : Nat) : cutA xs none (some (n : Int)) = xs.take n := by
  unfold cutA
  rw [HT.sIx_nat, HT.sIx_none, List.drop_zero, Nat.sub_zero]
  rcases Nat.le_total n xs.length with h | h
  · rw [Nat.min_eq_left h]
  · rw [Nat.min_eq_right h, List.take_of_length_le (Nat.le_refl _), List.take_of_length_le h]
theorem cutA_all {α : Type} (xs : List α) : cutA xs none none = xs := by
  unfold cutA
  rw [HT.sIx_none, HT.sIx_none, List.drop_zero, Nat.sub_zero, List.take_of_length_le (Nat.le_refl _)]
theorem cutA_mid {α : Type} (xs : List α) (n m : Nat) : cutA xs (some (n : Int)) (some (m : Int)) = (xs.take m).drop n := by
  unfold cutA
  rw [HT.sIx_nat, HT.sIx_nat, List.drop_take]
  rcases Nat.le_total n xs.length with h | h
  · rw [Nat.min_eq_left h]
    rcases Nat.le_total m xs.length with h2 | h2
    · rw [Nat.min_eq_left h2]
    · rw [Nat.min_eq_right h2, List.take_of_length_le (by rw [List.length_drop]; exact Nat.le_refl _), List.take_of_length_le (by rw [List.length_drop]; omega)]
  · rw [Nat.min_eq_right h, List.drop_of_length_le (Nat.le_refl _), List.drop_of_length_le h, List.take_nil, List.take_nil]
theorem sx0 {n : Nat} (h : 0 < n) : seqIndex? 0 n = some 0 := by
  unfold seqIndex?
  have h2 : (0 : Int) < n := by omega
  simp
  omega
theorem atI_c0 {α : Type} {x : α} {ws : List α} : atI (x :: ws) 0 = some x := atI_some (by decide) (by simp)
theorem atI_c1 {α : Type} {x y : α} {ws : List α} : atI (x :: y :: ws) 1 = some y := atI_some (by decide) (by simp)
theorem atI_c2 {α : Type} {x y z : α} {ws : List α} : atI (x :: y :: z :: ws) 2 = some z := atI_some (by decide) (by simp)
theorem atI_c3 {α : Type} {x y z u : α} {ws : List α} : atI (x :: y :: z :: u :: ws) 3 = some u := atI_some (by decide) (by simp)
theorem kI {k : D → Os → Prop} {os : Os} {x y : Int} (h : k (.int y) os) (e : x = y) : k (.int x) os := e ▸ h
theorem kB {k : D → Os → Prop} {os : Os} {x y : Bool} (h : k (.bl y) os) (e : x = y) : k (.bl x) os := e ▸ h
theorem kD {k : D → Os → Prop} {os : Os} {x y : D} (h : k y os) (e : x = y) : k x os := e ▸ h
end EV
set_option Elab.async false
set_option linter.all false
set_option maxRecDepth 100000
set_option maxHeartbeats 0
namespace My
open PySem PySem.Spec PyProof.Rows L2 EV
def top (i : Nat) : Stmt := PySem.Challenge.pw_deadbeat_k11_values_of_expressions.main.body.getD i (.Pass ⟨0, 0, 0, 0⟩)
structure Txt (K : PySem.W.Frag) (mg : Str → Option Value) (CS : Nat → Addr) : Prop where
  c_MODULUS : Glb K mg "MODULUS" (.int 4294967296)
  c_SIGN : Glb K mg "SIGN" (.int 2147483648)
  c_MASK : Glb K mg "MASK" (.int 4294967295)
  b_int : mg "int" = none
  b_abs : mg "abs" = none
  b_len : mg "len" = none
  b_range : mg "range" = none
  b_max : mg "max" = none
  b_repr : mg "repr" = none
  b_isinstance : mg "isinstance" = none
  b_bool : mg "bool" = none
theorem nd__law_script : (("_law_script" : Str) == ("__debug__" : Str)) = false ∧ (("_law_script" : Str) == ("__classdict__" : Str)) = false := by decide +kernel
theorem nd__law_seed : (("_law_seed" : Str) == ("__debug__" : Str)) = false ∧ (("_law_seed" : Str) == ("__classdict__" : Str)) = false := by decide +kernel
theorem nd__law_cell : (("_law_cell" : Str) == ("__debug__" : Str)) = false ∧ (("_law_cell" : Str) == ("__classdict__" : Str)) = false := by decide +kernel
theorem nd_int : (("int" : Str) == ("__debug__" : Str)) = false ∧ (("int" : Str) == ("__classdict__" : Str)) = false := by decide +kernel
theorem nd_abs : (("abs" : Str) == ("__debug__" : Str)) = false ∧ (("abs" : Str) == ("__classdict__" : Str)) = false := by decide +kernel
theorem nd__law_state_here : (("_law_state_here" : Str) == ("__debug__" : Str)) = false ∧ (("_law_state_here" : Str) == ("__classdict__" : Str)) = false := by decide +kernel
theorem nd__law_many : (("_law_many" : Str) == ("__debug__" : Str)) = false ∧ (("_law_many" : Str) == ("__classdict__" : Str)) = false := by decide +kernel
theorem nd__law_cells : (("_law_cells" : Str) == ("__debug__" : Str)) = false ∧ (("_law_cells" : Str) == ("__classdict__" : Str)) = false := by decide +kernel
theorem nd__law_value_here : (("_law_value_here" : Str) == ("__debug__" : Str)) = false ∧ (("_law_value_here" : Str) == ("__classdict__" : Str)) = false := by decide +kernel
theorem nd__law_mixed : (("_law_mixed" : Str) == ("__debug__" : Str)) = false ∧ (("_law_mixed" : Str) == ("__classdict__" : Str)) = false := by decide +kernel
theorem nd_len : (("len" : Str) == ("__debug__" : Str)) = false ∧ (("len" : Str) == ("__classdict__" : Str)) = false := by decide +kernel
theorem nd__law_row : (("_law_row" : Str) == ("__debug__" : Str)) = false ∧ (("_law_row" : Str) == ("__classdict__" : Str)) = false := by decide +kernel
theorem nd__law_draw : (("_law_draw" : Str) == ("__debug__" : Str)) = false ∧ (("_law_draw" : Str) == ("__classdict__" : Str)) = false := by decide +kernel
theorem nd__law_edges : (("_law_edges" : Str) == ("__debug__" : Str)) = false ∧ (("_law_edges" : Str) == ("__classdict__" : Str)) = false := by decide +kernel
theorem nd__law_pick : (("_law_pick" : Str) == ("__debug__" : Str)) = false ∧ (("_law_pick" : Str) == ("__classdict__" : Str)) = false := by decide +kernel
theorem nd__law_env : (("_law_env" : Str) == ("__debug__" : Str)) = false ∧ (("_law_env" : Str) == ("__classdict__" : Str)) = false := by decide +kernel
theorem nd__law_deep : (("_law_deep" : Str) == ("__debug__" : Str)) = false ∧ (("_law_deep" : Str) == ("__classdict__" : Str)) = false := by decide +kernel
theorem nd__law_signs : (("_law_signs" : Str) == ("__debug__" : Str)) = false ∧ (("_law_signs" : Str) == ("__classdict__" : Str)) = false := by decide +kernel
theorem nd__law_kind : (("_law_kind" : Str) == ("__debug__" : Str)) = false ∧ (("_law_kind" : Str) == ("__classdict__" : Str)) = false := by decide +kernel
theorem nd__law_rows : (("_law_rows" : Str) == ("__debug__" : Str)) = false ∧ (("_law_rows" : Str) == ("__classdict__" : Str)) = false := by decide +kernel
theorem nd__law_first : (("_law_first" : Str) == ("__debug__" : Str)) = false ∧ (("_law_first" : Str) == ("__classdict__" : Str)) = false := by decide +kernel
theorem nd__law_name : (("_law_name" : Str) == ("__debug__" : Str)) = false ∧ (("_law_name" : Str) == ("__classdict__" : Str)) = false := by decide +kernel
theorem nd__law_size : (("_law_size" : Str) == ("__debug__" : Str)) = false ∧ (("_law_size" : Str) == ("__classdict__" : Str)) = false := by decide +kernel
theorem nd__law_word : (("_law_word" : Str) == ("__debug__" : Str)) = false ∧ (("_law_word" : Str) == ("__classdict__" : Str)) = false := by decide +kernel
theorem nd__law_expr : (("_law_expr" : Str) == ("__debug__" : Str)) = false ∧ (("_law_expr" : Str) == ("__classdict__" : Str)) = false := by decide +kernel
theorem nd__law_sign : (("_law_sign" : Str) == ("__debug__" : Str)) = false ∧ (("_law_sign" : Str) == ("__classdict__" : Str)) = false := by decide +kernel
theorem nd__law_a : (("_law_a" : Str) == ("__debug__" : Str)) = false ∧ (("_law_a" : Str) == ("__classdict__" : Str)) = false := by decide +kernel
theorem nd__law_b : (("_law_b" : Str) == ("__debug__" : Str)) = false ∧ (("_law_b" : Str) == ("__classdict__" : Str)) = false := by decide +kernel
theorem nd__law_left : (("_law_left" : Str) == ("__debug__" : Str)) = false ∧ (("_law_left" : Str) == ("__classdict__" : Str)) = false := by decide +kernel
theorem nd__law_right : (("_law_right" : Str) == ("__debug__" : Str)) = false ∧ (("_law_right" : Str) == ("__classdict__" : Str)) = false := by decide +kernel
theorem nd__law_e : (("_law_e" : Str) == ("__debug__" : Str)) = false ∧ (("_law_e" : Str) == ("__classdict__" : Str)) = false := by decide +kernel
theorem nd__law_names : (("_law_names" : Str) == ("__debug__" : Str)) = false ∧ (("_law_names" : Str) == ("__classdict__" : Str)) = false := by decide +kernel
theorem nd__law_value : (("_law_value" : Str) == ("__debug__" : Str)) = false ∧ (("_law_value" : Str) == ("__classdict__" : Str)) = false := by decide +kernel
theorem nd__law_two : (("_law_two" : Str) == ("__debug__" : Str)) = false ∧ (("_law_two" : Str) == ("__classdict__" : Str)) = false := by decide +kernel
theorem nd_n : (("n" : Str) == ("__debug__" : Str)) = false ∧ (("n" : Str) == ("__classdict__" : Str)) = false := by decide +kernel
theorem nd_MODULUS : (("MODULUS" : Str) == ("__debug__" : Str)) = false ∧ (("MODULUS" : Str) == ("__classdict__" : Str)) = false := by decide +kernel
theorem nd_operator : (("operator" : Str) == ("__debug__" : Str)) = false ∧ (("operator" : Str) == ("__classdict__" : Str)) = false := by decide +kernel
theorem nd_a : (("a" : Str) == ("__debug__" : Str)) = false ∧ (("a" : Str) == ("__classdict__" : Str)) = false := by decide +kernel
theorem nd_b : (("b" : Str) == ("__debug__" : Str)) = false ∧ (("b" : Str) == ("__classdict__" : Str)) = false := by decide +kernel
theorem nd_wrap : (("wrap" : Str) == ("__debug__" : Str)) = false ∧ (("wrap" : Str) == ("__classdict__" : Str)) = false := by decide +kernel
theorem nd_w : (("w" : Str) == ("__debug__" : Str)) = false ∧ (("w" : Str) == ("__classdict__" : Str)) = false := by decide +kernel
theorem nd_SIGN : (("SIGN" : Str) == ("__debug__" : Str)) = false ∧ (("SIGN" : Str) == ("__classdict__" : Str)) = false := by decide +kernel
theorem nd_signed : (("signed" : Str) == ("__debug__" : Str)) = false ∧ (("signed" : Str) == ("__classdict__" : Str)) = false := by decide +kernel
theorem nd_value : (("value" : Str) == ("__debug__" : Str)) = false ∧ (("value" : Str) == ("__classdict__" : Str)) = false := by decide +kernel
theorem nd__arithmetic : (("_arithmetic" : Str) == ("__debug__" : Str)) = false ∧ (("_arithmetic" : Str) == ("__classdict__" : Str)) = false := by decide +kernel
theorem nd__bits : (("_bits" : Str) == ("__debug__" : Str)) = false ∧ (("_bits" : Str) == ("__classdict__" : Str)) = false := by decide +kernel
theorem nd__truth : (("_truth" : Str) == ("__debug__" : Str)) = false ∧ (("_truth" : Str) == ("__classdict__" : Str)) = false := by decide +kernel
theorem nd_MASK : (("MASK" : Str) == ("__debug__" : Str)) = false ∧ (("MASK" : Str) == ("__classdict__" : Str)) = false := by decide +kernel
theorem nd_e : (("e" : Str) == ("__debug__" : Str)) = false ∧ (("e" : Str) == ("__classdict__" : Str)) = false := by decide +kernel
theorem nd_names : (("names" : Str) == ("__debug__" : Str)) = false ∧ (("names" : Str) == ("__classdict__" : Str)) = false := by decide +kernel
theorem nd_kind : (("kind" : Str) == ("__debug__" : Str)) = false ∧ (("kind" : Str) == ("__classdict__" : Str)) = false := by decide +kernel
theorem nd_row : (("row" : Str) == ("__debug__" : Str)) = false ∧ (("row" : Str) == ("__classdict__" : Str)) = false := by decide +kernel
theorem nd_left : (("left" : Str) == ("__debug__" : Str)) = false ∧ (("left" : Str) == ("__classdict__" : Str)) = false := by decide +kernel
theorem nd_evaluate : (("evaluate" : Str) == ("__debug__" : Str)) = false ∧ (("evaluate" : Str) == ("__classdict__" : Str)) = false := by decide +kernel
theorem nd_alter : (("alter" : Str) == ("__debug__" : Str)) = false ∧ (("alter" : Str) == ("__classdict__" : Str)) = false := by decide +kernel
theorem nd_combine : (("combine" : Str) == ("__debug__" : Str)) = false ∧ (("combine" : Str) == ("__classdict__" : Str)) = false := by decide +kernel
theorem nd__law_before : (("_law_before" : Str) == ("__debug__" : Str)) = false ∧ (("_law_before" : Str) == ("__classdict__" : Str)) = false := by decide +kernel
theorem nd__law_k : (("_law_k" : Str) == ("__debug__" : Str)) = false ∧ (("_law_k" : Str) == ("__classdict__" : Str)) = false := by decide +kernel
theorem nd__law_due : (("_law_due" : Str) == ("__debug__" : Str)) = false ∧ (("_law_due" : Str) == ("__classdict__" : Str)) = false := by decide +kernel
theorem nd__law_actual : (("_law_actual" : Str) == ("__debug__" : Str)) = false ∧ (("_law_actual" : Str) == ("__classdict__" : Str)) = false := by decide +kernel
theorem nd__law_state : (("_law_state" : Str) == ("__debug__" : Str)) = false ∧ (("_law_state" : Str) == ("__classdict__" : Str)) = false := by decide +kernel
theorem nd_range : (("range" : Str) == ("__debug__" : Str)) = false ∧ (("range" : Str) == ("__classdict__" : Str)) = false := by decide +kernel
theorem nd_max : (("max" : Str) == ("__debug__" : Str)) = false ∧ (("max" : Str) == ("__classdict__" : Str)) = false := by decide +kernel
theorem nd_repr : (("repr" : Str) == ("__debug__" : Str)) = false ∧ (("repr" : Str) == ("__classdict__" : Str)) = false := by decide +kernel
theorem nd_isinstance : (("isinstance" : Str) == ("__debug__" : Str)) = false ∧ (("isinstance" : Str) == ("__classdict__" : Str)) = false := by decide +kernel
theorem nd_bool : (("bool" : Str) == ("__debug__" : Str)) = false ∧ (("bool" : Str) == ("__classdict__" : Str)) = false := by decide +kernel
theorem nn_int : ("int" : Str) ≠ "__name__" := by decide +kernel
theorem bt_int : bootBuiltins ("int" : Str) = some (.type "int") := by decide +kernel
theorem nn_abs : ("abs" : Str) ≠ "__name__" := by decide +kernel
theorem bb_abs : bootBuiltins ("abs" : Str) = some (.builtin "abs") := by decide +kernel
theorem nn_len : ("len" : Str) ≠ "__name__" := by decide +kernel
theorem bb_len : bootBuiltins ("len" : Str) = some (.builtin "len") := by decide +kernel
theorem nn_range : ("range" : Str) ≠ "__name__" := by decide +kernel
theorem bt_range : bootBuiltins ("range" : Str) = some (.type "range") := by decide +kernel
theorem nn_max : ("max" : Str) ≠ "__name__" := by decide +kernel
theorem bb_max : bootBuiltins ("max" : Str) = some (.builtin "max") := by decide +kernel
theorem nn_repr : ("repr" : Str) ≠ "__name__" := by decide +kernel
theorem bb_repr : bootBuiltins ("repr" : Str) = some (.builtin "repr") := by decide +kernel
theorem nn_isinstance : ("isinstance" : Str) ≠ "__name__" := by decide +kernel
theorem bb_isinstance : bootBuiltins ("isinstance" : Str) = some (.builtin "isinstance") := by decide +kernel
theorem nn_bool : ("bool" : Str) ≠ "__name__" := by decide +kernel
theorem bt_bool : bootBuiltins ("bool" : Str) = some (.type "bool") := by decide +kernel
section
variable {P : Program} {w : World} {K : PySem.W.Frag} {mg : Str → Option Value} {base : Heap}
abbrev s__law_state : Stmt := top 14
abbrev N__law_state : List Str := ["_law_script", "_law_seed", "_law_cell"]
theorem sc__law_state : FnScope N__law_state ["_law_script"] (defScope s__law_state) := ⟨rfl, rfl, rfl, by decide +kernel, rfl, by decide +kernel, by decide +kernel⟩
theorem lo__law_state__law_script : Loc (defScope s__law_state) "_law_script" := by first | exact .inl rfl | exact .inr rfl
theorem vs__law_state__law_script : Vis (defScope s__law_state) "_law_script" := lo__law_state__law_script.elim .inl fun z => .inr (.inl z)
theorem lo__law_state__law_seed : Loc (defScope s__law_state) "_law_seed" := by first | exact .inl rfl | exact .inr rfl
theorem vs__law_state__law_seed : Vis (defScope s__law_state) "_law_seed" := lo__law_state__law_seed.elim .inl fun z => .inr (.inl z)
theorem lo__law_state__law_cell : Loc (defScope s__law_state) "_law_cell" := by first | exact .inl rfl | exact .inr rfl
theorem vs__law_state__law_cell : Vis (defScope s__law_state) "_law_cell" := lo__law_state__law_cell.elim .inl fun z => .inr (.inl z)
theorem g__law_state_int : (defScope s__law_state).names.lookup ("int" : Str) = some .globalImplicit := rfl
def T__law_state (CS : Nat → Addr) : FT := fnT 3 (sCo (sSet 1 (eC (.int 7))) (
  sCo (sFor (gName 2) (iSeq (eV 0)) (sSet 1 (eBin oMod (eCB cInt (aC (eBin oAdd (eBin oMul (eV 1) (eC (.int 31))) (eV 2)) (aN))) (eC (.int 1000003))))) (
  sRet (eLstO (aC (eLc true [2] (b1 2) (iSeq (eV 0)) (tYes) (eCB cAbs (aC (eCB cInt (aC (eV 2) (aN))) (aN)))) (aC (eBin oAdd (eV 1) (eC (.int 1))) (aN)))))))
theorem ok__law_state {f : Addr} {fd : FuncData} {CS : Nat → Addr} (F : Fun K "_law_state" "_law_state" s__law_state f fd) (T : Txt K mg CS) : FnOk P w K mg base (L2.CX P w) 1 f fd ["_law_script"] (spX K 1 (T__law_state CS)) :=
  okX F sc__law_state rfl rfl (by decide) fun cdv A outer s H E hr =>
  cs_cons (c1_set sc__law_state.nd rfl lo__law_state__law_seed (cm_int) rfl (.inl rfl))
  (cs_cons (c1_for (cg_name sc__law_state.nd rfl lo__law_state__law_cell (.inl rfl)) (ci_seq (cm_v (i := 0) rfl vs__law_state__law_script nd__law_script.1 nd__law_script.2)) (cs_one (c1_set sc__law_state.nd rfl lo__law_state__law_seed (cm_bin cmo_mod (cm_callTy cmc_int bt_int T.b_int g__law_state_int (ca_cons (cm_bin cmo_add (cm_bin cmo_mul (cm_v (i := 1) rfl vs__law_state__law_seed nd__law_seed.1 nd__law_seed.2) (cm_int)) (cm_v (i := 2) rfl vs__law_state__law_cell nd__law_cell.1 nd__law_cell.2)) (ca_nil) rfl) nn_int nd_int.1 rfl rfl) (cm_int)) rfl (.inl rfl))) rfl pass_cx (fun _ => rfl))
  (cs_one (c1_ret (cm_lstO (ca_cons (cm_lc (own := [("_law_cell", 2)]) rfl sc__law_state.nd (blkOk_by (N := N__law_state) (sc := defScope s__law_state) (by decide +kernel)) (bind1 (by decide)) (fun _ _ _ _ _ => L2.pg_name sc__law_state.nd (i := 2) rfl (.inl rfl) (.inr rfl)) (ci_seq (cm_v (i := 0) rfl vs__law_state__law_script nd__law_script.1 nd__law_script.2)) (fun _ _ _ _ _ => cts_nil) (fun _ _ _ _ _ => cm_callB cmc_abs bb_abs T.b_abs rfl (ca_cons (cm_callTy cmc_int bt_int T.b_int rfl (ca_cons (cm_v (i := 2) rfl (by first | exact Or.inl rfl | exact Or.inr (Or.inl rfl) | exact Or.inr (Or.inr rfl)) nd__law_cell.1 nd__law_cell.2) (ca_nil) rfl) nn_int nd_int.1 rfl rfl) (ca_nil) rfl) nn_abs nd_abs.1 rfl rfl) (fun _ => rfl)) (ca_cons (cm_bin cmo_add (cm_v (i := 1) rfl vs__law_state__law_seed nd__law_seed.1 nd__law_seed.2) (cm_int)) (ca_nil) rfl) rfl) (by decide)))))
abbrev s__law_draw : Stmt := top 15
abbrev N__law_draw : List Str := ["_law_state_here", "_law_many", "_law_cells", "_law_value_here", "_law_mixed"]
theorem sc__law_draw : FnScope N__law_draw ["_law_state_here", "_law_many"] (defScope s__law_draw) := ⟨rfl, rfl, rfl, by decide +kernel, rfl, by decide +kernel, by decide +kernel⟩
theorem lo__law_draw__law_state_here : Loc (defScope s__law_draw) "_law_state_here" := by first | exact .inl rfl | exact .inr rfl
theorem vs__law_draw__law_state_here : Vis (defScope s__law_draw) "_law_state_here" := lo__law_draw__law_state_here.elim .inl fun z => .inr (.inl z)
theorem lo__law_draw__law_many : Loc (defScope s__law_draw) "_law_many" := by first | exact .inl rfl | exact .inr rfl
theorem vs__law_draw__law_many : Vis (defScope s__law_draw) "_law_many" := lo__law_draw__law_many.elim .inl fun z => .inr (.inl z)
theorem lo__law_draw__law_cells : Loc (defScope s__law_draw) "_law_cells" := by first | exact .inl rfl | exact .inr rfl
theorem vs__law_draw__law_cells : Vis (defScope s__law_draw) "_law_cells" := lo__law_draw__law_cells.elim .inl fun z => .inr (.inl z)
theorem lo__law_draw__law_value_here : Loc (defScope s__law_draw) "_law_value_here" := by first | exact .inl rfl | exact .inr rfl
theorem vs__law_draw__law_value_here : Vis (defScope s__law_draw) "_law_value_here" := lo__law_draw__law_value_here.elim .inl fun z => .inr (.inl z)
theorem lo__law_draw__law_mixed : Loc (defScope s__law_draw) "_law_mixed" := by first | exact .inl rfl | exact .inr rfl
theorem vs__law_draw__law_mixed : Vis (defScope s__law_draw) "_law_mixed" := lo__law_draw__law_mixed.elim .inl fun z => .inr (.inl z)
theorem g__law_draw_len : (defScope s__law_draw).names.lookup ("len" : Str) = some .globalImplicit := rfl
theorem g__law_draw_int : (defScope s__law_draw).names.lookup ("int" : Str) = some .globalImplicit := rfl
def T__law_draw (CS : Nat → Addr) : FT := fnT 5 (sCo (sSet 2 (eIx oIx (eV 0) (eC (.int 0)))) (
  sCo (sWhile (tAnd (tCmp oGt (eCB cLen (aC (eV 2) (aN))) (eC (.int 0))) (tCmp oEq (eIx oIx (eV 2) (eC (.int 0))) (eC (.int 0)))) (sExpr (ePopAt (eV 2) (eC (.int 0))))) (
  sCo (sIf (tCmp oGt (eCB cLen (aC (eV 2) (aN))) (eC (.int 0))) (sCo (sSet 3 (eIx oIx (eV 2) (eC (.int 0)))) (
  sCo (sAsg (gSub (eV 2) (eC (.int 0))) (eBin oDiv (eV 3) (eV 1))) (
  sRet (eBin oMod (eCB cInt (aC (eV 3) (aN))) (eV 1))))) (sNo)) (
  sCo (sSet 4 (eBin oMod (eCB cInt (aC (eBin oAdd (eBin oMul (eIx oIx (eV 0) (eC (.int 1))) (eC (.int 48271))) (eC (.int 12345))) (aN))) (eC (.int 2147483647)))) (
  sCo (sAsg (gSub (eV 0) (eC (.int 1))) (eV 4)) (
  sRet (eBin oMod (eCB cInt (aC (eBin oDiv (eV 4) (eC (.int 64))) (aN))) (eV 1))))))))
theorem ok__law_draw {f : Addr} {fd : FuncData} {CS : Nat → Addr} (F : Fun K "_law_draw" "_law_draw" s__law_draw f fd) (T : Txt K mg CS) : FnOk P w K mg base (L2.CX P w) 1 f fd ["_law_state_here", "_law_many"] (spX K 2 (T__law_draw CS)) :=
  okX F sc__law_draw rfl rfl (by decide) fun cdv A outer s H E hr =>
  cs_cons (c1_set sc__law_draw.nd rfl lo__law_draw__law_cells (cm_ix cmi_ix (cm_v (i := 0) rfl vs__law_draw__law_state_here nd__law_state_here.1 nd__law_state_here.2) (cm_int) (fun _ _ => rfl)) rfl (.inl rfl))
  (cs_cons (c1_while (ct_pw (cpw_and (ct_cmp cmo_gt (cm_callB cmc_len bb_len T.b_len g__law_draw_len (ca_cons (cm_v (i := 2) rfl vs__law_draw__law_cells nd__law_cells.1 nd__law_cells.2) (ca_nil) rfl) nn_len nd_len.1 rfl rfl) (cm_int) rfl) (cpw_and1 (ct_cmp (cmo_eq hr) (cm_ix cmi_ix (cm_v (i := 2) rfl vs__law_draw__law_cells nd__law_cells.1 nd__law_cells.2) (cm_int) (fun _ _ => rfl)) (cm_int) rfl)))) (cs_one (c1_expr (cm_popAt (cm_v (i := 2) rfl vs__law_draw__law_cells nd__law_cells.1 nd__law_cells.2) (cm_int) rfl rfl rfl rfl) rfl)) pass_cx)
  (cs_cons (c1_if (ct_cmp cmo_gt (cm_callB cmc_len bb_len T.b_len g__law_draw_len (ca_cons (cm_v (i := 2) rfl vs__law_draw__law_cells nd__law_cells.1 nd__law_cells.2) (ca_nil) rfl) nn_len nd_len.1 rfl rfl) (cm_int) rfl) (cs_cons (c1_set sc__law_draw.nd rfl lo__law_draw__law_value_here (cm_ix cmi_ix (cm_v (i := 2) rfl vs__law_draw__law_cells nd__law_cells.1 nd__law_cells.2) (cm_int) (fun _ _ => rfl)) rfl (.inl rfl))
  (cs_cons (c1_asg (cg_sub (cm_v (i := 2) rfl vs__law_draw__law_cells nd__law_cells.1 nd__law_cells.2) (cm_int) (fun _ => rfl)) (cm_bin cmo_div (cm_v (i := 3) rfl vs__law_draw__law_value_here nd__law_value_here.1 nd__law_value_here.2) (cm_v (i := 1) rfl vs__law_draw__law_many nd__law_many.1 nd__law_many.2)) rfl rfl rfl)
  (cs_one (c1_ret (cm_bin cmo_mod (cm_callTy cmc_int bt_int T.b_int g__law_draw_int (ca_cons (cm_v (i := 3) rfl vs__law_draw__law_value_here nd__law_value_here.1 nd__law_value_here.2) (ca_nil) rfl) nn_int nd_int.1 rfl rfl) (cm_v (i := 1) rfl vs__law_draw__law_many nd__law_many.1 nd__law_many.2)))))) (cs_nil))
  (cs_cons (c1_set sc__law_draw.nd rfl lo__law_draw__law_mixed (cm_bin cmo_mod (cm_callTy cmc_int bt_int T.b_int g__law_draw_int (ca_cons (cm_bin cmo_add (cm_bin cmo_mul (cm_ix cmi_ix (cm_v (i := 0) rfl vs__law_draw__law_state_here nd__law_state_here.1 nd__law_state_here.2) (cm_int) (fun _ _ => rfl)) (cm_int)) (cm_int)) (ca_nil) rfl) nn_int nd_int.1 rfl rfl) (cm_int)) rfl (.inl rfl))
  (cs_cons (c1_asg (cg_sub (cm_v (i := 0) rfl vs__law_draw__law_state_here nd__law_state_here.1 nd__law_state_here.2) (cm_int) (fun _ => rfl)) (cm_v (i := 4) rfl vs__law_draw__law_mixed nd__law_mixed.1 nd__law_mixed.2) rfl rfl rfl)
  (cs_one (c1_ret (cm_bin cmo_mod (cm_callTy cmc_int bt_int T.b_int g__law_draw_int (ca_cons (cm_bin cmo_div (cm_v (i := 4) rfl vs__law_draw__law_mixed nd__law_mixed.1 nd__law_mixed.2) (cm_int)) (ca_nil) rfl) nn_int nd_int.1 rfl rfl) (cm_v (i := 1) rfl vs__law_draw__law_many nd__law_many.1 nd__law_many.2))))))))
abbrev s__law_pick : Stmt := top 16
abbrev N__law_pick : List Str := ["_law_state_here", "_law_row"]
theorem sc__law_pick : FnScope N__law_pick ["_law_state_here", "_law_row"] (defScope s__law_pick) := ⟨rfl, rfl, rfl, by decide +kernel, rfl, by decide +kernel, by decide +kernel⟩
theorem lo__law_pick__law_state_here : Loc (defScope s__law_pick) "_law_state_here" := by first | exact .inl rfl | exact .inr rfl
theorem vs__law_pick__law_state_here : Vis (defScope s__law_pick) "_law_state_here" := lo__law_pick__law_state_here.elim .inl fun z => .inr (.inl z)
theorem lo__law_pick__law_row : Loc (defScope s__law_pick) "_law_row" := by first | exact .inl rfl | exact .inr rfl
theorem vs__law_pick__law_row : Vis (defScope s__law_pick) "_law_row" := lo__law_pick__law_row.elim .inl fun z => .inr (.inl z)
theorem g__law_pick__law_draw : (defScope s__law_pick).names.lookup ("_law_draw" : Str) = some .globalImplicit := rfl
theorem g__law_pick_len : (defScope s__law_pick).names.lookup ("len" : Str) = some .globalImplicit := rfl
def T__law_pick (CS : Nat → Addr) : FT := fnT 2 (sRet (eIx oIx (eV 1) (eCall (T__law_draw CS) (aC (eV 0) (aC (eCB cLen (aC (eV 1) (aN))) (aN))))))
theorem ok__law_pick {f : Addr} {fd : FuncData} {CS : Nat → Addr} (F : Fun K "_law_pick" "_law_pick" s__law_pick f fd) (T : Txt K mg CS) (C__law_draw : CalX P w K mg base 1 "_law_draw" 2 (T__law_draw CS)) : FnOk P w K mg base (L2.CX P w) 2 f fd ["_law_state_here", "_law_row"] (spX K 2 (T__law_pick CS)) :=
  okX F sc__law_pick rfl rfl (by decide) fun cdv A outer s H E hr =>
  cs_one (c1_ret (cm_ix cmi_ix (cm_v (i := 1) rfl vs__law_pick__law_row nd__law_row.1 nd__law_row.2) (cm_call C__law_draw (hr.mono (by decide)) g__law_pick__law_draw (ca_cons (cm_v (i := 0) rfl vs__law_pick__law_state_here nd__law_state_here.1 nd__law_state_here.2) (ca_cons (cm_callB cmc_len bb_len T.b_len g__law_pick_len (ca_cons (cm_v (i := 1) rfl vs__law_pick__law_row nd__law_row.1 nd__law_row.2) (ca_nil) rfl) nn_len nd_len.1 rfl rfl) (ca_nil) rfl) rfl) nd__law_draw.1 rfl rfl) (fun _ _ => rfl)))
abbrev s__law_word : Stmt := top 17
abbrev N__law_word : List Str := ["_law_state_here", "_law_edges"]
theorem sc__law_word : FnScope N__law_word ["_law_state_here"] (defScope s__law_word) := ⟨rfl, rfl, rfl, by decide +kernel, rfl, by decide +kernel, by decide +kernel⟩
theorem lo__law_word__law_state_here : Loc (defScope s__law_word) "_law_state_here" := by first | exact .inl rfl | exact .inr rfl
theorem vs__law_word__law_state_here : Vis (defScope s__law_word) "_law_state_here" := lo__law_word__law_state_here.elim .inl fun z => .inr (.inl z)
theorem lo__law_word__law_edges : Loc (defScope s__law_word) "_law_edges" := by first | exact .inl rfl | exact .inr rfl
theorem vs__law_word__law_edges : Vis (defScope s__law_word) "_law_edges" := lo__law_word__law_edges.elim .inl fun z => .inr (.inl z)
theorem g__law_word__law_draw : (defScope s__law_word).names.lookup ("_law_draw" : Str) = some .globalImplicit := rfl
theorem g__law_word__law_pick : (defScope s__law_word).names.lookup ("_law_pick" : Str) = some .globalImplicit := rfl
def T__law_word (CS : Nat → Addr) : FT := fnT 2 (sCo (sSet 1 (eLst (aC (eC (.int 0)) (aC (eC (.int 1)) (aC (eC (.int 32768)) (aC (eC (.int 65535)) (aC (eC (.int 65536)) (aC (eC (.int 2147483647)) (aC (eC (.int 2147483648)) (aC (eC (.int 4294967295)) (aN))))))))))) (
  sCo (sIf (tCmp oEq (eCall (T__law_draw CS) (aC (eV 0) (aC (eC (.int 3)) (aN)))) (eC (.int 0))) (sRet (eCall (T__law_pick CS) (aC (eV 0) (aC (eV 1) (aN))))) (sNo)) (
  sRet (eCall (T__law_draw CS) (aC (eV 0) (aC (eCall (T__law_pick CS) (aC (eV 0) (aC (eLst (aC (eC (.int 7)) (aC (eC (.int 4294967296)) (aN)))) (aN)))) (aN)))))))
theorem ok__law_word {f : Addr} {fd : FuncData} {CS : Nat → Addr} (F : Fun K "_law_word" "_law_word" s__law_word f fd) (T : Txt K mg CS) (C__law_draw : CalX P w K mg base 1 "_law_draw" 2 (T__law_draw CS)) (C__law_pick : CalX P w K mg base 2 "_law_pick" 2 (T__law_pick CS)) : FnOk P w K mg base (L2.CX P w) 3 f fd ["_law_state_here"] (spX K 1 (T__law_word CS)) :=
  okX F sc__law_word rfl rfl (by decide) fun cdv A outer s H E hr =>
  cs_cons (c1_set sc__law_word.nd rfl lo__law_word__law_edges (cm_lst (ca_cons (cm_int) (ca_cons (cm_int) (ca_cons (cm_int) (ca_cons (cm_int) (ca_cons (cm_int) (ca_cons (cm_int) (ca_cons (cm_int) (ca_cons (cm_int) (ca_nil) rfl) rfl) rfl) rfl) rfl) rfl) rfl) rfl) (by decide)) rfl (.inl rfl))
  (cs_cons (c1_if (ct_cmp (cmo_eq hr) (cm_call C__law_draw (hr.mono (by decide)) g__law_word__law_draw (ca_cons (cm_v (i := 0) rfl vs__law_word__law_state_here nd__law_state_here.1 nd__law_state_here.2) (ca_cons (cm_int) (ca_nil) rfl) rfl) nd__law_draw.1 rfl rfl) (cm_int) rfl) (cs_one (c1_ret (cm_call C__law_pick (hr.mono (by decide)) g__law_word__law_pick (ca_cons (cm_v (i := 0) rfl vs__law_word__law_state_here nd__law_state_here.1 nd__law_state_here.2) (ca_cons (cm_v (i := 1) rfl vs__law_word__law_edges nd__law_edges.1 nd__law_edges.2) (ca_nil) rfl) rfl) nd__law_pick.1 rfl rfl))) (cs_nil))
  (cs_one (c1_ret (cm_call C__law_draw (hr.mono (by decide)) g__law_word__law_draw (ca_cons (cm_v (i := 0) rfl vs__law_word__law_state_here nd__law_state_here.1 nd__law_state_here.2) (ca_cons (cm_call C__law_pick (hr.mono (by decide)) g__law_word__law_pick (ca_cons (cm_v (i := 0) rfl vs__law_word__law_state_here nd__law_state_here.1 nd__law_state_here.2) (ca_cons (cm_lst (ca_cons (cm_int) (ca_cons (cm_int) (ca_nil) rfl) rfl) (by decide)) (ca_nil) rfl) rfl) nd__law_pick.1 rfl rfl) (ca_nil) rfl) rfl) nd__law_draw.1 rfl rfl))))
abbrev s__law_expr : Stmt := top 18
abbrev N__law_expr : List Str := ["_law_state_here", "_law_env", "_law_deep", "_law_signs", "_law_kind", "_law_rows", "_law_first", "_law_name", "_law_size"]
theorem sc__law_expr : FnScope N__law_expr ["_law_state_here", "_law_env", "_law_deep"] (defScope s__law_expr) := ⟨rfl, rfl, rfl, by decide +kernel, rfl, by decide +kernel, by decide +kernel⟩
theorem lo__law_expr__law_state_here : Loc (defScope s__law_expr) "_law_state_here" := by first | exact .inl rfl | exact .inr rfl
theorem vs__law_expr__law_state_here : Vis (defScope s__law_expr) "_law_state_here" := lo__law_expr__law_state_here.elim .inl fun z => .inr (.inl z)
theorem lo__law_expr__law_env : Loc (defScope s__law_expr) "_law_env" := by first | exact .inl rfl | exact .inr rfl
theorem vs__law_expr__law_env : Vis (defScope s__law_expr) "_law_env" := lo__law_expr__law_env.elim .inl fun z => .inr (.inl z)
theorem lo__law_expr__law_deep : Loc (defScope s__law_expr) "_law_deep" := by first | exact .inl rfl | exact .inr rfl
theorem vs__law_expr__law_deep : Vis (defScope s__law_expr) "_law_deep" := lo__law_expr__law_deep.elim .inl fun z => .inr (.inl z)
theorem lo__law_expr__law_signs : Loc (defScope s__law_expr) "_law_signs" := by first | exact .inl rfl | exact .inr rfl
theorem vs__law_expr__law_signs : Vis (defScope s__law_expr) "_law_signs" := lo__law_expr__law_signs.elim .inl fun z => .inr (.inl z)
theorem lo__law_expr__law_kind : Loc (defScope s__law_expr) "_law_kind" := by first | exact .inl rfl | exact .inr rfl
theorem vs__law_expr__law_kind : Vis (defScope s__law_expr) "_law_kind" := lo__law_expr__law_kind.elim .inl fun z => .inr (.inl z)
theorem lo__law_expr__law_rows : Loc (defScope s__law_expr) "_law_rows" := by first | exact .inl rfl | exact .inr rfl
theorem vs__law_expr__law_rows : Vis (defScope s__law_expr) "_law_rows" := lo__law_expr__law_rows.elim .inl fun z => .inr (.inl z)
theorem lo__law_expr__law_first : Loc (defScope s__law_expr) "_law_first" := by first | exact .inl rfl | exact .inr rfl
theorem vs__law_expr__law_first : Vis (defScope s__law_expr) "_law_first" := lo__law_expr__law_first.elim .inl fun z => .inr (.inl z)
theorem g__law_expr__law_draw : (defScope s__law_expr).names.lookup ("_law_draw" : Str) = some .globalImplicit := rfl
theorem g__law_expr_len : (defScope s__law_expr).names.lookup ("len" : Str) = some .globalImplicit := rfl
theorem g__law_expr__law_word : (defScope s__law_expr).names.lookup ("_law_word" : Str) = some .globalImplicit := rfl
theorem g__law_expr__law_pick : (defScope s__law_expr).names.lookup ("_law_pick" : Str) = some .globalImplicit := rfl
theorem g__law_expr__law_expr : (defScope s__law_expr).names.lookup ("_law_expr" : Str) = some .globalImplicit := rfl
def B__law_expr (CS : Nat → Addr) (R : Nat → FT) : FT := fnT 9 (sCo (sSet 3 (eLst (aC (eC (.str "+")) (aC (eC (.str "-")) (aC (eC (.str "*")) (aC (eC (.str "/")) (aC (eC (.str "mod")) (aC (eC (.str "&")) (aC (eC (.str "|")) (aC (eC (.str "^")) (aC (eC (.str "<<")) (aC (eC (.str ">>")) (aC (eC (.str "<")) (aC (eC (.str "<=")) (aC (eC (.str "~<")) (aC (eC (.str "~<=")) (aC (eC (.str "==")) (aC (eC (.str "!=")) (aC (eC (.str "and")) (aC (eC (.str "or")) (aN))))))))))))))))))))) (
  sCo (sSet 4 (eCall (T__law_draw CS) (aC (eV 0) (aC (eC (.int 6)) (aN))))) (
  sCo (sIf (tOr (tCmp oLe (eV 2) (eC (.int 1))) (tCmp oLt (eV 4) (eC (.int 2)))) (sCo (sSet 5 (eBin oAdd (eLc false [7, 8] (b2 7 8) (iSeq (eIx oIx (eV 1) (eC (.int 0)))) (tCmp oEq (eV 8) (eC (.int 0))) (eTup (aC (eC (.str "cell")) (aC (eV 7) (aN))))) (eLc false [7] (b1 7) (iSeq (eIx oIx (eV 1) (eC (.int 1)))) (tYes) (eTup (aC (eC (.str "cell")) (aC (eV 7) (aN))))))) (
  sCo (sIf (tOr (tCmp oEq (eCB cLen (aC (eV 5) (aN))) (eC (.int 0))) (tCmp oEq (eCall (T__law_draw CS) (aC (eV 0) (aC (eC (.int 3)) (aN)))) (eC (.int 0)))) (sRet (eTup (aC (eC (.str "num")) (aC (eCall (T__law_word CS) (aC (eV 0) (aN))) (aN))))) (sNo)) (
  sRet (eCall (T__law_pick CS) (aC (eV 0) (aC (eV 5) (aN))))))) (sNo)) (
  sCo (sSet 5 (eLc false [7, 8] (b2 7 8) (iSeq (eIx oIx (eV 1) (eC (.int 0)))) (tCmp oGt (eV 8) (eC (.int 0))) (eV 7))) (
  sCo (sIf (tAnd (tCmp oEq (eV 4) (eC (.int 2))) (tCmp oGt (eCB cLen (aC (eV 5) (aN))) (eC (.int 0)))) (sRet (eTup (aC (eC (.str "at")) (aC (eCall (T__law_pick CS) (aC (eV 0) (aC (eV 5) (aN)))) (aC (eCall (R 0) (aC (eV 0) (aC (eV 1) (aC (eBin oSub (eV 2) (eC (.int 1))) (aN))))) (aN)))))) (sNo)) (
  sCo (sIf (tCmp oEq (eV 4) (eC (.int 3))) (sRet (eTup (aC (eCall (T__law_pick CS) (aC (eV 0) (aC (eLst (aC (eC (.str "neg")) (aC (eC (.str "inv")) (aC (eC (.str "not")) (aN))))) (aN)))) (aC (eCall (R 0) (aC (eV 0) (aC (eV 1) (aC (eBin oSub (eV 2) (eC (.int 1))) (aN))))) (aN))))) (sNo)) (
  sCo (sSet 6 (eCall (R 0) (aC (eV 0) (aC (eV 1) (aC (eBin oSub (eV 2) (eC (.int 1))) (aN)))))) (
  sRet (eTup (aC (eCall (T__law_pick CS) (aC (eV 0) (aC (eV 3) (aN)))) (aC (eV 6) (aC (eCall (R 0) (aC (eV 0) (aC (eV 1) (aC (eBin oSub (eV 2) (eC (.int 1))) (aN))))) (aN)))))))))))))
theorem ok__law_expr {f : Addr} {fd : FuncData} {CS : Nat → Addr} {lv : Nat} {R : Nat → FT} (hl : 3 ≤ lv) (F : Fun K "_law_expr" "_law_expr" s__law_expr f fd) (T : Txt K mg CS) (C__law_draw : CalX P w K mg base 1 "_law_draw" 2 (T__law_draw CS)) (C__law_expr : CalX P w K mg base lv "_law_expr" 3 (R 0)) (C__law_pick : CalX P w K mg base 2 "_law_pick" 2 (T__law_pick CS)) (C__law_word : CalX P w K mg base 3 "_law_word" 1 (T__law_word CS)) : FnOk P w K mg base (L2.CX P w) (lv + 1) f fd ["_law_state_here", "_law_env", "_law_deep"] (spX K 3 (B__law_expr CS R)) :=
  okX F sc__law_expr rfl rfl (by decide) fun cdv A outer s H E hr =>
  cs_cons (c1_set sc__law_expr.nd rfl lo__law_expr__law_signs (cm_lst (ca_cons (cm_str) (ca_cons (cm_str) (ca_cons (cm_str) (ca_cons (cm_str) (ca_cons (cm_str) (ca_cons (cm_str) (ca_cons (cm_str) (ca_cons (cm_str) (ca_cons (cm_str) (ca_cons (cm_str) (ca_cons (cm_str) (ca_cons (cm_str) (ca_cons (cm_str) (ca_cons (cm_str) (ca_cons (cm_str) (ca_cons (cm_str) (ca_cons (cm_str) (ca_cons (cm_str) (ca_nil) rfl) rfl) rfl) rfl) rfl) rfl) rfl) rfl) rfl) rfl) rfl) rfl) rfl) rfl) rfl) rfl) rfl) rfl) (by decide)) rfl (.inl rfl))
  (cs_cons (c1_set sc__law_expr.nd rfl lo__law_expr__law_kind (cm_call C__law_draw (hr.mono (by omega)) g__law_expr__law_draw (ca_cons (cm_v (i := 0) rfl vs__law_expr__law_state_here nd__law_state_here.1 nd__law_state_here.2) (ca_cons (cm_int) (ca_nil) rfl) rfl) nd__law_draw.1 rfl rfl) rfl (.inl rfl))
  (cs_cons (c1_if (ct_pw (cpw_or (ct_cmp cmo_le (cm_v (i := 2) rfl vs__law_expr__law_deep nd__law_deep.1 nd__law_deep.2) (cm_int) rfl) (cpw_or1 (ct_cmp cmo_lt (cm_v (i := 4) rfl vs__law_expr__law_kind nd__law_kind.1 nd__law_kind.2) (cm_int) rfl)))) (cs_cons (c1_set sc__law_expr.nd rfl lo__law_expr__law_rows (cm_bin cmo_add (cm_lc (own := [("_law_name", 7), ("_law_size", 8)]) rfl sc__law_expr.nd (blkOk_by (N := N__law_expr) (sc := defScope s__law_expr) (by decide +kernel)) (bind2 (by decide) (by decide)) (fun _ _ _ _ _ => L2.pg_tup (n := 2) rfl (L2.pgs_cons (L2.pg_name sc__law_expr.nd (i := 7) rfl (.inl rfl) (.inr rfl)) (L2.pgs_cons (L2.pg_name sc__law_expr.nd (i := 8) rfl (.inl rfl) (.inr rfl)) L2.pgs_nil))) (ci_seq (cm_ix cmi_ix (cm_v (i := 1) rfl vs__law_expr__law_env nd__law_env.1 nd__law_env.2) (cm_int) (fun _ _ => rfl))) (fun _ _ _ _ _ => cts_one (ct_cmp (cmo_eq hr) (cm_v (i := 8) rfl (by first | exact Or.inl rfl | exact Or.inr (Or.inl rfl) | exact Or.inr (Or.inr rfl)) nd__law_size.1 nd__law_size.2) (cm_int) rfl)) (fun _ _ _ _ _ => cm_tup (ca_cons (cm_str) (ca_cons (cm_v (i := 7) rfl (by first | exact Or.inl rfl | exact Or.inr (Or.inl rfl) | exact Or.inr (Or.inr rfl)) nd__law_name.1 nd__law_name.2) (ca_nil) rfl) rfl) (by decide)) (fun _ => rfl)) (cm_lc (own := [("_law_name", 7)]) rfl sc__law_expr.nd (blkOk_by (N := N__law_expr) (sc := defScope s__law_expr) (by decide +kernel)) (bind1 (by decide)) (fun _ _ _ _ _ => L2.pg_name sc__law_expr.nd (i := 7) rfl (.inl rfl) (.inr rfl)) (ci_seq (cm_ix cmi_ix (cm_v (i := 1) rfl vs__law_expr__law_env nd__law_env.1 nd__law_env.2) (cm_int) (fun _ _ => rfl))) (fun _ _ _ _ _ => cts_nil) (fun _ _ _ _ _ => cm_tup (ca_cons (cm_str) (ca_cons (cm_v (i := 7) rfl (by first | exact Or.inl rfl | exact Or.inr (Or.inl rfl) | exact Or.inr (Or.inr rfl)) nd__law_name.1 nd__law_name.2) (ca_nil) rfl) rfl) (by decide)) (fun _ => rfl))) rfl (.inl rfl))
  (cs_cons (c1_if (ct_pw (cpw_or (ct_cmp (cmo_eq hr) (cm_callB cmc_len bb_len T.b_len g__law_expr_len (ca_cons (cm_v (i := 5) rfl vs__law_expr__law_rows nd__law_rows.1 nd__law_rows.2) (ca_nil) rfl) nn_len nd_len.1 rfl rfl) (cm_int) rfl) (cpw_or1 (ct_cmp (cmo_eq hr) (cm_call C__law_draw (hr.mono (by omega)) g__law_expr__law_draw (ca_cons (cm_v (i := 0) rfl vs__law_expr__law_state_here nd__law_state_here.1 nd__law_state_here.2) (ca_cons (cm_int) (ca_nil) rfl) rfl) nd__law_draw.1 rfl rfl) (cm_int) rfl)))) (cs_one (c1_ret (cm_tup (ca_cons (cm_str) (ca_cons (cm_call C__law_word (hr.mono (by omega)) g__law_expr__law_word (ca_cons (cm_v (i := 0) rfl vs__law_expr__law_state_here nd__law_state_here.1 nd__law_state_here.2) (ca_nil) rfl) nd__law_word.1 rfl rfl) (ca_nil) rfl) rfl) (by decide)))) (cs_nil))
  (cs_one (c1_ret (cm_call C__law_pick (hr.mono (by omega)) g__law_expr__law_pick (ca_cons (cm_v (i := 0) rfl vs__law_expr__law_state_here nd__law_state_here.1 nd__law_state_here.2) (ca_cons (cm_v (i := 5) rfl vs__law_expr__law_rows nd__law_rows.1 nd__law_rows.2) (ca_nil) rfl) rfl) nd__law_pick.1 rfl rfl))))) (cs_nil))
  (cs_cons ((by first | exact c1_setLc (iy := 5) (own := [("_law_name", 7), ("_law_size", 8)]) rfl sc__law_expr.nd (blkOk_by (N := N__law_expr) (sc := defScope s__law_expr) (by decide +kernel)) (bind2 (by decide) (by decide)) (fun _ _ _ _ _ => L2.pg_tup (n := 2) rfl (L2.pgs_cons (L2.pg_name sc__law_expr.nd (i := 7) rfl (.inl rfl) (.inr rfl)) (L2.pgs_cons (L2.pg_name sc__law_expr.nd (i := 8) rfl (.inl rfl) (.inr rfl)) L2.pgs_nil))) (ci_seq (cm_ix cmi_ix (cm_v (i := 1) rfl vs__law_expr__law_env nd__law_env.1 nd__law_env.2) (cm_int) (fun _ _ => rfl))) (fun _ _ _ _ _ => cts_one (ct_cmp cmo_gt (cm_v (i := 8) rfl (by first | exact Or.inl rfl | exact Or.inr (Or.inl rfl) | exact Or.inr (Or.inr rfl)) nd__law_size.1 nd__law_size.2) (cm_int) rfl)) (fun _ _ _ _ _ => cm_v (i := 7) rfl (by first | exact Or.inl rfl | exact Or.inr (Or.inl rfl) | exact Or.inr (Or.inr rfl)) nd__law_name.1 nd__law_name.2) rfl rfl (sw_true rfl rfl rfl (by decide +kernel)) (fun _ => rfl) | exact c1_set (i := 5) sc__law_expr.nd rfl lo__law_expr__law_rows (cm_lc (own := [("_law_name", 7), ("_law_size", 8)]) rfl sc__law_expr.nd (blkOk_by (N := N__law_expr) (sc := defScope s__law_expr) (by decide +kernel)) (bind2 (by decide) (by decide)) (fun _ _ _ _ _ => L2.pg_tup (n := 2) rfl (L2.pgs_cons (L2.pg_name sc__law_expr.nd (i := 7) rfl (.inl rfl) (.inr rfl)) (L2.pgs_cons (L2.pg_name sc__law_expr.nd (i := 8) rfl (.inl rfl) (.inr rfl)) L2.pgs_nil))) (ci_seq (cm_ix cmi_ix (cm_v (i := 1) rfl vs__law_expr__law_env nd__law_env.1 nd__law_env.2) (cm_int) (fun _ _ => rfl))) (fun _ _ _ _ _ => cts_one (ct_cmp cmo_gt (cm_v (i := 8) rfl (by first | exact Or.inl rfl | exact Or.inr (Or.inl rfl) | exact Or.inr (Or.inr rfl)) nd__law_size.1 nd__law_size.2) (cm_int) rfl)) (fun _ _ _ _ _ => cm_v (i := 7) rfl (by first | exact Or.inl rfl | exact Or.inr (Or.inl rfl) | exact Or.inr (Or.inr rfl)) nd__law_name.1 nd__law_name.2) (fun _ => rfl)) rfl (.inl rfl)))
  (cs_cons (c1_if (ct_pw (cpw_and (ct_cmp (cmo_eq hr) (cm_v (i := 4) rfl vs__law_expr__law_kind nd__law_kind.1 nd__law_kind.2) (cm_int) rfl) (cpw_and1 (ct_cmp cmo_gt (cm_callB cmc_len bb_len T.b_len g__law_expr_len (ca_cons (cm_v (i := 5) rfl vs__law_expr__law_rows nd__law_rows.1 nd__law_rows.2) (ca_nil) rfl) nn_len nd_len.1 rfl rfl) (cm_int) rfl)))) (cs_one (c1_ret (cm_tup (ca_cons (cm_str) (ca_cons (cm_call C__law_pick (hr.mono (by omega)) g__law_expr__law_pick (ca_cons (cm_v (i := 0) rfl vs__law_expr__law_state_here nd__law_state_here.1 nd__law_state_here.2) (ca_cons (cm_v (i := 5) rfl vs__law_expr__law_rows nd__law_rows.1 nd__law_rows.2) (ca_nil) rfl) rfl) nd__law_pick.1 rfl rfl) (ca_cons (cm_call C__law_expr (hr.mono (by omega)) g__law_expr__law_expr (ca_cons (cm_v (i := 0) rfl vs__law_expr__law_state_here nd__law_state_here.1 nd__law_state_here.2) (ca_cons (cm_v (i := 1) rfl vs__law_expr__law_env nd__law_env.1 nd__law_env.2) (ca_cons (cm_bin cmo_sub (cm_v (i := 2) rfl vs__law_expr__law_deep nd__law_deep.1 nd__law_deep.2) (cm_int)) (ca_nil) rfl) rfl) rfl) nd__law_expr.1 rfl rfl) (ca_nil) rfl) rfl) rfl) (by decide)))) (cs_nil))
  (cs_cons (c1_if (ct_cmp (cmo_eq hr) (cm_v (i := 4) rfl vs__law_expr__law_kind nd__law_kind.1 nd__law_kind.2) (cm_int) rfl) (cs_one (c1_ret (cm_tup (ca_cons (cm_call C__law_pick (hr.mono (by omega)) g__law_expr__law_pick (ca_cons (cm_v (i := 0) rfl vs__law_expr__law_state_here nd__law_state_here.1 nd__law_state_here.2) (ca_cons (cm_lst (ca_cons (cm_str) (ca_cons (cm_str) (ca_cons (cm_str) (ca_nil) rfl) rfl) rfl) (by decide)) (ca_nil) rfl) rfl) nd__law_pick.1 rfl rfl) (ca_cons (cm_call C__law_expr (hr.mono (by omega)) g__law_expr__law_expr (ca_cons (cm_v (i := 0) rfl vs__law_expr__law_state_here nd__law_state_here.1 nd__law_state_here.2) (ca_cons (cm_v (i := 1) rfl vs__law_expr__law_env nd__law_env.1 nd__law_env.2) (ca_cons (cm_bin cmo_sub (cm_v (i := 2) rfl vs__law_expr__law_deep nd__law_deep.1 nd__law_deep.2) (cm_int)) (ca_nil) rfl) rfl) rfl) nd__law_expr.1 rfl rfl) (ca_nil) rfl) rfl) (by decide)))) (cs_nil))
  (cs_cons (c1_set sc__law_expr.nd rfl lo__law_expr__law_first (cm_call C__law_expr (hr.mono (by omega)) g__law_expr__law_expr (ca_cons (cm_v (i := 0) rfl vs__law_expr__law_state_here nd__law_state_here.1 nd__law_state_here.2) (ca_cons (cm_v (i := 1) rfl vs__law_expr__law_env nd__law_env.1 nd__law_env.2) (ca_cons (cm_bin cmo_sub (cm_v (i := 2) rfl vs__law_expr__law_deep nd__law_deep.1 nd__law_deep.2) (cm_int)) (ca_nil) rfl) rfl) rfl) nd__law_expr.1 rfl rfl) rfl (.inl rfl))
  (cs_one (c1_ret (cm_tup (ca_cons (cm_call C__law_pick (hr.mono (by omega)) g__law_expr__law_pick (ca_cons (cm_v (i := 0) rfl vs__law_expr__law_state_here nd__law_state_here.1 nd__law_state_here.2) (ca_cons (cm_v (i := 3) rfl vs__law_expr__law_signs nd__law_signs.1 nd__law_signs.2) (ca_nil) rfl) rfl) nd__law_pick.1 rfl rfl) (ca_cons (cm_v (i := 6) rfl vs__law_expr__law_first nd__law_first.1 nd__law_first.2) (ca_cons (cm_call C__law_expr (hr.mono (by omega)) g__law_expr__law_expr (ca_cons (cm_v (i := 0) rfl vs__law_expr__law_state_here nd__law_state_here.1 nd__law_state_here.2) (ca_cons (cm_v (i := 1) rfl vs__law_expr__law_env nd__law_env.1 nd__law_env.2) (ca_cons (cm_bin cmo_sub (cm_v (i := 2) rfl vs__law_expr__law_deep nd__law_deep.1 nd__law_deep.2) (cm_int)) (ca_nil) rfl) rfl) rfl) nd__law_expr.1 rfl rfl) (ca_nil) rfl) rfl) rfl) (by decide))))))))))
def TS_0 (CS : Nat → Addr) : Nat → Nat → FT
  | 0 => fun _ => noT
  | n + 1 => fun i => match i with | _ => B__law_expr CS (TS_0 CS n)
def T__law_expr (CS : Nat → Addr) : FT := TS_0 CS 8 0
abbrev s__law_two : Stmt := top 24
abbrev N__law_two : List Str := ["_law_sign", "_law_a", "_law_b", "_law_left", "_law_right", "_law_rows"]
theorem sc__law_two : FnScope N__law_two ["_law_sign", "_law_a", "_law_b"] (defScope s__law_two) := ⟨rfl, rfl, rfl, by decide +kernel, rfl, by decide +kernel, by decide +kernel⟩
theorem lo__law_two__law_sign : Loc (defScope s__law_two) "_law_sign" := by first | exact .inl rfl | exact .inr rfl
theorem vs__law_two__law_sign : Vis (defScope s__law_two) "_law_sign" := lo__law_two__law_sign.elim .inl fun z => .inr (.inl z)
theorem lo__law_two__law_a : Loc (defScope s__law_two) "_law_a" := by first | exact .inl rfl | exact .inr rfl
theorem vs__law_two__law_a : Vis (defScope s__law_two) "_law_a" := lo__law_two__law_a.elim .inl fun z => .inr (.inl z)
theorem lo__law_two__law_b : Loc (defScope s__law_two) "_law_b" := by first | exact .inl rfl | exact .inr rfl
theorem vs__law_two__law_b : Vis (defScope s__law_two) "_law_b" := lo__law_two__law_b.elim .inl fun z => .inr (.inl z)
theorem lo__law_two__law_left : Loc (defScope s__law_two) "_law_left" := by first | exact .inl rfl | exact .inr rfl
theorem vs__law_two__law_left : Vis (defScope s__law_two) "_law_left" := lo__law_two__law_left.elim .inl fun z => .inr (.inl z)
theorem lo__law_two__law_right : Loc (defScope s__law_two) "_law_right" := by first | exact .inl rfl | exact .inr rfl
theorem vs__law_two__law_right : Vis (defScope s__law_two) "_law_right" := lo__law_two__law_right.elim .inl fun z => .inr (.inl z)
theorem lo__law_two__law_rows : Loc (defScope s__law_two) "_law_rows" := by first | exact .inl rfl | exact .inr rfl
theorem vs__law_two__law_rows : Vis (defScope s__law_two) "_law_rows" := lo__law_two__law_rows.elim .inl fun z => .inr (.inl z)
theorem g__law_two_int : (defScope s__law_two).names.lookup ("int" : Str) = some .globalImplicit := rfl
def T__law_two (CS : Nat → Addr) : FT := fnT 6 (sCo (sIf (tCmp oIn (eV 0) (eLst (aC (eC (.str "/")) (aC (eC (.str "mod")) (aN))))) (sCo (sIf (tCmp oEq (eV 2) (eC (.int 0))) (sRet (eIx oIx (eLst (aC (eC (.int 0)) (aC (eV 1) (aN)))) (eCB cInt (aC (eBin oEq (eV 0) (eC (.str "mod"))) (aN))))) (sNo)) (
  sRet (eIx oIx (eLst (aC (eBin oDiv (eV 1) (eV 2)) (aC (eBin oMod (eCB cInt (aC (eV 1) (aN))) (eV 2)) (aN)))) (eCB cInt (aC (eBin oEq (eV 0) (eC (.str "mod"))) (aN)))))) (sNo)) (
  sCo (sIf (tCmp oEq (eV 0) (eC (.str "<<"))) (sRet (eBin oMod (eCB cInt (aC (eBin oShl (eV 1) (eBin oMod (eCB cInt (aC (eV 2) (aN))) (eC (.int 32)))) (aN))) (eC (.int 4294967296)))) (sNo)) (
  sCo (sIf (tCmp oEq (eV 0) (eC (.str ">>"))) (sRet (eBin oShr (eV 1) (eBin oMod (eCB cInt (aC (eV 2) (aN))) (eC (.int 32))))) (sNo)) (
  sCo (sSet 3 (eV 1)) (
  sCo (sSet 4 (eV 2)) (
  sCo (sIf (tCmp oIn (eV 0) (eLst (aC (eC (.str "~<")) (aC (eC (.str "~<=")) (aN))))) (sCo (sSet 3 (eBin oMod (eCB cInt (aC (eBin oAdd (eV 1) (eC (.int 2147483648))) (aN))) (eC (.int 4294967296)))) (
  sSet 4 (eBin oMod (eCB cInt (aC (eBin oAdd (eV 2) (eC (.int 2147483648))) (aN))) (eC (.int 4294967296))))) (sNo)) (
  sCo (sSet 5 (eFrzD (eDisp [.inr "+", .inr "-", .inr "*", .inr "&", .inr "|", .inr "^", .inr "<", .inr "<=", .inr "~<", .inr "~<=", .inr "==", .inr "!=", .inr "and", .inr "or"] (aC (eBin oAdd (eV 1) (eV 2)) (aC (eBin oSub (eV 1) (eV 2)) (aC (eBin oMul (eV 1) (eV 2)) (aC (eBin oBand (eV 1) (eV 2)) (aC (eBin oBor (eV 1) (eV 2)) (aC (eBin oBxor (eV 1) (eV 2)) (aC (eCB cInt (aC (eBin oLt (eV 1) (eV 2)) (aN))) (aC (eCB cInt (aC (eBin oLe (eV 1) (eV 2)) (aN))) (aC (eCB cInt (aC (eBin oLt (eV 3) (eV 4)) (aN))) (aC (eCB cInt (aC (eBin oLe (eV 3) (eV 4)) (aN))) (aC (eCB cInt (aC (eBin oEq (eV 1) (eV 2)) (aN))) (aC (eCB cInt (aC (eBin oNe (eV 1) (eV 2)) (aN))) (aC (eCB cInt (aC (eAnd (eBin oGt (eV 1) (eC (.int 0))) (eBin oGt (eV 2) (eC (.int 0)))) (aN))) (aC (eCB cInt (aC (eOr (eBin oGt (eV 1) (eC (.int 0))) (eBin oGt (eV 2) (eC (.int 0)))) (aN))) (aN)))))))))))))))))) (
  sRet (eBin oMod (eCB cInt (aC (eDGet (eV 5) (eV 0)) (aN))) (eC (.int 4294967296)))))))))))
theorem ok__law_two {f : Addr} {fd : FuncData} {CS : Nat → Addr} (F : Fun K "_law_two" "_law_two" s__law_two f fd) (T : Txt K mg CS) : FnOk P w K mg base (L2.CX P w) 1 f fd ["_law_sign", "_law_a", "_law_b"] (spX K 3 (T__law_two CS)) :=
  okX F sc__law_two rfl rfl (by decide) fun cdv A outer s H E hr =>
  cs_cons (c1_if (ct_cmp cmo_in (cm_v (i := 0) rfl vs__law_two__law_sign nd__law_sign.1 nd__law_sign.2) (cm_lst (ca_cons (cm_str) (ca_cons (cm_str) (ca_nil) rfl) rfl) (by decide)) rfl) (cs_cons (c1_if (ct_cmp (cmo_eq hr) (cm_v (i := 2) rfl vs__law_two__law_b nd__law_b.1 nd__law_b.2) (cm_int) rfl) (cs_one (c1_ret (cm_ix cmi_ix (cm_lst (ca_cons (cm_int) (ca_cons (cm_v (i := 1) rfl vs__law_two__law_a nd__law_a.1 nd__law_a.2) (ca_nil) rfl) rfl) (by decide)) (cm_callTy cmc_int bt_int T.b_int g__law_two_int (ca_cons (cm_cmp (cmo_eq hr) (cm_v (i := 0) rfl vs__law_two__law_sign nd__law_sign.1 nd__law_sign.2) (cm_str) rfl) (ca_nil) rfl) nn_int nd_int.1 rfl rfl) (fun _ _ => rfl)))) (cs_nil))
  (cs_one (c1_ret (cm_ix cmi_ix (cm_lst (ca_cons (cm_bin cmo_div (cm_v (i := 1) rfl vs__law_two__law_a nd__law_a.1 nd__law_a.2) (cm_v (i := 2) rfl vs__law_two__law_b nd__law_b.1 nd__law_b.2)) (ca_cons (cm_bin cmo_mod (cm_callTy cmc_int bt_int T.b_int g__law_two_int (ca_cons (cm_v (i := 1) rfl vs__law_two__law_a nd__law_a.1 nd__law_a.2) (ca_nil) rfl) nn_int nd_int.1 rfl rfl) (cm_v (i := 2) rfl vs__law_two__law_b nd__law_b.1 nd__law_b.2)) (ca_nil) rfl) rfl) (by decide)) (cm_callTy cmc_int bt_int T.b_int g__law_two_int (ca_cons (cm_cmp (cmo_eq hr) (cm_v (i := 0) rfl vs__law_two__law_sign nd__law_sign.1 nd__law_sign.2) (cm_str) rfl) (ca_nil) rfl) nn_int nd_int.1 rfl rfl) (fun _ _ => rfl))))) (cs_nil))
  (cs_cons (c1_if (ct_cmp (cmo_eq hr) (cm_v (i := 0) rfl vs__law_two__law_sign nd__law_sign.1 nd__law_sign.2) (cm_str) rfl) (cs_one (c1_ret (cm_bin cmo_mod (cm_callTy cmc_int bt_int T.b_int g__law_two_int (ca_cons (cm_bin cmo_shl (cm_v (i := 1) rfl vs__law_two__law_a nd__law_a.1 nd__law_a.2) (cm_bin cmo_mod (cm_callTy cmc_int bt_int T.b_int g__law_two_int (ca_cons (cm_v (i := 2) rfl vs__law_two__law_b nd__law_b.1 nd__law_b.2) (ca_nil) rfl) nn_int nd_int.1 rfl rfl) (cm_int))) (ca_nil) rfl) nn_int nd_int.1 rfl rfl) (cm_int)))) (cs_nil))
  (cs_cons (c1_if (ct_cmp (cmo_eq hr) (cm_v (i := 0) rfl vs__law_two__law_sign nd__law_sign.1 nd__law_sign.2) (cm_str) rfl) (cs_one (c1_ret (cm_bin cmo_shr (cm_v (i := 1) rfl vs__law_two__law_a nd__law_a.1 nd__law_a.2) (cm_bin cmo_mod (cm_callTy cmc_int bt_int T.b_int g__law_two_int (ca_cons (cm_v (i := 2) rfl vs__law_two__law_b nd__law_b.1 nd__law_b.2) (ca_nil) rfl) nn_int nd_int.1 rfl rfl) (cm_int))))) (cs_nil))
  (cs_cons (c1_set sc__law_two.nd rfl lo__law_two__law_left (cm_v (i := 1) rfl vs__law_two__law_a nd__law_a.1 nd__law_a.2) rfl (.inl rfl))
  (cs_cons (c1_set sc__law_two.nd rfl lo__law_two__law_right (cm_v (i := 2) rfl vs__law_two__law_b nd__law_b.1 nd__law_b.2) rfl (.inl rfl))
  (cs_cons (c1_if (ct_cmp cmo_in (cm_v (i := 0) rfl vs__law_two__law_sign nd__law_sign.1 nd__law_sign.2) (cm_lst (ca_cons (cm_str) (ca_cons (cm_str) (ca_nil) rfl) rfl) (by decide)) rfl) (cs_cons (c1_set sc__law_two.nd rfl lo__law_two__law_left (cm_bin cmo_mod (cm_callTy cmc_int bt_int T.b_int g__law_two_int (ca_cons (cm_bin cmo_add (cm_v (i := 1) rfl vs__law_two__law_a nd__law_a.1 nd__law_a.2) (cm_int)) (ca_nil) rfl) nn_int nd_int.1 rfl rfl) (cm_int)) rfl (.inl rfl))
  (cs_one (c1_set sc__law_two.nd rfl lo__law_two__law_right (cm_bin cmo_mod (cm_callTy cmc_int bt_int T.b_int g__law_two_int (ca_cons (cm_bin cmo_add (cm_v (i := 2) rfl vs__law_two__law_b nd__law_b.1 nd__law_b.2) (cm_int)) (ca_nil) rfl) nn_int nd_int.1 rfl rfl) (cm_int)) rfl (.inl rfl)))) (cs_nil))
  (cs_cons (c1_set sc__law_two.nd rfl lo__law_two__law_rows (cm_frzD (cm_disp (ks := [.inr "+", .inr "-", .inr "*", .inr "&", .inr "|", .inr "^", .inr "<", .inr "<=", .inr "~<", .inr "~<=", .inr "==", .inr "!=", .inr "and", .inr "or"]) (cp_str (cm_bin cmo_add (cm_v (i := 1) rfl vs__law_two__law_a nd__law_a.1 nd__law_a.2) (cm_v (i := 2) rfl vs__law_two__law_b nd__law_b.1 nd__law_b.2)) (cp_str (cm_bin cmo_sub (cm_v (i := 1) rfl vs__law_two__law_a nd__law_a.1 nd__law_a.2) (cm_v (i := 2) rfl vs__law_two__law_b nd__law_b.1 nd__law_b.2)) (cp_str (cm_bin cmo_mul (cm_v (i := 1) rfl vs__law_two__law_a nd__law_a.1 nd__law_a.2) (cm_v (i := 2) rfl vs__law_two__law_b nd__law_b.1 nd__law_b.2)) (cp_str (cm_bin cmo_band (cm_v (i := 1) rfl vs__law_two__law_a nd__law_a.1 nd__law_a.2) (cm_v (i := 2) rfl vs__law_two__law_b nd__law_b.1 nd__law_b.2)) (cp_str (cm_bin cmo_bor (cm_v (i := 1) rfl vs__law_two__law_a nd__law_a.1 nd__law_a.2) (cm_v (i := 2) rfl vs__law_two__law_b nd__law_b.1 nd__law_b.2)) (cp_str (cm_bin cmo_bxor (cm_v (i := 1) rfl vs__law_two__law_a nd__law_a.1 nd__law_a.2) (cm_v (i := 2) rfl vs__law_two__law_b nd__law_b.1 nd__law_b.2)) (cp_str (cm_callTy cmc_int bt_int T.b_int g__law_two_int (ca_cons (cm_cmp cmo_lt (cm_v (i := 1) rfl vs__law_two__law_a nd__law_a.1 nd__law_a.2) (cm_v (i := 2) rfl vs__law_two__law_b nd__law_b.1 nd__law_b.2) rfl) (ca_nil) rfl) nn_int nd_int.1 rfl rfl) (cp_str (cm_callTy cmc_int bt_int T.b_int g__law_two_int (ca_cons (cm_cmp cmo_le (cm_v (i := 1) rfl vs__law_two__law_a nd__law_a.1 nd__law_a.2) (cm_v (i := 2) rfl vs__law_two__law_b nd__law_b.1 nd__law_b.2) rfl) (ca_nil) rfl) nn_int nd_int.1 rfl rfl) (cp_str (cm_callTy cmc_int bt_int T.b_int g__law_two_int (ca_cons (cm_cmp cmo_lt (cm_v (i := 3) rfl vs__law_two__law_left nd__law_left.1 nd__law_left.2) (cm_v (i := 4) rfl vs__law_two__law_right nd__law_right.1 nd__law_right.2) rfl) (ca_nil) rfl) nn_int nd_int.1 rfl rfl) (cp_str (cm_callTy cmc_int bt_int T.b_int g__law_two_int (ca_cons (cm_cmp cmo_le (cm_v (i := 3) rfl vs__law_two__law_left nd__law_left.1 nd__law_left.2) (cm_v (i := 4) rfl vs__law_two__law_right nd__law_right.1 nd__law_right.2) rfl) (ca_nil) rfl) nn_int nd_int.1 rfl rfl) (cp_str (cm_callTy cmc_int bt_int T.b_int g__law_two_int (ca_cons (cm_cmp (cmo_eq hr) (cm_v (i := 1) rfl vs__law_two__law_a nd__law_a.1 nd__law_a.2) (cm_v (i := 2) rfl vs__law_two__law_b nd__law_b.1 nd__law_b.2) rfl) (ca_nil) rfl) nn_int nd_int.1 rfl rfl) (cp_str (cm_callTy cmc_int bt_int T.b_int g__law_two_int (ca_cons (cm_cmp (cmo_ne hr) (cm_v (i := 1) rfl vs__law_two__law_a nd__law_a.1 nd__law_a.2) (cm_v (i := 2) rfl vs__law_two__law_b nd__law_b.1 nd__law_b.2) rfl) (ca_nil) rfl) nn_int nd_int.1 rfl rfl) (cp_str (cm_callTy cmc_int bt_int T.b_int g__law_two_int (ca_cons (cm_and (cm_cmp cmo_gt (cm_v (i := 1) rfl vs__law_two__law_a nd__law_a.1 nd__law_a.2) (cm_int) rfl) (cm_one (cm_cmp cmo_gt (cm_v (i := 2) rfl vs__law_two__law_b nd__law_b.1 nd__law_b.2) (cm_int) rfl))) (ca_nil) rfl) nn_int nd_int.1 rfl rfl) (cp_str (cm_callTy cmc_int bt_int T.b_int g__law_two_int (ca_cons (cm_or (cm_cmp cmo_gt (cm_v (i := 1) rfl vs__law_two__law_a nd__law_a.1 nd__law_a.2) (cm_int) rfl) (cm_one (cm_cmp cmo_gt (cm_v (i := 2) rfl vs__law_two__law_b nd__law_b.1 nd__law_b.2) (cm_int) rfl))) (ca_nil) rfl) nn_int nd_int.1 rfl rfl) (cp_nil))))))))))))))) rfl rfl (fun z => nomatch z) (by decide) (by decide) (by decide +kernel))) rfl (.inl rfl))
  (cs_one (c1_ret (cm_bin cmo_mod (cm_callTy cmc_int bt_int T.b_int g__law_two_int (ca_cons (cm_dget hr (cm_v (i := 5) rfl vs__law_two__law_rows nd__law_rows.1 nd__law_rows.2) (cm_v (i := 0) rfl vs__law_two__law_sign nd__law_sign.1 nd__law_sign.2) (fun _ _ => rfl)) (ca_nil) rfl) nn_int nd_int.1 rfl rfl) (cm_int))))))))))
abbrev s__law_value : Stmt := top 25
abbrev N__law_value : List Str := ["_law_e", "_law_names", "_law_row", "_law_left"]
theorem sc__law_value : FnScope N__law_value ["_law_e", "_law_names"] (defScope s__law_value) := ⟨rfl, rfl, rfl, by decide +kernel, rfl, by decide +kernel, by decide +kernel⟩
theorem lo__law_value__law_e : Loc (defScope s__law_value) "_law_e" := by first | exact .inl rfl | exact .inr rfl
theorem vs__law_value__law_e : Vis (defScope s__law_value) "_law_e" := lo__law_value__law_e.elim .inl fun z => .inr (.inl z)
theorem lo__law_value__law_names : Loc (defScope s__law_value) "_law_names" := by first | exact .inl rfl | exact .inr rfl
theorem vs__law_value__law_names : Vis (defScope s__law_value) "_law_names" := lo__law_value__law_names.elim .inl fun z => .inr (.inl z)
theorem lo__law_value__law_row : Loc (defScope s__law_value) "_law_row" := by first | exact .inl rfl | exact .inr rfl
theorem vs__law_value__law_row : Vis (defScope s__law_value) "_law_row" := lo__law_value__law_row.elim .inl fun z => .inr (.inl z)
theorem lo__law_value__law_left : Loc (defScope s__law_value) "_law_left" := by first | exact .inl rfl | exact .inr rfl
theorem vs__law_value__law_left : Vis (defScope s__law_value) "_law_left" := lo__law_value__law_left.elim .inl fun z => .inr (.inl z)
theorem g__law_value_int : (defScope s__law_value).names.lookup ("int" : Str) = some .globalImplicit := rfl
theorem g__law_value__law_value : (defScope s__law_value).names.lookup ("_law_value" : Str) = some .globalImplicit := rfl
theorem g__law_value_len : (defScope s__law_value).names.lookup ("len" : Str) = some .globalImplicit := rfl
theorem g__law_value__law_two : (defScope s__law_value).names.lookup ("_law_two" : Str) = some .globalImplicit := rfl
def B__law_value (CS : Nat → Addr) (R : Nat → FT) : FT := fnT 4 (sCo (sIf (tCmp oEq (eIx oIx (eV 0) (eC (.int 0))) (eC (.str "num"))) (sRet (eIx oIx (eV 0) (eC (.int 1)))) (sNo)) (
  sCo (sIf (tCmp oEq (eIx oIx (eV 0) (eC (.int 0))) (eC (.str "cell"))) (sRet (eIx oIx (eDGet (eV 1) (eIx oIx (eV 0) (eC (.int 1)))) (eC (.int 0)))) (sNo)) (
  sCo (sIf (tCmp oEq (eIx oIx (eV 0) (eC (.int 0))) (eC (.str "at"))) (sCo (sSet 2 (eDGet (eV 1) (eIx oIx (eV 0) (eC (.int 1))))) (
  sRet (eIx oIx (eV 2) (eBin oMod (eCB cInt (aC (eCall (R 0) (aC (eIx oIx (eV 0) (eC (.int 2))) (aC (eV 1) (aN)))) (aN))) (eCB cLen (aC (eV 2) (aN))))))) (sNo)) (
  sCo (sSet 3 (eCall (R 0) (aC (eIx oIx (eV 0) (eC (.int 1))) (aC (eV 1) (aN))))) (
  sCo (sIf (tCmp oIn (eIx oIx (eV 0) (eC (.int 0))) (eLst (aC (eC (.str "neg")) (aC (eC (.str "inv")) (aC (eC (.str "not")) (aN)))))) (sRet (eDGet (eFrzD (eDisp [.inr "neg", .inr "inv", .inr "not"] (aC (eBin oMod (eCB cInt (aC (eBin oSub (eC (.int 0)) (eV 3)) (aN))) (eC (.int 4294967296))) (aC (eBin oSub (eC (.int 4294967295)) (eV 3)) (aC (eCB cInt (aC (eBin oEq (eV 3) (eC (.int 0))) (aN))) (aN)))))) (eIx oIx (eV 0) (eC (.int 0))))) (sNo)) (
  sRet (eCall (T__law_two CS) (aC (eIx oIx (eV 0) (eC (.int 0))) (aC (eV 3) (aC (eCall (R 0) (aC (eIx oIx (eV 0) (eC (.int 2))) (aC (eV 1) (aN)))) (aN)))))))))))
theorem ok__law_value {f : Addr} {fd : FuncData} {CS : Nat → Addr} {lv : Nat} {R : Nat → FT} (hl : 1 ≤ lv) (F : Fun K "_law_value" "_law_value" s__law_value f fd) (T : Txt K mg CS) (C__law_value : CalX P w K mg base lv "_law_value" 2 (R 0)) (C__law_two : CalX P w K mg base 1 "_law_two" 3 (T__law_two CS)) : FnOk P w K mg base (L2.CX P w) (lv + 1) f fd ["_law_e", "_law_names"] (spX K 2 (B__law_value CS R)) :=
  okX F sc__law_value rfl rfl (by decide) fun cdv A outer s H E hr =>
  cs_cons (c1_if (ct_cmp (cmo_eq hr) (cm_ix cmi_ix (cm_v (i := 0) rfl vs__law_value__law_e nd__law_e.1 nd__law_e.2) (cm_int) (fun _ _ => rfl)) (cm_str) rfl) (cs_one (c1_ret (cm_ix cmi_ix (cm_v (i := 0) rfl vs__law_value__law_e nd__law_e.1 nd__law_e.2) (cm_int) (fun _ _ => rfl)))) (cs_nil))
  (cs_cons (c1_if (ct_cmp (cmo_eq hr) (cm_ix cmi_ix (cm_v (i := 0) rfl vs__law_value__law_e nd__law_e.1 nd__law_e.2) (cm_int) (fun _ _ => rfl)) (cm_str) rfl) (cs_one (c1_ret (cm_ix cmi_ix (cm_dget hr (cm_v (i := 1) rfl vs__law_value__law_names nd__law_names.1 nd__law_names.2) (cm_ix cmi_ix (cm_v (i := 0) rfl vs__law_value__law_e nd__law_e.1 nd__law_e.2) (cm_int) (fun _ _ => rfl)) (fun _ _ => rfl)) (cm_int) (fun _ _ => rfl)))) (cs_nil))
  (cs_cons (c1_if (ct_cmp (cmo_eq hr) (cm_ix cmi_ix (cm_v (i := 0) rfl vs__law_value__law_e nd__law_e.1 nd__law_e.2) (cm_int) (fun _ _ => rfl)) (cm_str) rfl) (cs_cons (c1_set sc__law_value.nd rfl lo__law_value__law_row (cm_dget hr (cm_v (i := 1) rfl vs__law_value__law_names nd__law_names.1 nd__law_names.2) (cm_ix cmi_ix (cm_v (i := 0) rfl vs__law_value__law_e nd__law_e.1 nd__law_e.2) (cm_int) (fun _ _ => rfl)) (fun _ _ => rfl)) rfl (.inl rfl))
  (cs_one (c1_ret (cm_ix cmi_ix (cm_v (i := 2) rfl vs__law_value__law_row nd__law_row.1 nd__law_row.2) (cm_bin cmo_mod (cm_callTy cmc_int bt_int T.b_int g__law_value_int (ca_cons (cm_call C__law_value (hr.mono (by omega)) g__law_value__law_value (ca_cons (cm_ix cmi_ix (cm_v (i := 0) rfl vs__law_value__law_e nd__law_e.1 nd__law_e.2) (cm_int) (fun _ _ => rfl)) (ca_cons (cm_v (i := 1) rfl vs__law_value__law_names nd__law_names.1 nd__law_names.2) (ca_nil) rfl) rfl) nd__law_value.1 rfl rfl) (ca_nil) rfl) nn_int nd_int.1 rfl rfl) (cm_callB cmc_len bb_len T.b_len g__law_value_len (ca_cons (cm_v (i := 2) rfl vs__law_value__law_row nd__law_row.1 nd__law_row.2) (ca_nil) rfl) nn_len nd_len.1 rfl rfl)) (fun _ _ => rfl))))) (cs_nil))
  (cs_cons (c1_set sc__law_value.nd rfl lo__law_value__law_left (cm_call C__law_value (hr.mono (by omega)) g__law_value__law_value (ca_cons (cm_ix cmi_ix (cm_v (i := 0) rfl vs__law_value__law_e nd__law_e.1 nd__law_e.2) (cm_int) (fun _ _ => rfl)) (ca_cons (cm_v (i := 1) rfl vs__law_value__law_names nd__law_names.1 nd__law_names.2) (ca_nil) rfl) rfl) nd__law_value.1 rfl rfl) rfl (.inl rfl))
  (cs_cons (c1_if (ct_cmp cmo_in (cm_ix cmi_ix (cm_v (i := 0) rfl vs__law_value__law_e nd__law_e.1 nd__law_e.2) (cm_int) (fun _ _ => rfl)) (cm_lst (ca_cons (cm_str) (ca_cons (cm_str) (ca_cons (cm_str) (ca_nil) rfl) rfl) rfl) (by decide)) rfl) (cs_one (c1_ret (cm_dget hr (cm_frzD (cm_disp (ks := [.inr "neg", .inr "inv", .inr "not"]) (cp_str (cm_bin cmo_mod (cm_callTy cmc_int bt_int T.b_int g__law_value_int (ca_cons (cm_bin cmo_sub (cm_int) (cm_v (i := 3) rfl vs__law_value__law_left nd__law_left.1 nd__law_left.2)) (ca_nil) rfl) nn_int nd_int.1 rfl rfl) (cm_int)) (cp_str (cm_bin cmo_sub (cm_int) (cm_v (i := 3) rfl vs__law_value__law_left nd__law_left.1 nd__law_left.2)) (cp_str (cm_callTy cmc_int bt_int T.b_int g__law_value_int (ca_cons (cm_cmp (cmo_eq hr) (cm_v (i := 3) rfl vs__law_value__law_left nd__law_left.1 nd__law_left.2) (cm_int) rfl) (ca_nil) rfl) nn_int nd_int.1 rfl rfl) (cp_nil)))) rfl rfl (fun z => nomatch z) (by decide) (by decide) (by decide +kernel))) (cm_ix cmi_ix (cm_v (i := 0) rfl vs__law_value__law_e nd__law_e.1 nd__law_e.2) (cm_int) (fun _ _ => rfl)) (fun _ _ => rfl)))) (cs_nil))
  (cs_one (c1_ret (cm_call C__law_two (hr.mono (by omega)) g__law_value__law_two (ca_cons (cm_ix cmi_ix (cm_v (i := 0) rfl vs__law_value__law_e nd__law_e.1 nd__law_e.2) (cm_int) (fun _ _ => rfl)) (ca_cons (cm_v (i := 3) rfl vs__law_value__law_left nd__law_left.1 nd__law_left.2) (ca_cons (cm_call C__law_value (hr.mono (by omega)) g__law_value__law_value (ca_cons (cm_ix cmi_ix (cm_v (i := 0) rfl vs__law_value__law_e nd__law_e.1 nd__law_e.2) (cm_int) (fun _ _ => rfl)) (ca_cons (cm_v (i := 1) rfl vs__law_value__law_names nd__law_names.1 nd__law_names.2) (ca_nil) rfl) rfl) nd__law_value.1 rfl rfl) (ca_nil) rfl) rfl) rfl) nd__law_two.1 rfl rfl)))))))
def TS_1 (CS : Nat → Addr) : Nat → Nat → FT
  | 0 => fun _ => noT
  | n + 1 => fun i => match i with | _ => B__law_value CS (TS_1 CS n)
def T__law_value (CS : Nat → Addr) : FT := TS_1 CS 8 0
abbrev s_wrap : Stmt := top 4
abbrev N_wrap : List Str := ["n"]
theorem sc_wrap : FnScope N_wrap ["n"] (defScope s_wrap) := ⟨rfl, rfl, rfl, by decide +kernel, rfl, by decide +kernel, by decide +kernel⟩
theorem lo_wrap_n : Loc (defScope s_wrap) "n" := by first | exact .inl rfl | exact .inr rfl
theorem vs_wrap_n : Vis (defScope s_wrap) "n" := lo_wrap_n.elim .inl fun z => .inr (.inl z)
theorem g_wrap_MODULUS : (defScope s_wrap).names.lookup ("MODULUS" : Str) = some .globalImplicit := rfl
def T_wrap (CS : Nat → Addr) : FT := fnT 1 (sRet (eBin oMod (eV 0) (eC (.int 4294967296))))
theorem ok_wrap {f : Addr} {fd : FuncData} {CS : Nat → Addr} (F : Fun K "wrap" "wrap" s_wrap f fd) (T : Txt K mg CS) : FnOk P w K mg base (L2.CX P w) 1 f fd ["n"] (spX K 1 (T_wrap CS)) :=
  okX F sc_wrap rfl rfl (by decide) fun cdv A outer s H E hr =>
  cs_one (c1_ret (cm_bin cmo_mod (cm_v (i := 0) rfl vs_wrap_n nd_n.1 nd_n.2) (cm_glob T.c_MODULUS g_wrap_MODULUS nd_MODULUS.1)))
abbrev s__arithmetic : Stmt := top 6
abbrev N__arithmetic : List Str := ["operator", "a", "b"]
theorem sc__arithmetic : FnScope N__arithmetic ["operator", "a", "b"] (defScope s__arithmetic) := ⟨rfl, rfl, rfl, by decide +kernel, rfl, by decide +kernel, by decide +kernel⟩
theorem lo__arithmetic_operator : Loc (defScope s__arithmetic) "operator" := by first | exact .inl rfl | exact .inr rfl
theorem vs__arithmetic_operator : Vis (defScope s__arithmetic) "operator" := lo__arithmetic_operator.elim .inl fun z => .inr (.inl z)
theorem lo__arithmetic_a : Loc (defScope s__arithmetic) "a" := by first | exact .inl rfl | exact .inr rfl
theorem vs__arithmetic_a : Vis (defScope s__arithmetic) "a" := lo__arithmetic_a.elim .inl fun z => .inr (.inl z)
theorem lo__arithmetic_b : Loc (defScope s__arithmetic) "b" := by first | exact .inl rfl | exact .inr rfl
theorem vs__arithmetic_b : Vis (defScope s__arithmetic) "b" := lo__arithmetic_b.elim .inl fun z => .inr (.inl z)
theorem g__arithmetic_wrap : (defScope s__arithmetic).names.lookup ("wrap" : Str) = some .globalImplicit := rfl
def T__arithmetic (CS : Nat → Addr) : FT := fnT 3 (sCo (sIf (tCmp oEq (eV 0) (eC (.str "+"))) (sRet (eCall (T_wrap CS) (aC (eBin oAdd (eV 1) (eV 2)) (aN)))) (sNo)) (
  sCo (sIf (tCmp oEq (eV 0) (eC (.str "-"))) (sRet (eCall (T_wrap CS) (aC (eBin oSub (eV 1) (eV 2)) (aN)))) (sNo)) (
  sCo (sIf (tCmp oEq (eV 0) (eC (.str "*"))) (sRet (eCall (T_wrap CS) (aC (eBin oMul (eV 1) (eV 2)) (aN)))) (sNo)) (
  sCo (sIf (tCmp oEq (eV 0) (eC (.str "/"))) (sRet (eIf (tCmp oEq (eV 2) (eC (.int 0))) (eC (.int 0)) (eBin oDiv (eV 1) (eV 2)))) (sNo)) (
  sCo (sIf (tCmp oEq (eV 0) (eC (.str "mod"))) (sRet (eIf (tCmp oEq (eV 2) (eC (.int 0))) (eV 1) (eBin oMod (eV 1) (eV 2)))) (sNo)) (
  sRet (eC .non)))))))
theorem ok__arithmetic {f : Addr} {fd : FuncData} {CS : Nat → Addr} (F : Fun K "_arithmetic" "_arithmetic" s__arithmetic f fd) (T : Txt K mg CS) (C_wrap : CalX P w K mg base 1 "wrap" 1 (T_wrap CS)) : FnOk P w K mg base (L2.CX P w) 2 f fd ["operator", "a", "b"] (spX K 3 (T__arithmetic CS)) :=
  okX F sc__arithmetic rfl rfl (by decide) fun cdv A outer s H E hr =>
  cs_cons (c1_if (ct_cmp (cmo_eq hr) (cm_v (i := 0) rfl vs__arithmetic_operator nd_operator.1 nd_operator.2) (cm_str) rfl) (cs_one (c1_ret (cm_call C_wrap (hr.mono (by decide)) g__arithmetic_wrap (ca_cons (cm_bin cmo_add (cm_v (i := 1) rfl vs__arithmetic_a nd_a.1 nd_a.2) (cm_v (i := 2) rfl vs__arithmetic_b nd_b.1 nd_b.2)) (ca_nil) rfl) nd_wrap.1 rfl rfl))) (cs_nil))
  (cs_cons (c1_if (ct_cmp (cmo_eq hr) (cm_v (i := 0) rfl vs__arithmetic_operator nd_operator.1 nd_operator.2) (cm_str) rfl) (cs_one (c1_ret (cm_call C_wrap (hr.mono (by decide)) g__arithmetic_wrap (ca_cons (cm_bin cmo_sub (cm_v (i := 1) rfl vs__arithmetic_a nd_a.1 nd_a.2) (cm_v (i := 2) rfl vs__arithmetic_b nd_b.1 nd_b.2)) (ca_nil) rfl) nd_wrap.1 rfl rfl))) (cs_nil))
  (cs_cons (c1_if (ct_cmp (cmo_eq hr) (cm_v (i := 0) rfl vs__arithmetic_operator nd_operator.1 nd_operator.2) (cm_str) rfl) (cs_one (c1_ret (cm_call C_wrap (hr.mono (by decide)) g__arithmetic_wrap (ca_cons (cm_bin cmo_mul (cm_v (i := 1) rfl vs__arithmetic_a nd_a.1 nd_a.2) (cm_v (i := 2) rfl vs__arithmetic_b nd_b.1 nd_b.2)) (ca_nil) rfl) nd_wrap.1 rfl rfl))) (cs_nil))
  (cs_cons (c1_if (ct_cmp (cmo_eq hr) (cm_v (i := 0) rfl vs__arithmetic_operator nd_operator.1 nd_operator.2) (cm_str) rfl) (cs_one (c1_ret (cm_if (ct_cmp (cmo_eq hr) (cm_v (i := 2) rfl vs__arithmetic_b nd_b.1 nd_b.2) (cm_int) rfl) (cm_int) (cm_bin cmo_div (cm_v (i := 1) rfl vs__arithmetic_a nd_a.1 nd_a.2) (cm_v (i := 2) rfl vs__arithmetic_b nd_b.1 nd_b.2))))) (cs_nil))
  (cs_cons (c1_if (ct_cmp (cmo_eq hr) (cm_v (i := 0) rfl vs__arithmetic_operator nd_operator.1 nd_operator.2) (cm_str) rfl) (cs_one (c1_ret (cm_if (ct_cmp (cmo_eq hr) (cm_v (i := 2) rfl vs__arithmetic_b nd_b.1 nd_b.2) (cm_int) rfl) (cm_v (i := 1) rfl vs__arithmetic_a nd_a.1 nd_a.2) (cm_bin cmo_mod (cm_v (i := 1) rfl vs__arithmetic_a nd_a.1 nd_a.2) (cm_v (i := 2) rfl vs__arithmetic_b nd_b.1 nd_b.2))))) (cs_nil))
  (cs_one (c1_ret (cm_non)))))))
abbrev s__bits : Stmt := top 7
abbrev N__bits : List Str := ["operator", "a", "b"]
theorem sc__bits : FnScope N__bits ["operator", "a", "b"] (defScope s__bits) := ⟨rfl, rfl, rfl, by decide +kernel, rfl, by decide +kernel, by decide +kernel⟩
theorem lo__bits_operator : Loc (defScope s__bits) "operator" := by first | exact .inl rfl | exact .inr rfl
theorem vs__bits_operator : Vis (defScope s__bits) "operator" := lo__bits_operator.elim .inl fun z => .inr (.inl z)
theorem lo__bits_a : Loc (defScope s__bits) "a" := by first | exact .inl rfl | exact .inr rfl
theorem vs__bits_a : Vis (defScope s__bits) "a" := lo__bits_a.elim .inl fun z => .inr (.inl z)
theorem lo__bits_b : Loc (defScope s__bits) "b" := by first | exact .inl rfl | exact .inr rfl
theorem vs__bits_b : Vis (defScope s__bits) "b" := lo__bits_b.elim .inl fun z => .inr (.inl z)
theorem g__bits_wrap : (defScope s__bits).names.lookup ("wrap" : Str) = some .globalImplicit := rfl
def T__bits (CS : Nat → Addr) : FT := fnT 3 (sCo (sIf (tCmp oEq (eV 0) (eC (.str "&"))) (sRet (eBin oBand (eV 1) (eV 2))) (sNo)) (
  sCo (sIf (tCmp oEq (eV 0) (eC (.str "|"))) (sRet (eBin oBor (eV 1) (eV 2))) (sNo)) (
  sCo (sIf (tCmp oEq (eV 0) (eC (.str "^"))) (sRet (eBin oBxor (eV 1) (eV 2))) (sNo)) (
  sCo (sIf (tCmp oEq (eV 0) (eC (.str "<<"))) (sRet (eCall (T_wrap CS) (aC (eBin oShl (eV 1) (eBin oBand (eV 2) (eC (.int 31)))) (aN)))) (sNo)) (
  sCo (sIf (tCmp oEq (eV 0) (eC (.str ">>"))) (sRet (eBin oShr (eV 1) (eBin oBand (eV 2) (eC (.int 31))))) (sNo)) (
  sRet (eC .non)))))))
theorem ok__bits {f : Addr} {fd : FuncData} {CS : Nat → Addr} (F : Fun K "_bits" "_bits" s__bits f fd) (T : Txt K mg CS) (C_wrap : CalX P w K mg base 1 "wrap" 1 (T_wrap CS)) : FnOk P w K mg base (L2.CX P w) 2 f fd ["operator", "a", "b"] (spX K 3 (T__bits CS)) :=
  okX F sc__bits rfl rfl (by decide) fun cdv A outer s H E hr =>
  cs_cons (c1_if (ct_cmp (cmo_eq hr) (cm_v (i := 0) rfl vs__bits_operator nd_operator.1 nd_operator.2) (cm_str) rfl) (cs_one (c1_ret (cm_bin cmo_band (cm_v (i := 1) rfl vs__bits_a nd_a.1 nd_a.2) (cm_v (i := 2) rfl vs__bits_b nd_b.1 nd_b.2)))) (cs_nil))
  (cs_cons (c1_if (ct_cmp (cmo_eq hr) (cm_v (i := 0) rfl vs__bits_operator nd_operator.1 nd_operator.2) (cm_str) rfl) (cs_one (c1_ret (cm_bin cmo_bor (cm_v (i := 1) rfl vs__bits_a nd_a.1 nd_a.2) (cm_v (i := 2) rfl vs__bits_b nd_b.1 nd_b.2)))) (cs_nil))
  (cs_cons (c1_if (ct_cmp (cmo_eq hr) (cm_v (i := 0) rfl vs__bits_operator nd_operator.1 nd_operator.2) (cm_str) rfl) (cs_one (c1_ret (cm_bin cmo_bxor (cm_v (i := 1) rfl vs__bits_a nd_a.1 nd_a.2) (cm_v (i := 2) rfl vs__bits_b nd_b.1 nd_b.2)))) (cs_nil))
  (cs_cons (c1_if (ct_cmp (cmo_eq hr) (cm_v (i := 0) rfl vs__bits_operator nd_operator.1 nd_operator.2) (cm_str) rfl) (cs_one (c1_ret (cm_call C_wrap (hr.mono (by decide)) g__bits_wrap (ca_cons (cm_bin cmo_shl (cm_v (i := 1) rfl vs__bits_a nd_a.1 nd_a.2) (cm_bin cmo_band (cm_v (i := 2) rfl vs__bits_b nd_b.1 nd_b.2) (cm_int))) (ca_nil) rfl) nd_wrap.1 rfl rfl))) (cs_nil))
  (cs_cons (c1_if (ct_cmp (cmo_eq hr) (cm_v (i := 0) rfl vs__bits_operator nd_operator.1 nd_operator.2) (cm_str) rfl) (cs_one (c1_ret (cm_bin cmo_shr (cm_v (i := 1) rfl vs__bits_a nd_a.1 nd_a.2) (cm_bin cmo_band (cm_v (i := 2) rfl vs__bits_b nd_b.1 nd_b.2) (cm_int))))) (cs_nil))
  (cs_one (c1_ret (cm_non)))))))
abbrev s_signed : Stmt := top 5
abbrev N_signed : List Str := ["w"]
theorem sc_signed : FnScope N_signed ["w"] (defScope s_signed) := ⟨rfl, rfl, rfl, by decide +kernel, rfl, by decide +kernel, by decide +kernel⟩
theorem lo_signed_w : Loc (defScope s_signed) "w" := by first | exact .inl rfl | exact .inr rfl
theorem vs_signed_w : Vis (defScope s_signed) "w" := lo_signed_w.elim .inl fun z => .inr (.inl z)
theorem g_signed_SIGN : (defScope s_signed).names.lookup ("SIGN" : Str) = some .globalImplicit := rfl
theorem g_signed_MODULUS : (defScope s_signed).names.lookup ("MODULUS" : Str) = some .globalImplicit := rfl
def T_signed (CS : Nat → Addr) : FT := fnT 1 (sCo (sIf (tCmp oLt (eV 0) (eC (.int 2147483648))) (sRet (eV 0)) (sNo)) (
  sRet (eBin oSub (eV 0) (eC (.int 4294967296)))))
theorem ok_signed {f : Addr} {fd : FuncData} {CS : Nat → Addr} (F : Fun K "signed" "signed" s_signed f fd) (T : Txt K mg CS) : FnOk P w K mg base (L2.CX P w) 1 f fd ["w"] (spX K 1 (T_signed CS)) :=
  okX F sc_signed rfl rfl (by decide) fun cdv A outer s H E hr =>
  cs_cons (c1_if (ct_cmp cmo_lt (cm_v (i := 0) rfl vs_signed_w nd_w.1 nd_w.2) (cm_glob T.c_SIGN g_signed_SIGN nd_SIGN.1) rfl) (cs_one (c1_ret (cm_v (i := 0) rfl vs_signed_w nd_w.1 nd_w.2))) (cs_nil))
  (cs_one (c1_ret (cm_bin cmo_sub (cm_v (i := 0) rfl vs_signed_w nd_w.1 nd_w.2) (cm_glob T.c_MODULUS g_signed_MODULUS nd_MODULUS.1))))
abbrev s__truth : Stmt := top 8
abbrev N__truth : List Str := ["operator", "a", "b"]
theorem sc__truth : FnScope N__truth ["operator", "a", "b"] (defScope s__truth) := ⟨rfl, rfl, rfl, by decide +kernel, rfl, by decide +kernel, by decide +kernel⟩
theorem lo__truth_operator : Loc (defScope s__truth) "operator" := by first | exact .inl rfl | exact .inr rfl
theorem vs__truth_operator : Vis (defScope s__truth) "operator" := lo__truth_operator.elim .inl fun z => .inr (.inl z)
theorem lo__truth_a : Loc (defScope s__truth) "a" := by first | exact .inl rfl | exact .inr rfl
theorem vs__truth_a : Vis (defScope s__truth) "a" := lo__truth_a.elim .inl fun z => .inr (.inl z)
theorem lo__truth_b : Loc (defScope s__truth) "b" := by first | exact .inl rfl | exact .inr rfl
theorem vs__truth_b : Vis (defScope s__truth) "b" := lo__truth_b.elim .inl fun z => .inr (.inl z)
theorem g__truth_signed : (defScope s__truth).names.lookup ("signed" : Str) = some .globalImplicit := rfl
def T__truth (CS : Nat → Addr) : FT := fnT 3 (sCo (sIf (tCmp oEq (eV 0) (eC (.str "<"))) (sRet (eBin oLt (eV 1) (eV 2))) (sNo)) (
  sCo (sIf (tCmp oEq (eV 0) (eC (.str "<="))) (sRet (eBin oLe (eV 1) (eV 2))) (sNo)) (
  sCo (sIf (tCmp oEq (eV 0) (eC (.str "~<"))) (sRet (eBin oLt (eCall (T_signed CS) (aC (eV 1) (aN))) (eCall (T_signed CS) (aC (eV 2) (aN))))) (sNo)) (
  sCo (sIf (tCmp oEq (eV 0) (eC (.str "~<="))) (sRet (eBin oLe (eCall (T_signed CS) (aC (eV 1) (aN))) (eCall (T_signed CS) (aC (eV 2) (aN))))) (sNo)) (
  sCo (sIf (tCmp oEq (eV 0) (eC (.str "=="))) (sRet (eBin oEq (eV 1) (eV 2))) (sNo)) (
  sCo (sIf (tCmp oEq (eV 0) (eC (.str "!="))) (sRet (eBin oNe (eV 1) (eV 2))) (sNo)) (
  sCo (sIf (tCmp oEq (eV 0) (eC (.str "and"))) (sRet (eAnd (eBin oNe (eV 1) (eC (.int 0))) (eBin oNe (eV 2) (eC (.int 0))))) (sNo)) (
  sRet (eOr (eBin oNe (eV 1) (eC (.int 0))) (eBin oNe (eV 2) (eC (.int 0))))))))))))
theorem ok__truth {f : Addr} {fd : FuncData} {CS : Nat → Addr} (F : Fun K "_truth" "_truth" s__truth f fd) (T : Txt K mg CS) (C_signed : CalX P w K mg base 1 "signed" 1 (T_signed CS)) : FnOk P w K mg base (L2.CX P w) 2 f fd ["operator", "a", "b"] (spX K 3 (T__truth CS)) :=
  okX F sc__truth rfl rfl (by decide) fun cdv A outer s H E hr =>
  cs_cons (c1_if (ct_cmp (cmo_eq hr) (cm_v (i := 0) rfl vs__truth_operator nd_operator.1 nd_operator.2) (cm_str) rfl) (cs_one (c1_ret (cm_cmp cmo_lt (cm_v (i := 1) rfl vs__truth_a nd_a.1 nd_a.2) (cm_v (i := 2) rfl vs__truth_b nd_b.1 nd_b.2) rfl))) (cs_nil))
  (cs_cons (c1_if (ct_cmp (cmo_eq hr) (cm_v (i := 0) rfl vs__truth_operator nd_operator.1 nd_operator.2) (cm_str) rfl) (cs_one (c1_ret (cm_cmp cmo_le (cm_v (i := 1) rfl vs__truth_a nd_a.1 nd_a.2) (cm_v (i := 2) rfl vs__truth_b nd_b.1 nd_b.2) rfl))) (cs_nil))
  (cs_cons (c1_if (ct_cmp (cmo_eq hr) (cm_v (i := 0) rfl vs__truth_operator nd_operator.1 nd_operator.2) (cm_str) rfl) (cs_one (c1_ret (cm_cmp cmo_lt (cm_call C_signed (hr.mono (by decide)) g__truth_signed (ca_cons (cm_v (i := 1) rfl vs__truth_a nd_a.1 nd_a.2) (ca_nil) rfl) nd_signed.1 rfl rfl) (cm_call C_signed (hr.mono (by decide)) g__truth_signed (ca_cons (cm_v (i := 2) rfl vs__truth_b nd_b.1 nd_b.2) (ca_nil) rfl) nd_signed.1 rfl rfl) rfl))) (cs_nil))
  (cs_cons (c1_if (ct_cmp (cmo_eq hr) (cm_v (i := 0) rfl vs__truth_operator nd_operator.1 nd_operator.2) (cm_str) rfl) (cs_one (c1_ret (cm_cmp cmo_le (cm_call C_signed (hr.mono (by decide)) g__truth_signed (ca_cons (cm_v (i := 1) rfl vs__truth_a nd_a.1 nd_a.2) (ca_nil) rfl) nd_signed.1 rfl rfl) (cm_call C_signed (hr.mono (by decide)) g__truth_signed (ca_cons (cm_v (i := 2) rfl vs__truth_b nd_b.1 nd_b.2) (ca_nil) rfl) nd_signed.1 rfl rfl) rfl))) (cs_nil))
  (cs_cons (c1_if (ct_cmp (cmo_eq hr) (cm_v (i := 0) rfl vs__truth_operator nd_operator.1 nd_operator.2) (cm_str) rfl) (cs_one (c1_ret (cm_cmp (cmo_eq hr) (cm_v (i := 1) rfl vs__truth_a nd_a.1 nd_a.2) (cm_v (i := 2) rfl vs__truth_b nd_b.1 nd_b.2) rfl))) (cs_nil))
  (cs_cons (c1_if (ct_cmp (cmo_eq hr) (cm_v (i := 0) rfl vs__truth_operator nd_operator.1 nd_operator.2) (cm_str) rfl) (cs_one (c1_ret (cm_cmp (cmo_ne hr) (cm_v (i := 1) rfl vs__truth_a nd_a.1 nd_a.2) (cm_v (i := 2) rfl vs__truth_b nd_b.1 nd_b.2) rfl))) (cs_nil))
  (cs_cons (c1_if (ct_cmp (cmo_eq hr) (cm_v (i := 0) rfl vs__truth_operator nd_operator.1 nd_operator.2) (cm_str) rfl) (cs_one (c1_ret (cm_and (cm_cmp (cmo_ne hr) (cm_v (i := 1) rfl vs__truth_a nd_a.1 nd_a.2) (cm_int) rfl) (cm_one (cm_cmp (cmo_ne hr) (cm_v (i := 2) rfl vs__truth_b nd_b.1 nd_b.2) (cm_int) rfl))))) (cs_nil))
  (cs_one (c1_ret (cm_or (cm_cmp (cmo_ne hr) (cm_v (i := 1) rfl vs__truth_a nd_a.1 nd_a.2) (cm_int) rfl) (cm_one (cm_cmp (cmo_ne hr) (cm_v (i := 2) rfl vs__truth_b nd_b.1 nd_b.2) (cm_int) rfl)))))))))))
abbrev s_combine : Stmt := top 9
abbrev N_combine : List Str := ["operator", "a", "b", "value"]
theorem sc_combine : FnScope N_combine ["operator", "a", "b"] (defScope s_combine) := ⟨rfl, rfl, rfl, by decide +kernel, rfl, by decide +kernel, by decide +kernel⟩
theorem lo_combine_operator : Loc (defScope s_combine) "operator" := by first | exact .inl rfl | exact .inr rfl
theorem vs_combine_operator : Vis (defScope s_combine) "operator" := lo_combine_operator.elim .inl fun z => .inr (.inl z)
theorem lo_combine_a : Loc (defScope s_combine) "a" := by first | exact .inl rfl | exact .inr rfl
theorem vs_combine_a : Vis (defScope s_combine) "a" := lo_combine_a.elim .inl fun z => .inr (.inl z)
theorem lo_combine_b : Loc (defScope s_combine) "b" := by first | exact .inl rfl | exact .inr rfl
theorem vs_combine_b : Vis (defScope s_combine) "b" := lo_combine_b.elim .inl fun z => .inr (.inl z)
theorem lo_combine_value : Loc (defScope s_combine) "value" := by first | exact .inl rfl | exact .inr rfl
theorem vs_combine_value : Vis (defScope s_combine) "value" := lo_combine_value.elim .inl fun z => .inr (.inl z)
theorem g_combine__arithmetic : (defScope s_combine).names.lookup ("_arithmetic" : Str) = some .globalImplicit := rfl
theorem g_combine__bits : (defScope s_combine).names.lookup ("_bits" : Str) = some .globalImplicit := rfl
theorem g_combine_int : (defScope s_combine).names.lookup ("int" : Str) = some .globalImplicit := rfl
theorem g_combine__truth : (defScope s_combine).names.lookup ("_truth" : Str) = some .globalImplicit := rfl
def T_combine (CS : Nat → Addr) : FT := fnT 4 (sCo (sSet 3 (eCall (T__arithmetic CS) (aC (eV 0) (aC (eV 1) (aC (eV 2) (aN)))))) (
  sCo (sIf (tCmp oIsN (eV 3) (eC .non)) (sSet 3 (eCall (T__bits CS) (aC (eV 0) (aC (eV 1) (aC (eV 2) (aN)))))) (sNo)) (
  sCo (sIf (tCmp oIsN (eV 3) (eC .non)) (sSet 3 (eCB cInt (aC (eCall (T__truth CS) (aC (eV 0) (aC (eV 1) (aC (eV 2) (aN))))) (aN)))) (sNo)) (
  sRet (eV 3)))))
theorem ok_combine {f : Addr} {fd : FuncData} {CS : Nat → Addr} (F : Fun K "combine" "combine" s_combine f fd) (T : Txt K mg CS) (C__arithmetic : CalX P w K mg base 2 "_arithmetic" 3 (T__arithmetic CS)) (C__bits : CalX P w K mg base 2 "_bits" 3 (T__bits CS)) (C__truth : CalX P w K mg base 2 "_truth" 3 (T__truth CS)) : FnOk P w K mg base (L2.CX P w) 3 f fd ["operator", "a", "b"] (spX K 3 (T_combine CS)) :=
  okX F sc_combine rfl rfl (by decide) fun cdv A outer s H E hr =>
  cs_cons (c1_set sc_combine.nd rfl lo_combine_value (cm_call C__arithmetic (hr.mono (by decide)) g_combine__arithmetic (ca_cons (cm_v (i := 0) rfl vs_combine_operator nd_operator.1 nd_operator.2) (ca_cons (cm_v (i := 1) rfl vs_combine_a nd_a.1 nd_a.2) (ca_cons (cm_v (i := 2) rfl vs_combine_b nd_b.1 nd_b.2) (ca_nil) rfl) rfl) rfl) nd__arithmetic.1 rfl rfl) rfl (.inl rfl))
  (cs_cons (c1_if (ct_cmp cmo_isN (cm_v (i := 3) rfl vs_combine_value nd_value.1 nd_value.2) (cm_non) rfl) (cs_one (c1_set sc_combine.nd rfl lo_combine_value (cm_call C__bits (hr.mono (by decide)) g_combine__bits (ca_cons (cm_v (i := 0) rfl vs_combine_operator nd_operator.1 nd_operator.2) (ca_cons (cm_v (i := 1) rfl vs_combine_a nd_a.1 nd_a.2) (ca_cons (cm_v (i := 2) rfl vs_combine_b nd_b.1 nd_b.2) (ca_nil) rfl) rfl) rfl) nd__bits.1 rfl rfl) rfl (.inl rfl))) (cs_nil))
  (cs_cons (c1_if (ct_cmp cmo_isN (cm_v (i := 3) rfl vs_combine_value nd_value.1 nd_value.2) (cm_non) rfl) (cs_one (c1_set sc_combine.nd rfl lo_combine_value (cm_callTy cmc_int bt_int T.b_int g_combine_int (ca_cons (cm_call C__truth (hr.mono (by decide)) g_combine__truth (ca_cons (cm_v (i := 0) rfl vs_combine_operator nd_operator.1 nd_operator.2) (ca_cons (cm_v (i := 1) rfl vs_combine_a nd_a.1 nd_a.2) (ca_cons (cm_v (i := 2) rfl vs_combine_b nd_b.1 nd_b.2) (ca_nil) rfl) rfl) rfl) nd__truth.1 rfl rfl) (ca_nil) rfl) nn_int nd_int.1 rfl rfl) rfl (.inl rfl))) (cs_nil))
  (cs_one (c1_ret (cm_v (i := 3) rfl vs_combine_value nd_value.1 nd_value.2)))))
abbrev s_alter : Stmt := top 10
abbrev N_alter : List Str := ["operator", "a"]
theorem sc_alter : FnScope N_alter ["operator", "a"] (defScope s_alter) := ⟨rfl, rfl, rfl, by decide +kernel, rfl, by decide +kernel, by decide +kernel⟩
theorem lo_alter_operator : Loc (defScope s_alter) "operator" := by first | exact .inl rfl | exact .inr rfl
theorem vs_alter_operator : Vis (defScope s_alter) "operator" := lo_alter_operator.elim .inl fun z => .inr (.inl z)
theorem lo_alter_a : Loc (defScope s_alter) "a" := by first | exact .inl rfl | exact .inr rfl
theorem vs_alter_a : Vis (defScope s_alter) "a" := lo_alter_a.elim .inl fun z => .inr (.inl z)
theorem g_alter_wrap : (defScope s_alter).names.lookup ("wrap" : Str) = some .globalImplicit := rfl
theorem g_alter_MASK : (defScope s_alter).names.lookup ("MASK" : Str) = some .globalImplicit := rfl
theorem g_alter_int : (defScope s_alter).names.lookup ("int" : Str) = some .globalImplicit := rfl
def T_alter (CS : Nat → Addr) : FT := fnT 2 (sCo (sIf (tCmp oEq (eV 0) (eC (.str "neg"))) (sRet (eCall (T_wrap CS) (aC (eNeg (eV 1)) (aN)))) (sNo)) (
  sCo (sIf (tCmp oEq (eV 0) (eC (.str "inv"))) (sRet (eBin oBxor (eC (.int 4294967295)) (eV 1))) (sNo)) (
  sRet (eCB cInt (aC (eBin oEq (eV 1) (eC (.int 0))) (aN))))))
theorem ok_alter {f : Addr} {fd : FuncData} {CS : Nat → Addr} (F : Fun K "alter" "alter" s_alter f fd) (T : Txt K mg CS) (C_wrap : CalX P w K mg base 1 "wrap" 1 (T_wrap CS)) : FnOk P w K mg base (L2.CX P w) 2 f fd ["operator", "a"] (spX K 2 (T_alter CS)) :=
  okX F sc_alter rfl rfl (by decide) fun cdv A outer s H E hr =>
  cs_cons (c1_if (ct_cmp (cmo_eq hr) (cm_v (i := 0) rfl vs_alter_operator nd_operator.1 nd_operator.2) (cm_str) rfl) (cs_one (c1_ret (cm_call C_wrap (hr.mono (by decide)) g_alter_wrap (ca_cons (cm_neg (cm_v (i := 1) rfl vs_alter_a nd_a.1 nd_a.2)) (ca_nil) rfl) nd_wrap.1 rfl rfl))) (cs_nil))
  (cs_cons (c1_if (ct_cmp (cmo_eq hr) (cm_v (i := 0) rfl vs_alter_operator nd_operator.1 nd_operator.2) (cm_str) rfl) (cs_one (c1_ret (cm_bin cmo_bxor (cm_glob T.c_MASK g_alter_MASK nd_MASK.1) (cm_v (i := 1) rfl vs_alter_a nd_a.1 nd_a.2)))) (cs_nil))
  (cs_one (c1_ret (cm_callTy cmc_int bt_int T.b_int g_alter_int (ca_cons (cm_cmp (cmo_eq hr) (cm_v (i := 1) rfl vs_alter_a nd_a.1 nd_a.2) (cm_int) rfl) (ca_nil) rfl) nn_int nd_int.1 rfl rfl))))
abbrev s_evaluate : Stmt := top 12
abbrev N_evaluate : List Str := ["e", "names", "kind", "row", "left"]
theorem sc_evaluate : FnScope N_evaluate ["e", "names"] (defScope s_evaluate) := ⟨rfl, rfl, rfl, by decide +kernel, rfl, by decide +kernel, by decide +kernel⟩
theorem lo_evaluate_e : Loc (defScope s_evaluate) "e" := by first | exact .inl rfl | exact .inr rfl
theorem vs_evaluate_e : Vis (defScope s_evaluate) "e" := lo_evaluate_e.elim .inl fun z => .inr (.inl z)
theorem lo_evaluate_names : Loc (defScope s_evaluate) "names" := by first | exact .inl rfl | exact .inr rfl
theorem vs_evaluate_names : Vis (defScope s_evaluate) "names" := lo_evaluate_names.elim .inl fun z => .inr (.inl z)
theorem lo_evaluate_kind : Loc (defScope s_evaluate) "kind" := by first | exact .inl rfl | exact .inr rfl
theorem vs_evaluate_kind : Vis (defScope s_evaluate) "kind" := lo_evaluate_kind.elim .inl fun z => .inr (.inl z)
theorem lo_evaluate_row : Loc (defScope s_evaluate) "row" := by first | exact .inl rfl | exact .inr rfl
theorem vs_evaluate_row : Vis (defScope s_evaluate) "row" := lo_evaluate_row.elim .inl fun z => .inr (.inl z)
theorem lo_evaluate_left : Loc (defScope s_evaluate) "left" := by first | exact .inl rfl | exact .inr rfl
theorem vs_evaluate_left : Vis (defScope s_evaluate) "left" := lo_evaluate_left.elim .inl fun z => .inr (.inl z)
theorem g_evaluate_evaluate : (defScope s_evaluate).names.lookup ("evaluate" : Str) = some .globalImplicit := rfl
theorem g_evaluate_len : (defScope s_evaluate).names.lookup ("len" : Str) = some .globalImplicit := rfl
theorem g_evaluate_alter : (defScope s_evaluate).names.lookup ("alter" : Str) = some .globalImplicit := rfl
theorem g_evaluate_combine : (defScope s_evaluate).names.lookup ("combine" : Str) = some .globalImplicit := rfl
def B_evaluate (CS : Nat → Addr) (R : Nat → FT) : FT := fnT 5 (sCo (sSet 2 (eIx oIx (eV 0) (eC (.int 0)))) (
  sCo (sIf (tCmp oEq (eV 2) (eC (.str "num"))) (sRet (eIx oIx (eV 0) (eC (.int 1)))) (sNo)) (
  sCo (sIf (tCmp oEq (eV 2) (eC (.str "cell"))) (sRet (eIx oIx (eDGet (eV 1) (eIx oIx (eV 0) (eC (.int 1)))) (eC (.int 0)))) (sNo)) (
  sCo (sIf (tCmp oEq (eV 2) (eC (.str "at"))) (sCo (sSet 3 (eDGet (eV 1) (eIx oIx (eV 0) (eC (.int 1))))) (
  sRet (eIx oIx (eV 3) (eBin oMod (eCall (R 0) (aC (eIx oIx (eV 0) (eC (.int 2))) (aC (eV 1) (aN)))) (eCB cLen (aC (eV 3) (aN))))))) (sNo)) (
  sCo (sIf (tCmp oIn (eV 2) (eTup (aC (eC (.str "neg")) (aC (eC (.str "inv")) (aC (eC (.str "not")) (aN)))))) (sRet (eCall (T_alter CS) (aC (eV 2) (aC (eCall (R 0) (aC (eIx oIx (eV 0) (eC (.int 1))) (aC (eV 1) (aN)))) (aN))))) (sNo)) (
  sCo (sSet 4 (eCall (R 0) (aC (eIx oIx (eV 0) (eC (.int 1))) (aC (eV 1) (aN))))) (
  sRet (eCall (T_combine CS) (aC (eV 2) (aC (eV 4) (aC (eCall (R 0) (aC (eIx oIx (eV 0) (eC (.int 2))) (aC (eV 1) (aN)))) (aN))))))))))))
theorem ok_evaluate {f : Addr} {fd : FuncData} {CS : Nat → Addr} {lv : Nat} {R : Nat → FT} (hl : 3 ≤ lv) (F : Fun K "evaluate" "evaluate" s_evaluate f fd) (T : Txt K mg CS) (C_evaluate : CalX P w K mg base lv "evaluate" 2 (R 0)) (C_combine : CalX P w K mg base 3 "combine" 3 (T_combine CS)) (C_alter : CalX P w K mg base 2 "alter" 2 (T_alter CS)) : FnOk P w K mg base (L2.CX P w) (lv + 1) f fd ["e", "names"] (spX K 2 (B_evaluate CS R)) :=
  okX F sc_evaluate rfl rfl (by decide) fun cdv A outer s H E hr =>
  cs_cons (c1_set sc_evaluate.nd rfl lo_evaluate_kind (cm_ix cmi_ix (cm_v (i := 0) rfl vs_evaluate_e nd_e.1 nd_e.2) (cm_int) (fun _ _ => rfl)) rfl (.inl rfl))
  (cs_cons (c1_if (ct_cmp (cmo_eq hr) (cm_v (i := 2) rfl vs_evaluate_kind nd_kind.1 nd_kind.2) (cm_str) rfl) (cs_one (c1_ret (cm_ix cmi_ix (cm_v (i := 0) rfl vs_evaluate_e nd_e.1 nd_e.2) (cm_int) (fun _ _ => rfl)))) (cs_nil))
  (cs_cons (c1_if (ct_cmp (cmo_eq hr) (cm_v (i := 2) rfl vs_evaluate_kind nd_kind.1 nd_kind.2) (cm_str) rfl) (cs_one (c1_ret (cm_ix cmi_ix (cm_dget hr (cm_v (i := 1) rfl vs_evaluate_names nd_names.1 nd_names.2) (cm_ix cmi_ix (cm_v (i := 0) rfl vs_evaluate_e nd_e.1 nd_e.2) (cm_int) (fun _ _ => rfl)) (fun _ _ => rfl)) (cm_int) (fun _ _ => rfl)))) (cs_nil))
  (cs_cons (c1_if (ct_cmp (cmo_eq hr) (cm_v (i := 2) rfl vs_evaluate_kind nd_kind.1 nd_kind.2) (cm_str) rfl) (cs_cons (c1_set sc_evaluate.nd rfl lo_evaluate_row (cm_dget hr (cm_v (i := 1) rfl vs_evaluate_names nd_names.1 nd_names.2) (cm_ix cmi_ix (cm_v (i := 0) rfl vs_evaluate_e nd_e.1 nd_e.2) (cm_int) (fun _ _ => rfl)) (fun _ _ => rfl)) rfl (.inl rfl))
  (cs_one (c1_ret (cm_ix cmi_ix (cm_v (i := 3) rfl vs_evaluate_row nd_row.1 nd_row.2) (cm_bin cmo_mod (cm_call C_evaluate (hr.mono (by omega)) g_evaluate_evaluate (ca_cons (cm_ix cmi_ix (cm_v (i := 0) rfl vs_evaluate_e nd_e.1 nd_e.2) (cm_int) (fun _ _ => rfl)) (ca_cons (cm_v (i := 1) rfl vs_evaluate_names nd_names.1 nd_names.2) (ca_nil) rfl) rfl) nd_evaluate.1 rfl rfl) (cm_callB cmc_len bb_len T.b_len g_evaluate_len (ca_cons (cm_v (i := 3) rfl vs_evaluate_row nd_row.1 nd_row.2) (ca_nil) rfl) nn_len nd_len.1 rfl rfl)) (fun _ _ => rfl))))) (cs_nil))
  (cs_cons (c1_if (ct_cmp cmo_in (cm_v (i := 2) rfl vs_evaluate_kind nd_kind.1 nd_kind.2) (cm_tup (ca_cons (cm_str) (ca_cons (cm_str) (ca_cons (cm_str) (ca_nil) rfl) rfl) rfl) (by decide)) rfl) (cs_one (c1_ret (cm_call C_alter (hr.mono (by omega)) g_evaluate_alter (ca_cons (cm_v (i := 2) rfl vs_evaluate_kind nd_kind.1 nd_kind.2) (ca_cons (cm_call C_evaluate (hr.mono (by omega)) g_evaluate_evaluate (ca_cons (cm_ix cmi_ix (cm_v (i := 0) rfl vs_evaluate_e nd_e.1 nd_e.2) (cm_int) (fun _ _ => rfl)) (ca_cons (cm_v (i := 1) rfl vs_evaluate_names nd_names.1 nd_names.2) (ca_nil) rfl) rfl) nd_evaluate.1 rfl rfl) (ca_nil) rfl) rfl) nd_alter.1 rfl rfl))) (cs_nil))
  (cs_cons (c1_set sc_evaluate.nd rfl lo_evaluate_left (cm_call C_evaluate (hr.mono (by omega)) g_evaluate_evaluate (ca_cons (cm_ix cmi_ix (cm_v (i := 0) rfl vs_evaluate_e nd_e.1 nd_e.2) (cm_int) (fun _ _ => rfl)) (ca_cons (cm_v (i := 1) rfl vs_evaluate_names nd_names.1 nd_names.2) (ca_nil) rfl) rfl) nd_evaluate.1 rfl rfl) rfl (.inl rfl))
  (cs_one (c1_ret (cm_call C_combine (hr.mono (by omega)) g_evaluate_combine (ca_cons (cm_v (i := 2) rfl vs_evaluate_kind nd_kind.1 nd_kind.2) (ca_cons (cm_v (i := 4) rfl vs_evaluate_left nd_left.1 nd_left.2) (ca_cons (cm_call C_evaluate (hr.mono (by omega)) g_evaluate_evaluate (ca_cons (cm_ix cmi_ix (cm_v (i := 0) rfl vs_evaluate_e nd_e.1 nd_e.2) (cm_int) (fun _ _ => rfl)) (ca_cons (cm_v (i := 1) rfl vs_evaluate_names nd_names.1 nd_names.2) (ca_nil) rfl) rfl) nd_evaluate.1 rfl rfl) (ca_nil) rfl) rfl) rfl) nd_combine.1 rfl rfl))))))))
def TS_2 (CS : Nat → Addr) : Nat → Nat → FT
  | 0 => fun _ => noT
  | n + 1 => fun i => match i with | _ => B_evaluate CS (TS_2 CS n)
def T_evaluate (CS : Nat → Addr) : FT := TS_2 CS 8 0
abbrev s_law : Stmt := top 26
abbrev N_law : List Str := ["_law_script", "_law_state_here", "_law_cells", "_law_names", "_law_name", "_law_size", "_law_before", "_law_k", "_law_e", "_law_due", "_law_actual"]
theorem sc_law : FnScope N_law ["_law_script"] (defScope s_law) := ⟨rfl, rfl, rfl, by decide +kernel, rfl, by decide +kernel, by decide +kernel⟩
theorem lo_law__law_script : Loc (defScope s_law) "_law_script" := by first | exact .inl rfl | exact .inr rfl
theorem vs_law__law_script : Vis (defScope s_law) "_law_script" := lo_law__law_script.elim .inl fun z => .inr (.inl z)
theorem lo_law__law_state_here : Loc (defScope s_law) "_law_state_here" := by first | exact .inl rfl | exact .inr rfl
theorem vs_law__law_state_here : Vis (defScope s_law) "_law_state_here" := lo_law__law_state_here.elim .inl fun z => .inr (.inl z)
theorem lo_law__law_cells : Loc (defScope s_law) "_law_cells" := by first | exact .inl rfl | exact .inr rfl
theorem vs_law__law_cells : Vis (defScope s_law) "_law_cells" := lo_law__law_cells.elim .inl fun z => .inr (.inl z)
theorem lo_law__law_names : Loc (defScope s_law) "_law_names" := by first | exact .inl rfl | exact .inr rfl
theorem vs_law__law_names : Vis (defScope s_law) "_law_names" := lo_law__law_names.elim .inl fun z => .inr (.inl z)
theorem lo_law__law_name : Loc (defScope s_law) "_law_name" := by first | exact .inl rfl | exact .inr rfl
theorem vs_law__law_name : Vis (defScope s_law) "_law_name" := lo_law__law_name.elim .inl fun z => .inr (.inl z)
theorem lo_law__law_size : Loc (defScope s_law) "_law_size" := by first | exact .inl rfl | exact .inr rfl
theorem vs_law__law_size : Vis (defScope s_law) "_law_size" := lo_law__law_size.elim .inl fun z => .inr (.inl z)
theorem lo_law__law_before : Loc (defScope s_law) "_law_before" := by first | exact .inl rfl | exact .inr rfl
theorem vs_law__law_before : Vis (defScope s_law) "_law_before" := lo_law__law_before.elim .inl fun z => .inr (.inl z)
theorem lo_law__law_k : Loc (defScope s_law) "_law_k" := by first | exact .inl rfl | exact .inr rfl
theorem vs_law__law_k : Vis (defScope s_law) "_law_k" := lo_law__law_k.elim .inl fun z => .inr (.inl z)
theorem lo_law__law_e : Loc (defScope s_law) "_law_e" := by first | exact .inl rfl | exact .inr rfl
theorem vs_law__law_e : Vis (defScope s_law) "_law_e" := lo_law__law_e.elim .inl fun z => .inr (.inl z)
theorem lo_law__law_due : Loc (defScope s_law) "_law_due" := by first | exact .inl rfl | exact .inr rfl
theorem vs_law__law_due : Vis (defScope s_law) "_law_due" := lo_law__law_due.elim .inl fun z => .inr (.inl z)
theorem lo_law__law_actual : Loc (defScope s_law) "_law_actual" := by first | exact .inl rfl | exact .inr rfl
theorem vs_law__law_actual : Vis (defScope s_law) "_law_actual" := lo_law__law_actual.elim .inl fun z => .inr (.inl z)
theorem g_law__law_state : (defScope s_law).names.lookup ("_law_state" : Str) = some .globalImplicit := rfl
theorem g_law__law_draw : (defScope s_law).names.lookup ("_law_draw" : Str) = some .globalImplicit := rfl
theorem g_law_range : (defScope s_law).names.lookup ("range" : Str) = some .globalImplicit := rfl
theorem g_law_max : (defScope s_law).names.lookup ("max" : Str) = some .globalImplicit := rfl
theorem g_law_repr : (defScope s_law).names.lookup ("repr" : Str) = some .globalImplicit := rfl
theorem g_law__law_expr : (defScope s_law).names.lookup ("_law_expr" : Str) = some .globalImplicit := rfl
theorem g_law__law_value : (defScope s_law).names.lookup ("_law_value" : Str) = some .globalImplicit := rfl
theorem g_law_evaluate : (defScope s_law).names.lookup ("evaluate" : Str) = some .globalImplicit := rfl
theorem g_law_isinstance : (defScope s_law).names.lookup ("isinstance" : Str) = some .globalImplicit := rfl
theorem g_law_int : (defScope s_law).names.lookup ("int" : Str) = some .globalImplicit := rfl
theorem g_law_bool : (defScope s_law).names.lookup ("bool" : Str) = some .globalImplicit := rfl
def T_law (CS : Nat → Addr) : FT := fnT 11 (sCo (sSet 1 (eCall (T__law_state CS) (aC (eV 0) (aN)))) (
  sCo (sSet 2 (eLst (aC (eTup (aC (eC (.str "first")) (aC (eC (.int 0)) (aN)))) (aC (eTup (aC (eC (.str "row")) (aC (eBin oAdd (eC (.int 1)) (eCall (T__law_draw CS) (aC (eV 1) (aC (eC (.int 64)) (aN))))) (aN)))) (aC (eTup (aC (eC (.str "x")) (aC (eC (.int 0)) (aN)))) (aC (eTup (aC (eC (.str "y")) (aC (eC (.int 2)) (aN)))) (aN))))))) (
  sCo (sSet 3 (eDNew)) (
  sCo (sFor (gTup 2 (gsC (gName 4) (gsC (gName 5) (gsN)))) (iSeq (eV 2)) (sDPut (eV 3) (eV 4) (eLc true [7] (b1 7) (iR1 (eCB cMax (aC (eC (.int 1)) (aC (eV 5) (aN))))) (tYes) (eCall (T__law_word CS) (aC (eV 1) (aN)))))) (
  sCo (sSet 6 (eCB cReprP (aC (eV 3) (aN)))) (
  sCo (sFor (gName 7) (iR1 (eC (.int 3))) (sCo (sSet 8 (eCall (T__law_expr CS) (aC (eV 1) (aC (eLst (aC (eV 2) (aC (eLst (aN)) (aC (eLst (aN)) (aC (eLst (aN)) (aC (eC (.int 0)) (aN))))))) (aC (eBin oAdd (eC (.int 1)) (eCall (T__law_draw CS) (aC (eV 1) (aC (eC (.int 6)) (aN))))) (aN)))))) (
  sCo (sSet 9 (eCall (T__law_value CS) (aC (eV 8) (aC (eV 3) (aN))))) (
  sCo (sSet 10 (eCall (T_evaluate CS) (aC (eV 8) (aC (eV 3) (aN))))) (
  sIf (tOr (tNot (tV (eCB cIsi (aC (eV 10) (aC (eC (.ty "int")) (aN)))))) (tOr (tV (eCB cIsi (aC (eV 10) (aC (eC (.ty "bool")) (aN))))) (tCmp oNe (eV 10) (eV 9)))) (sRet (eC (.bl false))) (sNo)))))) (
  sRet (eBin oEq (eCB cReprP (aC (eV 3) (aN))) (eV 6)))))))))
theorem ok_law {f : Addr} {fd : FuncData} {CS : Nat → Addr} (F : Fun K "law" "law" s_law f fd) (T : Txt K mg CS) (hsys : SysIn base) (C__law_state : CalX P w K mg base 1 "_law_state" 1 (T__law_state CS)) (C__law_expr : CalX P w K mg base 12 "_law_expr" 3 (T__law_expr CS)) (C__law_value : CalX P w K mg base 10 "_law_value" 2 (T__law_value CS)) (C_evaluate : CalX P w K mg base 12 "evaluate" 2 (T_evaluate CS)) (C__law_word : CalX P w K mg base 3 "_law_word" 1 (T__law_word CS)) (C__law_draw : CalX P w K mg base 1 "_law_draw" 2 (T__law_draw CS)) : FnAt P w K mg base 13 f fd ["_law_script"] (spX K 1 (T_law CS)) :=
  atX F sc_law rfl rfl (by decide) fun cdv s H hr =>
  cs_cons (c1_set sc_law.nd rfl lo_law__law_state_here (cm_call C__law_state (hr.mono (by decide)) g_law__law_state (ca_cons (cm_v (i := 0) rfl vs_law__law_script nd__law_script.1 nd__law_script.2) (ca_nil) rfl) nd__law_state.1 rfl rfl) rfl (.inl rfl))
  (cs_cons (c1_set sc_law.nd rfl lo_law__law_cells (cm_lst (ca_cons (cm_tup (ca_cons (cm_str) (ca_cons (cm_int) (ca_nil) rfl) rfl) (by decide)) (ca_cons (cm_tup (ca_cons (cm_str) (ca_cons (cm_bin cmo_add (cm_int) (cm_call C__law_draw (hr.mono (by decide)) g_law__law_draw (ca_cons (cm_v (i := 1) rfl vs_law__law_state_here nd__law_state_here.1 nd__law_state_here.2) (ca_cons (cm_int) (ca_nil) rfl) rfl) nd__law_draw.1 rfl rfl)) (ca_nil) rfl) rfl) (by decide)) (ca_cons (cm_tup (ca_cons (cm_str) (ca_cons (cm_int) (ca_nil) rfl) rfl) (by decide)) (ca_cons (cm_tup (ca_cons (cm_str) (ca_cons (cm_int) (ca_nil) rfl) rfl) (by decide)) (ca_nil) rfl) rfl) rfl) rfl) (by decide)) rfl (.inl rfl))
  (cs_cons (c1_set sc_law.nd rfl lo_law__law_names (cm_dnew) rfl (.inl rfl))
  (cs_cons (c1_for (cg_tup rfl (cgs_cons (cg_name sc_law.nd rfl lo_law__law_name (.inl rfl)) (cgs_cons (cg_name sc_law.nd rfl lo_law__law_size (.inl rfl)) (cgs_nil) rfl) rfl) rfl rfl) (ci_seq (cm_v (i := 2) rfl vs_law__law_cells nd__law_cells.1 nd__law_cells.2)) (cs_one (c1_dput hr (cm_v (i := 3) rfl vs_law__law_names nd__law_names.1 nd__law_names.2) (cm_v (i := 4) rfl vs_law__law_name nd__law_name.1 nd__law_name.2) (cm_lc (own := [("_law_k", 7)]) rfl sc_law.nd (blkOk_by (N := N_law) (sc := defScope s_law) (by decide +kernel)) (bind1 (by decide)) (fun _ _ _ _ _ => L2.pg_name sc_law.nd (i := 7) rfl (.inl rfl) (.inr rfl)) (ci_range1 g_law_range T.b_range (cm_callB (cmc_max rfl) bb_max T.b_max g_law_max (ca_cons (cm_int) (ca_cons (cm_v (i := 5) rfl vs_law__law_size nd__law_size.1 nd__law_size.2) (ca_nil) rfl) rfl) nn_max nd_max.1 rfl rfl) rfl) (fun _ _ _ _ _ => cts_nil) (fun _ _ _ _ _ => cm_call C__law_word (hr.mono (by decide)) rfl (ca_cons (cm_v (i := 1) rfl (by first | exact Or.inl rfl | exact Or.inr (Or.inl rfl) | exact Or.inr (Or.inr rfl)) nd__law_state_here.1 nd__law_state_here.2) (ca_nil) rfl) nd__law_word.1 rfl rfl) (fun _ => rfl)) rfl)) rfl pass_cx (fun _ => rfl))
  (cs_cons (c1_set sc_law.nd rfl lo_law__law_before (cm_callB (cmc_reprP rfl hsys hr) bb_repr T.b_repr g_law_repr (ca_cons (cm_v (i := 3) rfl vs_law__law_names nd__law_names.1 nd__law_names.2) (ca_nil) rfl) nn_repr nd_repr.1 rfl rfl) rfl (.inl rfl))
  (cs_cons (c1_for (cg_name sc_law.nd rfl lo_law__law_k (.inl rfl)) (ci_range1 g_law_range T.b_range (cm_int) rfl) (cs_cons (c1_set sc_law.nd rfl lo_law__law_e (cm_call C__law_expr (hr.mono (by decide)) g_law__law_expr (ca_cons (cm_v (i := 1) rfl vs_law__law_state_here nd__law_state_here.1 nd__law_state_here.2) (ca_cons (cm_lst (ca_cons (cm_v (i := 2) rfl vs_law__law_cells nd__law_cells.1 nd__law_cells.2) (ca_cons (cm_lst (ca_nil) (by decide)) (ca_cons (cm_lst (ca_nil) (by decide)) (ca_cons (cm_lst (ca_nil) (by decide)) (ca_cons (cm_int) (ca_nil) rfl) rfl) rfl) rfl) rfl) (by decide)) (ca_cons (cm_bin cmo_add (cm_int) (cm_call C__law_draw (hr.mono (by decide)) g_law__law_draw (ca_cons (cm_v (i := 1) rfl vs_law__law_state_here nd__law_state_here.1 nd__law_state_here.2) (ca_cons (cm_int) (ca_nil) rfl) rfl) nd__law_draw.1 rfl rfl)) (ca_nil) rfl) rfl) rfl) nd__law_expr.1 rfl rfl) rfl (.inl rfl))
  (cs_cons (c1_set sc_law.nd rfl lo_law__law_due (cm_call C__law_value (hr.mono (by decide)) g_law__law_value (ca_cons (cm_v (i := 8) rfl vs_law__law_e nd__law_e.1 nd__law_e.2) (ca_cons (cm_v (i := 3) rfl vs_law__law_names nd__law_names.1 nd__law_names.2) (ca_nil) rfl) rfl) nd__law_value.1 rfl rfl) rfl (.inl rfl))
  (cs_cons (c1_set sc_law.nd rfl lo_law__law_actual (cm_call C_evaluate (hr.mono (by decide)) g_law_evaluate (ca_cons (cm_v (i := 8) rfl vs_law__law_e nd__law_e.1 nd__law_e.2) (ca_cons (cm_v (i := 3) rfl vs_law__law_names nd__law_names.1 nd__law_names.2) (ca_nil) rfl) rfl) nd_evaluate.1 rfl rfl) rfl (.inl rfl))
  (cs_one (c1_if (ct_pw (cpw_or (ct_not (ct_v (cm_callB cmc_isi bb_isinstance T.b_isinstance g_law_isinstance (ca_cons (cm_v (i := 10) rfl vs_law__law_actual nd__law_actual.1 nd__law_actual.2) (ca_cons (cm_ty bt_int T.b_int g_law_int nn_int nd_int.1) (ca_nil) rfl) rfl) nn_isinstance nd_isinstance.1 rfl rfl))) (cpw_or (ct_v (cm_callB cmc_isi bb_isinstance T.b_isinstance g_law_isinstance (ca_cons (cm_v (i := 10) rfl vs_law__law_actual nd__law_actual.1 nd__law_actual.2) (ca_cons (cm_ty bt_bool T.b_bool g_law_bool nn_bool nd_bool.1) (ca_nil) rfl) rfl) nn_isinstance nd_isinstance.1 rfl rfl)) (cpw_or1 (ct_cmp (cmo_ne hr) (cm_v (i := 10) rfl vs_law__law_actual nd__law_actual.1 nd__law_actual.2) (cm_v (i := 9) rfl vs_law__law_due nd__law_due.1 nd__law_due.2) rfl))))) (cs_one (c1_ret (cm_bl))) (cs_nil)))))) rfl pass_cx (fun _ => rfl))
  (cs_one (c1_ret (cm_cmp (cmo_eq hr) (cm_callB (cmc_reprP rfl hsys hr) bb_repr T.b_repr g_law_repr (ca_cons (cm_v (i := 3) rfl vs_law__law_names nd__law_names.1 nd__law_names.2) (ca_nil) rfl) nn_repr nd_repr.1 rfl rfl) (cm_v (i := 6) rfl vs_law__law_before nd__law_before.1 nd__law_before.2) rfl))))))))
end
/-! reading: one step at a time -/
local macro_rules | `(tactic| walk_at "at") => `(tactic| first
  | (with_reducible assumption)
  | assumption
  | (with_reducible exact atI_last)
  | (with_reducible exact atI_lastM)
  | (with_reducible exact ixN_lastM)
  | exact rfl
  | exact atI_c0
  | exact atI_c1
  | exact atI_c2
  | exact atI_c3
  | ((refine' atI_mapN ?h0 ?h1); (case h1 => assumption); (case h0 => omega))
  | ((refine atI_ints ?_ ?_) <;> first | omega | ((try simp only [List.length_map, List.length_append, List.length_cons, List.length_nil] at *); omega))
  | ((refine ixN_some ?_ ?_) <;> first | omega | ((try simp only [List.length_map, List.length_append, List.length_cons, List.length_nil] at *); omega)))
local macro_rules | `(tactic| walk_at "pos") => `(tactic| first
  | assumption
  | ((refine' app_at (A := [_]) ?hh); (case hh => assumption))
  | ((refine' app_at (A := [_, _]) ?hh); (case hh => assumption))
  | ((refine' app_at (A := [_, _, _]) ?hh); (case hh => assumption))
  | ((refine' app_at (A := [_, _, _, _]) ?hh); (case hh => assumption))
  | ((refine' app_at (A := [_, _, _, _, _]) ?hh); (case hh => assumption))
  | ((refine' app_at (A := [_, _, _, _, _, _]) ?hh); (case hh => assumption)))
local macro_rules | `(tactic| walk_at "side") => `(tactic| first
  | (with_reducible assumption)
  | (with_reducible exact rfl)
  | ((with_reducible show EV.MulOk _ _); first | exact Or.inl ⟨by omega, by omega⟩ | exact Or.inr (Or.inl ⟨by omega, by omega⟩))
  | ((with_reducible show EV.DivOk _ _); exact ⟨by omega, by omega⟩)
  | ((with_reducible show EV.ModOk _ _); (show (0 : Int) < _); omega)
  | ((with_reducible show EV.PowOk _ _); exact ⟨by omega, by omega, by omega, by omega⟩)
  | ((with_reducible show EV.ShrOk _ _); (show (0 : Int) ≤ _); omega)
  | ((with_reducible show _ ≤ sizeLine); refine szI ?_; first | omega | ((try simp only [List.length_map, List.length_append, List.length_cons, List.length_nil, List.length_replicate, List.length_set, List.length_take, List.length_eraseIdx, rng_len, enumW_len] at *); omega))
  | ((with_reducible show _ < sizeLine); refine szJ ?_; first | omega | ((try simp only [List.length_map, List.length_append, List.length_cons, List.length_nil, List.length_replicate, List.length_set, List.length_take, List.length_eraseIdx, rng_len, enumW_len] at *); omega))
  | omega
  | ((try simp only [List.length_map, List.length_append, List.length_cons, List.length_nil, List.length_replicate, List.length_set, rng_len] at *); omega)
  | exact rfl
  | decide)
local macro_rules | `(tactic| walk_at "perm") => `(tactic| (classical
    rw [List.perm_iff_count]
    intro _
    simp only [List.count_append, List.count_cons, List.count_nil, List.append_assoc, List.cons_append, List.nil_append, Nat.zero_add, Nat.add_zero]
    ac_rfl))
local macro_rules | `(tactic| walk_at "no") => `(tactic| first | (exfalso; omega) | contradiction)
local macro_rules | `(tactic| walk_at "hook") => `(tactic| fail "no hook")
local macro_rules | `(tactic| walk_at "hp") => `(tactic| first
  | (with_reducible exact rfl)
  | decide
  | omega
  | ((simp only [List.length_map, List.length_append, List.length_cons, List.length_nil]); omega)
  | exact Bool.false_ne_true
  | exact Bool.false_ne_true.symm)
local macro_rules | `(tactic| walk_at "br") => `(tactic| first
  | ((with_reducible refine brT ?k); (case' k => walk_at "go"))
  | ((with_reducible refine brF ?k); (case' k => walk_at "go"))
  | ((with_reducible refine brDT ?hp ?k); (case hp => walk_at "hp"); (case' k => walk_at "go"))
  | ((with_reducible refine brDF ?hp ?k); (case hp => walk_at "hp"); (case' k => walk_at "go"))
  | ((with_reducible refine brDNT ?hp ?k); (case hp => walk_at "hp"); (case' k => walk_at "go"))
  | ((with_reducible refine brDNF ?hp ?k); (case hp => walk_at "hp"); (case' k => walk_at "go"))
  | ((with_reducible refine brD (fun hb => ?_) (fun hb => ?_)) <;> ((try simp only [List.length_map, List.length_append, List.length_cons, List.length_nil, not_true_eq_false] at hb) <;> walk_at "go"))
  | ((with_reducible refine brDN (fun hb => ?_) (fun hb => ?_)) <;> ((try simp only [List.length_map, List.length_append, List.length_cons, List.length_nil, not_true_eq_false] at hb) <;> walk_at "go"))
  | ((with_reducible refine orT ?k); (case' k => walk_at "go"))
  | ((with_reducible refine orF ?k); (case' k => walk_at "go"))
  | ((with_reducible refine orDT ?hp ?k); (case hp => walk_at "hp"); (case' k => walk_at "go"))
  | ((with_reducible refine orDF ?hp ?k); (case hp => walk_at "hp"); (case' k => walk_at "go"))
  | ((with_reducible refine orD (fun hb => ?_) (fun hb => ?_)) <;> ((try simp only [List.length_map, List.length_append, List.length_cons, List.length_nil, not_true_eq_false] at hb) <;> walk_at "go"))
  | ((with_reducible refine orDN (fun hb => ?_) (fun hb => ?_)) <;> ((try simp only [List.length_map, List.length_append, List.length_cons, List.length_nil, not_true_eq_false] at hb) <;> walk_at "go"))
  | ((refine brT ?k); (case' k => walk_at "go"))
  | ((refine brF ?k); (case' k => walk_at "go"))
  | ((refine orT ?k); (case' k => walk_at "go"))
  | ((refine orF ?k); (case' k => walk_at "go"))
  | ((with_reducible refine brN2 (fun hb => ?_) (fun hb => ?_)) <;> ((try simp only [List.length_map, List.length_append, List.length_cons, List.length_nil, not_true_eq_false] at hb) <;> walk_at "go"))
  | ((with_reducible refine br2 (fun hb => ?_) (fun hb => ?_)) <;> ((try simp only [List.length_map, List.length_append, List.length_cons, List.length_nil, not_true_eq_false] at hb) <;> walk_at "go"))
  | ((with_reducible refine orN2 (fun hb => ?_) (fun hb => ?_)) <;> ((try simp only [List.length_map, List.length_append, List.length_cons, List.length_nil, not_true_eq_false] at hb) <;> walk_at "go"))
  | ((with_reducible refine or2 (fun hb => ?_) (fun hb => ?_)) <;> ((try simp only [List.length_map, List.length_append, List.length_cons, List.length_nil, not_true_eq_false] at hb) <;> walk_at "go")))
local macro_rules | `(tactic| walk_at "ix") => `(tactic| first
  | ((with_reducible refine ⟨_, atI_last, ?k⟩); (case' k => walk_at "go"))
  | ((with_reducible refine ⟨_, atI_lastM, ?k⟩); (case' k => walk_at "go"))
  | ((with_reducible refine ⟨_, ixN_lastM, ?k⟩); (case' k => walk_at "go"))
  | ((refine' ⟨_, ?ix, ?k⟩); (case ix => walk_at "at"); (case' k => walk_at "go")))
local macro_rules | `(tactic| walk_at "ex3") => `(tactic| first
  | ((refine ex3 ⟨0, _, rfl, ?k⟩); (case' k => walk_at "ix"))
  | ((refine ex3 ⟨1, _, rfl, ?k⟩); (case' k => walk_at "ix"))
  | ((refine ex3 ⟨2, _, rfl, ?k⟩); (case' k => walk_at "ix"))
  | ((refine ex3 ⟨3, _, rfl, ?k⟩); (case' k => walk_at "ix"))
  | ((refine ex3 ⟨4, _, rfl, ?k⟩); (case' k => walk_at "ix"))
  | ((refine ex3 ⟨5, _, rfl, ?k⟩); (case' k => walk_at "ix"))
  | ((refine ex3 ⟨6, _, rfl, ?k⟩); (case' k => walk_at "ix"))
  | ((refine ex3 ⟨7, _, rfl, ?k⟩); (case' k => walk_at "ix"))
  | ((refine ex3 ⟨8, _, rfl, ?k⟩); (case' k => walk_at "ix"))
  | ((refine' ex3 ⟨(_ : Nat), _, ?pos, ?k⟩); (case pos => walk_at "pos"); (case' k => walk_at "ix")))
local macro_rules | `(tactic| walk_at "ex") => `(tactic| first
  | ((with_reducible show ∃ _, ∃ _, ∃ _, (_ = some _) ∧ (_ = some _) ∧ _); walk_at "ex3")
  | ((refine ⟨0, _, _, _, rfl, .head _, rfl, ?k⟩); (case' k => walk_at "go"))
  | ((refine ⟨1, _, _, _, rfl, .head _, rfl, ?k⟩); (case' k => walk_at "go"))
  | ((refine ⟨2, _, _, _, rfl, .head _, rfl, ?k⟩); (case' k => walk_at "go"))
  | ((refine ⟨3, _, _, _, rfl, .head _, rfl, ?k⟩); (case' k => walk_at "go"))
  | ((refine ⟨4, _, _, _, rfl, .head _, rfl, ?k⟩); (case' k => walk_at "go"))
  | ((refine ⟨5, _, _, _, rfl, .head _, rfl, ?k⟩); (case' k => walk_at "go"))
  | ((refine ⟨0, _, _, rfl, .head _, ?side, ?k⟩); (case side => exact Nat.le_of_ble_eq_true rfl); (case' k => walk_at "go"))
  | ((refine ⟨1, _, _, rfl, .head _, ?side, ?k⟩); (case side => exact Nat.le_of_ble_eq_true rfl); (case' k => walk_at "go"))
  | ((refine ⟨2, _, _, rfl, .head _, ?side, ?k⟩); (case side => exact Nat.le_of_ble_eq_true rfl); (case' k => walk_at "go"))
  | ((refine ⟨3, _, _, rfl, .head _, ?side, ?k⟩); (case side => exact Nat.le_of_ble_eq_true rfl); (case' k => walk_at "go"))
  | ((refine ⟨⟨0, _, rfl, rfl⟩, ?k⟩); (case' k => walk_at "go"))
  | ((refine ⟨⟨1, _, rfl, rfl⟩, ?k⟩); (case' k => walk_at "go"))
  | ((refine ⟨⟨2, _, rfl, rfl⟩, ?k⟩); (case' k => walk_at "go"))
  | ((refine ⟨⟨3, _, rfl, rfl⟩, ?k⟩); (case' k => walk_at "go"))
  | ((refine ⟨⟨4, _, rfl, rfl⟩, ?k⟩); (case' k => walk_at "go"))
  | ((refine ⟨⟨5, _, rfl, rfl⟩, ?k⟩); (case' k => walk_at "go"))
  | ((refine ⟨⟨6, _, rfl, rfl⟩, ?k⟩); (case' k => walk_at "go"))
  | ((refine ⟨⟨7, _, rfl, rfl⟩, ?k⟩); (case' k => walk_at "go"))
  | ((refine' And.intro (exO ?pos ?lk) ?k); (case pos => walk_at "pos"); (case lk => exact rfl); (case' k => walk_at "go"))
  | ((refine ⟨⟨0, _, rfl⟩, ?k⟩); (case' k => walk_at "go"))
  | ((refine ⟨⟨1, _, rfl⟩, ?k⟩); (case' k => walk_at "go"))
  | ((refine ⟨⟨2, _, rfl⟩, ?k⟩); (case' k => walk_at "go"))
  | ((refine ⟨⟨3, _, rfl⟩, ?k⟩); (case' k => walk_at "go"))
  | ((refine ⟨⟨4, _, rfl⟩, ?k⟩); (case' k => walk_at "go"))
  | ((refine ⟨⟨5, _, rfl⟩, ?k⟩); (case' k => walk_at "go"))
  | ((refine ⟨⟨6, _, rfl⟩, ?k⟩); (case' k => walk_at "go"))
  | ((refine ⟨⟨7, _, rfl⟩, ?k⟩); (case' k => walk_at "go"))
  | ((refine' ⟨0, _, rfl, _, ?ix, ?k⟩); (case ix => first | exact kit_list_list | exact kit_list_bool | exact kit_list_int); (case' k => walk_at "go"))
  | ((refine' ⟨1, _, rfl, _, ?ix, ?k⟩); (case ix => first | exact kit_list_list | exact kit_list_bool | exact kit_list_int); (case' k => walk_at "go"))
  | ((refine' ⟨2, _, rfl, _, ?ix, ?k⟩); (case ix => first | exact kit_list_list | exact kit_list_bool | exact kit_list_int); (case' k => walk_at "go"))
  | ((refine' ⟨3, _, rfl, _, ?ix, ?k⟩); (case ix => first | exact kit_list_list | exact kit_list_bool | exact kit_list_int); (case' k => walk_at "go"))
  | ((refine' ⟨4, _, rfl, _, ?ix, ?k⟩); (case ix => first | exact kit_list_list | exact kit_list_bool | exact kit_list_int); (case' k => walk_at "go"))
  | ((refine' ⟨5, _, rfl, _, ?ix, ?k⟩); (case ix => first | exact kit_list_list | exact kit_list_bool | exact kit_list_int); (case' k => walk_at "go"))
  | ((refine' ⟨6, _, rfl, _, ?ix, ?k⟩); (case ix => first | exact kit_list_list | exact kit_list_bool | exact kit_list_int); (case' k => walk_at "go"))
  | ((refine' ⟨7, _, rfl, _, ?ix, ?k⟩); (case ix => first | exact kit_list_list | exact kit_list_bool | exact kit_list_int); (case' k => walk_at "go"))
  | ((refine ⟨0, _, rfl, And.intro ?side ?k⟩); (case side => walk_at "side"); (case' k => walk_at "go"))
  | ((refine ⟨1, _, rfl, And.intro ?side ?k⟩); (case side => walk_at "side"); (case' k => walk_at "go"))
  | ((refine ⟨2, _, rfl, And.intro ?side ?k⟩); (case side => walk_at "side"); (case' k => walk_at "go"))
  | ((refine ⟨3, _, rfl, And.intro ?side ?k⟩); (case side => walk_at "side"); (case' k => walk_at "go"))
  | ((refine ⟨4, _, rfl, And.intro ?side ?k⟩); (case side => walk_at "side"); (case' k => walk_at "go"))
  | ((refine ⟨5, _, rfl, And.intro ?side ?k⟩); (case side => walk_at "side"); (case' k => walk_at "go"))
  | ((refine ⟨6, _, rfl, And.intro ?side ?k⟩); (case side => walk_at "side"); (case' k => walk_at "go"))
  | ((refine ⟨7, _, rfl, And.intro ?side ?k⟩); (case side => walk_at "side"); (case' k => walk_at "go"))
  | ((refine ⟨0, _, rfl, ?k⟩); (case' k => walk_at "go"))
  | ((refine ⟨1, _, rfl, ?k⟩); (case' k => walk_at "go"))
  | ((refine ⟨2, _, rfl, ?k⟩); (case' k => walk_at "go"))
  | ((refine ⟨3, _, rfl, ?k⟩); (case' k => walk_at "go"))
  | ((refine ⟨4, _, rfl, ?k⟩); (case' k => walk_at "go"))
  | ((refine ⟨5, _, rfl, ?k⟩); (case' k => walk_at "go"))
  | ((refine ⟨6, _, rfl, ?k⟩); (case' k => walk_at "go"))
  | ((refine ⟨7, _, rfl, ?k⟩); (case' k => walk_at "go"))
  | ((with_reducible show Exists fun _ => (_ = some _) ∧ _); (refine' ⟨_, ?ix, ?k⟩); (case ix => first | exact kit_NoneType_bool | exact kit_NoneType_int | exact kit_NoneType_list | exact kit_bool_bool | exact kit_bool_int | exact kit_bool_list | exact kit_int_bool | exact kit_int_int | exact kit_int_str | exact kit_int_tuple | exact kit_int_list | exact kit_str_bool | exact kit_str_int | exact kit_str_str | exact kit_str_list | exact kit_tuple_bool | exact kit_tuple_int | exact kit_tuple_tuple | exact kit_tuple_list | exact kit_list_bool | exact kit_list_int | exact kit_list_list); (case' k => walk_at "go"))
  | ((refine ⟨_, RgC.neg ?s1 ?s2 ?s3 ?s4, ?k⟩); (case s1 => omega); (case s2 => omega); (case s3 => omega); (case s4 => omega); (case' k => walk_at "go"))
  | ((with_reducible show Exists fun _ => (_ = some _) ∧ _); (refine' ⟨_, ?ix, ?k⟩); (case ix => walk_at "at"); (case' k => walk_at "go"))
  | ((refine ⟨rfl, _, rfl, ?sc, ?k⟩); (case sc => first | exact rfl | exact scal_ints _); (case' k => walk_at "go"))
  | ((refine ⟨rfl, _, ⟨0, rfl⟩, ?sc, ?k⟩); (case sc => first | exact rfl | exact scal_ints _); (case' k => walk_at "go"))
  | ((refine ⟨rfl, _, ⟨1, rfl⟩, ?sc, ?k⟩); (case sc => first | exact rfl | exact scal_ints _); (case' k => walk_at "go"))
  | ((refine ⟨rfl, _, ⟨2, rfl⟩, ?sc, ?k⟩); (case sc => first | exact rfl | exact scal_ints _); (case' k => walk_at "go"))
  | ((refine' ⟨0, _, 0, _, rfl, by decide, by decide, ?sx, ?zx, ?k⟩); (case zx => exact rfl); (case sx => refine sx0 ?_; (try simp only [List.length_map, List.length_cons]); omega); (case' k => walk_at "go"))
  | ((refine' ⟨1, _, 0, _, rfl, by decide, by decide, ?sx, ?zx, ?k⟩); (case zx => exact rfl); (case sx => refine sx0 ?_; (try simp only [List.length_map, List.length_cons]); omega); (case' k => walk_at "go"))
  | ((refine' ⟨(_ : Nat), _, 0, _, ?pos, by decide, by decide, ?sx, ?zx, ?k⟩); (case pos => walk_at "pos"); (case zx => exact rfl); (case sx => refine sx0 ?_; (try simp only [List.length_map, List.length_cons]); omega); (case' k => walk_at "go"))
  | ((with_reducible show ∃ _ : Nat, ∃ _ : List D, ∃ _, (_ = some (_, OO.lst _)) ∧ (_ = some _) ∧ _); (refine' ⟨(_ : Nat), _, _, ?pos, ?ix, ?k⟩); (case pos => walk_at "pos"); (case ix => walk_at "at"); (case' k => walk_at "go"))
  | ((refine' ⟨⟨(_ : Nat), _, ?pos⟩, ?k⟩); (case pos => walk_at "pos"); (case' k => walk_at "go"))
  | ((refine ⟨_, ⟨0, rfl⟩, ?k⟩); (case' k => walk_at "go"))
  | ((refine ⟨_, ⟨1, rfl⟩, ?k⟩); (case' k => walk_at "go"))
  | ((refine ⟨_, ⟨2, rfl⟩, ?k⟩); (case' k => walk_at "go"))
  | ((refine ⟨_, ⟨3, rfl⟩, ?k⟩); (case' k => walk_at "go"))
  | ((refine ⟨_, ⟨4, rfl⟩, ?k⟩); (case' k => walk_at "go"))
  | ((refine ⟨_, ⟨5, rfl⟩, ?k⟩); (case' k => walk_at "go"))
  | ((refine ⟨_, ⟨6, rfl⟩, ?k⟩); (case' k => walk_at "go"))
  | ((refine ⟨_, ⟨7, rfl⟩, ?k⟩); (case' k => walk_at "go"))
  | ((refine' ⟨_, ⟨(_ : Nat), ?pos⟩, ?k⟩); (case pos => walk_at "pos"); (case' k => walk_at "go"))
  | ((refine' ⟨rfl, _, ⟨(_ : Nat), ?pos⟩, ?sc, ?k⟩); (case pos => walk_at "pos"); (case sc => exact scal_ints _); (case' k => walk_at "go"))
  | ((refine' ⟨(_ : Nat), _, ?pos, And.intro ?side ?k⟩); (case pos => walk_at "pos"); (case side => walk_at "side"); (case' k => walk_at "go"))
  | ((refine' ⟨(_ : Nat), _, ?pos, ?k⟩); (case pos => walk_at "pos"); (case' k => walk_at "go")))
local macro_rules | `(tactic| walk_at "s1") => `(tactic| first
  | walk_at "br"
  | ((with_reducible show EV.MulOk _ _ ∧ _); (refine And.intro ?side ?k); (try (case side => walk_at "side")); (case' k => walk_at "go"))
  | ((with_reducible show EV.DivOk _ _ ∧ _); (refine And.intro ?side ?k); (try (case side => walk_at "side")); (case' k => walk_at "go"))
  | ((with_reducible show EV.ModOk _ _ ∧ _); (refine And.intro ?side ?k); (try (case side => walk_at "side")); (case' k => walk_at "go"))
  | ((with_reducible show EV.PowOk _ _ ∧ _); (refine And.intro ?side ?k); (try (case side => walk_at "side")); (case' k => walk_at "go"))
  | ((with_reducible show EV.ShrOk _ _ ∧ _); (refine And.intro ?side ?k); (try (case side => walk_at "side")); (case' k => walk_at "go"))
  | ((with_reducible show (_ ≤ _) ∧ _); (refine And.intro ?side ?k); (try (case side => walk_at "side")); (case' k => walk_at "go"))
  | ((with_reducible show (_ < _) ∧ _); (refine And.intro ?side ?k); (try (case side => walk_at "side")); (case' k => walk_at "go"))
  | ((with_reducible show (List.length _ = _) ∧ _); (refine And.intro ?side ?k); (try (case side => walk_at "side")); (case' k => walk_at "go"))
  | walk_at "ex"
  | walk_at "hook"
  | ((with_reducible refine And.intro ?side ?k); (try (case side => walk_at "side")); (case' k => walk_at "go"))
  | ((with_reducible show ∀ _ : Addr, _); (intro _); walk_at "go"))
local macro_rules | `(tactic| walk_at "go") => `(tactic| ((try (conv => whnf)); first | walk_at "s1" | skip))

section
abbrev TS_ev (CS : Nat → Addr) (n : Nat) : FT := TS_2 CS n 0
abbrev TS_lv (CS : Nat → Addr) (n : Nat) : FT := TS_1 CS n 0

end

section
variable {CS : Nat → Addr}
/-! the drawing state: a list that owns the list of cells -/
def DQ (p q : Addr) (o : Os) : Prop := ∃ (cs : List Int) (s : Int), o = [(p, .lst [.ref q, .int s]), (q, .lst (cs.map D.int))] ∧ 0 ≤ s ∧ ∀ c ∈ cs, 0 ≤ c
theorem w_drawQ {p q : Addr} {m : Int} {o : Os} {k : D → Os → Prop} {kx : Kx} (hm : 0 < m) (hm2 : m < 1000000000000) (hS : DQ p q o) (h : ∀ (r : Int) (o' : Os), 0 ≤ r → r < m → DQ p q o' → k (.int r) o') :
    T__law_draw CS [.ref p, .int m] o k kx := by
  obtain ⟨cs, s, rfl, hs, hc⟩ := hS
  unfold T__law_draw fnT
  walk_at "go"
  have md : ∀ x : Int, 0 ≤ x % m ∧ x % m < m := fun x => ⟨Int.emod_nonneg _ (by omega), Int.emod_lt_of_pos _ hm⟩
  refine whileX_inv (fun n en o => ∃ cs : List Int, en = [some (.ref p), some (.int m), some (.ref q), none, none] ∧ o = [(p, .lst [.ref q, .int s]), (q, .lst (cs.map D.int))] ∧ cs.length = n ∧ ∀ c ∈ cs, 0 ≤ c) cs.length ⟨cs, rfl, rfl, rfl, hc⟩ ?_
  rintro n en o M ⟨cs, rfl, rfl, rfl, hc⟩ hM
  cases cs with
  | nil =>
    walk_at "go"
    exact dropX_id (h _ _ (md _).1 (md _).2 ⟨[], _, rfl, Int.emod_nonneg _ (by decide), fun x hx => nomatch hx⟩)
  | cons c cs =>
    have h0 := hc c List.mem_cons_self
    have hc2 : ∀ c ∈ cs, 0 ≤ c := fun x hx => hc x (List.mem_cons_of_mem _ hx)
    simp only [List.map_cons]
    walk_at "go"
    · exact hM cs.length _ _ _ (by simp) (.refl _) ⟨cs, rfl, rfl, rfl, hc2⟩
    · refine dropX_id (h _ _ (md _).1 (md _).2 ⟨c / m :: cs, s, rfl, hs, fun x hx => ?_⟩)
      rcases List.mem_cons.mp hx with rfl | hx
      · exact Int.ediv_nonneg h0 (by omega)
      · exact hc2 x hx
def absD (w : D) : D := match w with
  | .int x => .int (if x < 0 then -x else x)
  | _ => w
theorem w_stateQ {ns : List Int} {k : D → Os → Prop} {kx : Kx} (hn : ns.length ≤ 63) (h : ∀ (p q : Addr) (o : Os), DQ p q o → k (.ref p) o) : T__law_state CS [.lst (ns.map D.int)] [] k kx := by
  unfold T__law_state fnT
  walk_at "go"
  refine forX_inv (fun i en o => ∃ (x : Int) (y : Option D), 0 ≤ x ∧ x < 1000003 ∧ en = [some (.lst (ns.map D.int)), some (.int x), y] ∧ o = []) ⟨7, _, by omega, by omega, rfl, rfl⟩ ?_ ?_ (fun _ _ _ _ => trivial)
  · rintro i w en o N hw ⟨x, y, h0, h1, rfl, rfl⟩ hN
    rw [List.getElem?_map] at hw
    obtain ⟨z, _, rfl⟩ := Option.map_eq_some_iff.mp hw
    walk_at "go"
    exact hN _ _ _ (.refl _) ⟨_, _, by omega, by omega, rfl, rfl⟩
  · rintro en o ⟨x, y, h0, h1, rfl, rfl⟩
    walk_at "go"
    all_goals try (rw [List.length_map, sizeLine_eq]; omega)
    refine lcX_map absD trivial (fun w {p q} h => h _) (fun w hw kk h => ?_) ?_
    · obtain ⟨z, hz, rfl⟩ := List.mem_map.mp hw
      walk_at "go"
      exact h
    · have e : (ns.map D.int).map absD = (ns.map fun x => if x < 0 then -x else x).map D.int := by rw [List.map_map, List.map_map]; rfl
      rw [e]
      walk_at "go"
      refine dropX_id (h _ _ _ ⟨_, _, rfl, by omega, fun y hy => ?_⟩)
      obtain ⟨x, _, rfl⟩ := List.mem_map.mp hy
      split <;> omega
/-! one of a row -/
theorem w_pick {p q : Addr} {ds : List D} {o : Os} {k : D → Os → Prop} {kx : Kx} (h0 : 0 < ds.length) (h1 : ds.length < 1000000) (hS : DQ p q o) (h : ∀ (d : D) (o' : Os), d ∈ ds → DQ p q o' → k d o') :
    T__law_pick CS [.ref p, .lst ds] o k kx := by
  unfold T__law_pick fnT
  have hz : ds.length ≤ sizeLine := by rw [sizeLine_eq]; omega
  walk_at "go"
  refine callX_all (w_drawQ (by omega) (by omega) hS fun r o' r0 r1 hS => ?_)
  obtain ⟨d, hd⟩ : ∃ d, ds[r.toNat]? = some d := ⟨_, List.getElem?_eq_getElem (by omega)⟩
  refine ⟨d, atI_some r0 hd, ?_⟩
  exact dropX_id (h d o' (List.mem_of_getElem? hd) hS)
theorem callX_keep {T : FT} {ws : List D} (l : Os) {os : Os} {k : D → Os → Prop} {kx : Kx} (q : T ws os (fun w o => k w (l ++ o)) (fun y o => kx y (l ++ o))) : callX T ws (l ++ os) k kx := by
  rw [callX_eq]
  exact ⟨os, l, fun o => l ++ o, List.perm_append_comm, fun o => List.perm_append_comm, q⟩
theorem w_word {p q : Addr} {o : Os} {k : D → Os → Prop} {kx : Kx} (hS : DQ p q o) (h : ∀ (n : Int) (o' : Os), 0 ≤ n → n < 4294967296 → DQ p q o' → k (.int n) o') :
    T__law_word CS [.ref p] o k kx := by
  unfold T__law_word fnT
  walk_at "go"
  refine callX_all (w_drawQ (by decide) (by decide) hS fun r o' r0 r1 hS => ?_)
  walk_at "go"
  · refine callX_all (w_pick (by decide) (by decide) hS fun d o2 hd hS => ?_)
    simp only [List.mem_cons, List.not_mem_nil, or_false] at hd
    rcases hd with rfl | rfl | rfl | rfl | rfl | rfl | rfl | rfl
    all_goals exact dropX_id (h _ _ (by decide) (by decide) hS)
  · refine callX_all (w_pick (by decide) (by decide) hS fun d o2 hd hS => ?_)
    simp only [List.mem_cons, List.not_mem_nil, or_false] at hd
    rcases hd with rfl | rfl
    all_goals
      walk_at "go"
      exact callX_all (w_drawQ (by decide) (by decide) hS fun r o' r0 r1 hS => dropX_id (h _ _ r0 (by omega) hS))

end

section
variable {CS : Nat → Addr}
/-! expressions -/
inductive Ex where
  | num (n : Int) | cell (s : Str) | at (s : Str) (i : Ex) | un (op : Str) (a : Ex) | bin (op : Str) (a b : Ex)
def eD : Ex → D
  | .num n => .tup [.str "num", .int n]
  | .cell s => .tup [.str "cell", .str s]
  | .at s i => .tup [.str "at", .str s, eD i]
  | .un op a => .tup [.str op, eD a]
  | .bin op a b => .tup [.str op, eD a, eD b]
def UNS : List Str := ["neg", "inv", "not"]
def SIGNS : List Str := ["+", "-", "*", "/", "mod", "&", "|", "^", "<<", ">>", "<", "<=", "~<", "~<=", "==", "!=", "and", "or"]
structure GEnv where
  cells : List (Str × Int)
  loops : List Str
  ports : List (Str × Str)
  calls : List (Str × Str × Int)
  left : Int
def cellD (c : Str × Int) : D := .tup [.str c.1, .int c.2]
def portD (c : Str × Str) : D := .tup [.str c.1, .str c.2]
def callD (c : Str × Str × Int) : D := .tup [.str c.1, .str c.2.1, .int c.2.2]
def envD (E : GEnv) : D := .lst [.lst (E.cells.map cellD), .lst (E.loops.map D.str), .lst (E.ports.map portD), .lst (E.calls.map callD), .int E.left]
/-- an expression over cells, at most so deep -/
def ExOk (E : GEnv) : Nat → Ex → Prop
  | 0, _ => False
  | _ + 1, .num n => 0 ≤ n ∧ n < 4294967296
  | _ + 1, .cell s => (s, 0) ∈ E.cells ∨ s ∈ E.loops
  | d + 1, .at s i => (∃ k : Int, 0 < k ∧ (s, k) ∈ E.cells) ∧ ExOk E d i
  | d + 1, .un op a => op ∈ UNS ∧ ExOk E d a
  | d + 1, .bin op a b => op ∈ SIGNS ∧ ExOk E d a ∧ ExOk E d b
structure GE (E : GEnv) : Prop where
  c : E.cells.length < 1000
  l : E.loops.length + E.left.toNat < 1000
  p : E.ports.length < 1000
  k : E.calls.length < 1000
  kn : ∀ c ∈ E.calls, 0 ≤ c.2.2 ∧ c.2.2 < 1000
  c0 : E.cells ≠ []
def zeroC (w : D) : Bool := match w with
  | .tup [_, .int n] => decide (n = 0)
  | _ => false
def posC (w : D) : Bool := match w with
  | .tup [_, .int n] => decide (0 < n)
  | _ => false
def cellOf (w : D) : D := match w with
  | .tup [x, _] => .tup [.str "cell", x]
  | w => .tup [.str "cell", w]
def nameOf (w : D) : D := match w with
  | .tup [x, _] => x
  | w => w
def leafOf (w : D) : D := .tup [.str "cell", w]
theorem leaf_rows (E : GEnv) : (∀ w ∈ ((E.cells.map cellD).filter zeroC).map cellOf ++ (E.loops.map D.str).map leafOf, ∃ s, w = eD (.cell s) ∧ ((s, 0) ∈ E.cells ∨ s ∈ E.loops)) ∧ (((E.cells.map cellD).filter zeroC).map cellOf ++ (E.loops.map D.str).map leafOf).length ≤ E.cells.length + E.loops.length := by
  constructor
  · intro w hw
    rcases List.mem_append.mp hw with hw | hw
    · obtain ⟨x, hx, rfl⟩ := List.mem_map.mp hw
      obtain ⟨h1, h2⟩ := List.mem_filter.mp hx
      obtain ⟨c, hc, rfl⟩ := List.mem_map.mp h1
      have h0 : c.2 = 0 := of_decide_eq_true h2
      exact ⟨c.1, rfl, .inl (by rw [← h0]; exact hc)⟩
    · obtain ⟨x, hx, rfl⟩ := List.mem_map.mp hw
      obtain ⟨c, hc, rfl⟩ := List.mem_map.mp hx
      exact ⟨c, rfl, .inr hc⟩
  · rw [List.length_append, List.length_map, List.length_map, List.length_map]
    have := List.length_filter_le zeroC (E.cells.map cellD)
    rw [List.length_map] at this
    omega
theorem row_rows (E : GEnv) : (∀ w ∈ ((E.cells.map cellD).filter posC).map nameOf, ∃ s, w = .str s ∧ ∃ k : Int, 0 < k ∧ (s, k) ∈ E.cells) ∧ (((E.cells.map cellD).filter posC).map nameOf).length ≤ E.cells.length := by
  constructor
  · intro w hw
    obtain ⟨x, hx, rfl⟩ := List.mem_map.mp hw
    obtain ⟨h1, h2⟩ := List.mem_filter.mp hx
    obtain ⟨c, hc, rfl⟩ := List.mem_map.mp h1
    exact ⟨c.1, rfl, c.2, of_decide_eq_true h2, hc⟩
  · rw [List.length_map]
    have := List.length_filter_le posC (E.cells.map cellD)
    rw [List.length_map] at this
    omega
theorem w_exprN : ∀ (n : Nat) {E : GEnv} {d : Nat} {p q : Addr} {o : Os} {k : D → Os → Prop} {kx : Kx}, d + 1 ≤ n → GE E → DQ p q o → (∀ (e : Ex) (o' : Os), ExOk E (d + 1) e → DQ p q o' → k (eD e) o') →
    TS_0 CS n 0 [.ref p, envD E, .int ((d + 1 : Nat) : Int)] o k kx
  | 0, _, _, _, _, _, _, _, hd, _, _, _ => by omega
  | n + 1, E, d, p, q, o, k, kx, hd, hE, hS, h => by
    show B__law_expr CS (TS_0 CS n) _ _ _ _
    unfold B__law_expr fnT envD
    have hc := hE.c
    have hl := hE.l
    walk_at "go"
    refine callX_all (w_drawQ (by decide) (by decide) hS fun r o1 r0 r1 hS => ?_)
    walk_at "go"
    rotate_left
    · refine lcX_filter posC nameOf trivial (fun w hw kt kf h1 h2 => ?_) ?_
      · obtain ⟨c, hc, rfl⟩ := List.mem_map.mp hw
        rw [show cellD c = .tup [.str c.1, .int c.2] from rfl] at h1 h2 ⊢
        walk_at "go"
        · rename_i hb
          exact h1 (decide_eq_true hb)
        · rename_i hb
          exact h2 (decide_eq_false hb)
      · obtain ⟨hm, hz⟩ := row_rows E
        have hsz : (((E.cells.map cellD).filter posC).map nameOf).length ≤ sizeLine := by
          rw [sizeLine_eq]
          omega
        obtain ⟨d, rfl⟩ : ∃ d', d = d' + 1 := ⟨d - 1, by omega⟩
        have ed : ((d + 1 + 1 : Nat) : Int) - 1 = ((d + 1 : Nat) : Int) := by omega
        have ih := fun {o : Os} {k : D → Os → Prop} {kx : Kx} => w_exprN n (E := E) (d := d) (p := p) (q := q) (o := o) (k := k) (kx := kx) (by omega) hE
        walk_at "go"
        · rename_i hb
          refine callX_all (w_pick (by rw [List.length_map]; omega) (by omega) hS fun w o2 hw hS => ?_)
          obtain ⟨s, rfl, hk⟩ := hm w hw
          walk_at "go"
          rw [ed]
          refine callX_all (ih hS fun e o3 he hS => ?_)
          exact dropX_id (h (.at s e) o3 ⟨hk, he⟩ hS)
        rotate_left
        · refine callX_all (w_pick (by decide) (by decide) hS fun w o2 hw hS => ?_)
          obtain ⟨s, hs, rfl⟩ := List.mem_map.mp (show w ∈ UNS.map D.str from hw)
          walk_at "go"
          rw [ed]
          refine callX_all (ih hS fun e o3 he hS => ?_)
          exact dropX_id (h (.un s e) o3 ⟨hs, he⟩ hS)
        all_goals
          rw [ed]
          refine callX_all (ih hS fun e o3 he hS => ?_)
          walk_at "go"
          refine callX_all (w_pick (by decide) (by decide) hS fun w o2 hw hS => ?_)
          obtain ⟨s, hs, rfl⟩ := List.mem_map.mp (show w ∈ SIGNS.map D.str from hw)
          walk_at "go"
          rw [ed]
          refine callX_all (ih hS fun e2 o3 he2 hS => ?_)
          exact dropX_id (h (.bin s e e2) o3 ⟨hs, he, he2⟩ hS)
    all_goals
      refine lcX_filter zeroC cellOf trivial (fun w hw kt kf h1 h2 => ?_) ?_
      · obtain ⟨c, hc, rfl⟩ := List.mem_map.mp hw
        rw [show cellD c = .tup [.str c.1, .int c.2] from rfl] at h1 h2 ⊢
        walk_at "go"
        · rename_i hb
          exact h1 (decide_eq_true hb)
        · rename_i hb
          exact h2 (decide_eq_false hb)
      · walk_at "go"
        refine lcX_map leafOf trivial (fun w {p q} h => h _) (fun w hw kk h => ?_) ?_
        · obtain ⟨c, hc, rfl⟩ := List.mem_map.mp hw
          walk_at "go"
          exact h
        · obtain ⟨hm, hz⟩ := leaf_rows E
          have hsz : (((E.cells.map cellD).filter zeroC).map cellOf).length + ((E.loops.map D.str).map leafOf).length ≤ sizeLine := by
            rw [← List.length_append, sizeLine_eq]
            omega
          have hRl : (((E.cells.map cellD).filter zeroC).map cellOf ++ (E.loops.map D.str).map leafOf).length = ((E.cells.map cellD).filter zeroC).length + E.loops.length := by
            rw [List.length_append, List.length_map, List.length_map, List.length_map]
          walk_at "go"
          · rename_i hb
            generalize ((E.cells.map cellD).filter zeroC).map cellOf ++ (E.loops.map D.str).map leafOf = R at hm hz hRl
            refine callX_all (w_drawQ (by decide) (by decide) hS fun r o' r0 r1 hS => ?_)
            walk_at "go"
            · refine callX_all (w_word hS fun x o2 h0 h1 hS => ?_)
              exact dropX_id (h (.num x) o2 ⟨h0, h1⟩ hS)
            · refine callX_all (w_pick (by omega) (by omega) hS fun w o2 hw hS => ?_)
              obtain ⟨s, rfl, hk⟩ := hm w hw
              exact dropX_id (h (.cell s) o2 hk hS)
          · refine callX_all (w_word hS fun x o2 h0 h1 hS => ?_)
            exact dropX_id (h (.num x) o2 ⟨h0, h1⟩ hS)

end

section
variable {CS : Nat → Addr}
/-! operators of words -/
def sgW (w : Int) : Int := if w < 2147483648 then w else w - 4294967296
def b2i (b : Bool) : Int := if b then 1 else 0
def valB (i : Nat) (a b : Int) : Int := match i with
  | 0 => (a + b) % 4294967296
  | 1 => (a - b) % 4294967296
  | 2 => a * b % 4294967296
  | 3 => if b = 0 then 0 else a / b
  | 4 => if b = 0 then a else a % b
  | 5 => Builtin.bitAnd a b
  | 6 => Builtin.bitOr a b
  | 7 => Builtin.bitXor a b
  | 8 => a * 2 ^ (b % 32).toNat % 4294967296
  | 9 => a / 2 ^ (b % 32).toNat
  | 10 => b2i (decide (a < b))
  | 11 => b2i (decide (a ≤ b))
  | 12 => b2i (decide (sgW a < sgW b))
  | 13 => b2i (decide (sgW a ≤ sgW b))
  | 14 => b2i (decide (a = b))
  | 15 => b2i (decide (a ≠ b))
  | 16 => b2i (decide (a ≠ 0 ∧ b ≠ 0))
  | _ => b2i (decide (a ≠ 0 ∨ b ≠ 0))
def valU (i : Nat) (a : Int) : Int := match i with
  | 0 => -a % 4294967296
  | 1 => 4294967295 - a
  | _ => b2i (decide (a = 0))
def IsW (a : Int) : Prop := 0 ≤ a ∧ a < 4294967296
theorem w_wrap {n : Int} {k : D → Os → Prop} {kx : Kx} (h : k (.int (n % 4294967296)) []) : T_wrap CS [.int n] [] k kx := by
  unfold T_wrap fnT
  walk_at "go"
  exact dropX_id h
theorem w_signed {n : Int} {k : D → Os → Prop} {kx : Kx} (h : k (.int (sgW n)) []) : T_signed CS [.int n] [] k kx := by
  unfold T_signed fnT
  unfold sgW at h
  walk_at "go"
  · rename_i hb
    rw [if_pos hb] at h
    exact dropX_id h
  · rename_i hb
    rw [if_neg hb] at h
    exact dropX_id h
theorem w_arith {i : Nat} {op : Str} {a b : Int} {k : D → Os → Prop} {kx : Kx} (hi : SIGNS[i]? = some op) (ha : IsW a) (hb : IsW b) (h : k (if i < 5 then .int (valB i a b) else .non) []) : T__arithmetic CS [.str op, .int a, .int b] [] k kx := by
  have hl : i < 18 := (List.getElem?_eq_some_iff.mp hi).1
  obtain ⟨a0, a1⟩ := ha
  obtain ⟨b0, b1⟩ := hb
  unfold T__arithmetic fnT
  have hc : i = 0 ∨ i = 1 ∨ i = 2 ∨ i = 3 ∨ i = 4 ∨ i = 5 ∨ i = 6 ∨ i = 7 ∨ i = 8 ∨ i = 9 ∨ i = 10 ∨ i = 11 ∨ i = 12 ∨ i = 13 ∨ i = 14 ∨ i = 15 ∨ i = 16 ∨ i = 17 := by omega
  rcases hc with rfl | rfl | rfl | rfl | rfl | rfl | rfl | rfl | rfl | rfl | rfl | rfl | rfl | rfl | rfl | rfl | rfl | rfl
  all_goals cases hi
  all_goals walk_at "go"
  all_goals first
    | exact dropX_id h
    | exact callX_none (w_wrap (dropX_id h))
    | (rename_i hb
       refine dropX_id ?_
       first
       | (have h3 : k (.int (if b = 0 then 0 else a / b)) [] := h
          first | rw [if_pos hb] at h3 | rw [if_neg hb] at h3
          exact h3)
       | (have h3 : k (.int (if b = 0 then a else a % b)) [] := h
          first | rw [if_pos hb] at h3 | rw [if_neg hb] at h3
          exact h3))
theorem b31 (b : Int) : 0 ≤ b % 32 ∧ b % 32 < 32 := ⟨Int.emod_nonneg _ (by decide), Int.emod_lt_of_pos _ (by decide)⟩
theorem w_bits {i : Nat} {op : Str} {a b : Int} {k : D → Os → Prop} {kx : Kx} (hi : SIGNS[i]? = some op) (h5 : 5 ≤ i) (ha : IsW a) (hb : IsW b) (h : k (if i < 10 then .int (valB i a b) else .non) []) : T__bits CS [.str op, .int a, .int b] [] k kx := by
  have hl : i < 18 := (List.getElem?_eq_some_iff.mp hi).1
  obtain ⟨a0, a1⟩ := ha
  obtain ⟨b0, b1⟩ := hb
  have hm := b31 b
  have hp : EV.PowOk a (b % 32) := ⟨hm.1, by omega, by omega, by omega⟩
  unfold T__bits fnT
  have hc : i = 5 ∨ i = 6 ∨ i = 7 ∨ i = 8 ∨ i = 9 ∨ i = 10 ∨ i = 11 ∨ i = 12 ∨ i = 13 ∨ i = 14 ∨ i = 15 ∨ i = 16 ∨ i = 17 := by omega
  rcases hc with rfl | rfl | rfl | rfl | rfl | rfl | rfl | rfl | rfl | rfl | rfl | rfl | rfl
  all_goals cases hi
  all_goals walk_at "go"
  all_goals try exact dropX_id h
  all_goals try rw [bitAnd_m5]
  · exact callX_none (w_wrap (dropX_id h))
  · exact hp
  · exact dropX_id h
  · exact hm.1
theorem w_truth {i : Nat} {op : Str} {a b : Int} {k : D → Os → Prop} {kx : Kx} (hi : SIGNS[i]? = some op) (h5 : 10 ≤ i) (ha : IsW a) (hb : IsW b) (h : ∀ z : Bool, b2i z = valB i a b → k (.bl z) []) : T__truth CS [.str op, .int a, .int b] [] k kx := by
  have hl : i < 18 := (List.getElem?_eq_some_iff.mp hi).1
  unfold T__truth fnT
  have hc : i = 10 ∨ i = 11 ∨ i = 12 ∨ i = 13 ∨ i = 14 ∨ i = 15 ∨ i = 16 ∨ i = 17 := by omega
  rcases hc with rfl | rfl | rfl | rfl | rfl | rfl | rfl | rfl
  all_goals cases hi
  all_goals walk_at "go"
  all_goals try exact dropX_id (h _ rfl)
  · refine callX_none (w_signed ?_)
    walk_at "go"
    refine callX_none (w_signed ?_)
    exact dropX_id (h _ rfl)
  · refine callX_none (w_signed ?_)
    walk_at "go"
    refine callX_none (w_signed ?_)
    exact dropX_id (h _ rfl)
  · refine dropX_id (h _ ?_)
    show b2i (!decide (a = b)) = b2i (decide (a ≠ b))
    by_cases e : a = b <;> simp [e]
  · rename_i h1
    refine dropX_id (h _ ?_)
    show b2i (!decide (b = 0)) = b2i (decide (a ≠ 0 ∧ b ≠ 0))
    by_cases e : b = 0 <;> simp [e, h1]
  · rename_i h1
    refine dropX_id (h _ ?_)
    show b2i false = b2i (decide (a ≠ 0 ∧ b ≠ 0))
    simp [h1]
  · rename_i h1
    refine dropX_id (h _ ?_)
    show b2i (!decide (b = 0)) = b2i (decide (a ≠ 0 ∨ b ≠ 0))
    by_cases e : b = 0 <;> simp [e, h1]
  · rename_i h1
    refine dropX_id (h _ ?_)
    show b2i true = b2i (decide (a ≠ 0 ∨ b ≠ 0))
    simp [h1]
theorem w_combine {i : Nat} {op : Str} {a b : Int} {k : D → Os → Prop} {kx : Kx} (hi : SIGNS[i]? = some op) (ha : IsW a) (hb : IsW b) (h : k (.int (valB i a b)) []) : T_combine CS [.str op, .int a, .int b] [] k kx := by
  unfold T_combine fnT
  walk_at "go"
  refine callX_none (w_arith hi ha hb ?_)
  by_cases h5 : i < 5
  · rw [if_pos h5]
    walk_at "go"
    exact dropX_id h
  · rw [if_neg h5]
    walk_at "go"
    refine callX_none (w_bits hi (by omega) ha hb ?_)
    by_cases h10 : i < 10
    · rw [if_pos h10]
      walk_at "go"
      exact dropX_id h
    · rw [if_neg h10]
      walk_at "go"
      refine callX_none (w_truth hi (by omega) ha hb fun z hz => ?_)
      walk_at "go"
      unfold b2i at hz
      rw [hz]
      exact dropX_id h
theorem w_alter {i : Nat} {op : Str} {a : Int} {k : D → Os → Prop} {kx : Kx} (hi : UNS[i]? = some op) (ha : IsW a) (h : k (.int (valU i a)) []) : T_alter CS [.str op, .int a] [] k kx := by
  have hl : i < 3 := (List.getElem?_eq_some_iff.mp hi).1
  obtain ⟨a0, a1⟩ := ha
  have hx : Builtin.bitXor 4294967295 a = 4294967295 - a := by
    rw [bitXor_and, bitAnd_m32', Int.emod_eq_of_lt a0 a1]
    omega
  unfold T_alter fnT
  have hc : i = 0 ∨ i = 1 ∨ i = 2 := by omega
  rcases hc with rfl | rfl | rfl
  all_goals cases hi
  all_goals walk_at "go"
  · exact callX_none (w_wrap (dropX_id h))
  · rw [hx]
    exact dropX_id h
  · exact dropX_id h
theorem nat_or_and (n m : Nat) : n + m = (n ||| m) + (n &&& m) := by
  have h : ∀ k n m : Nat, n + m ≤ k → n + m = (n ||| m) + (n &&& m) := fun k => by
    induction k with
    | zero =>
      intro n m hk
      have h1 : n = 0 := by omega
      have h2 : m = 0 := by omega
      subst h1 h2
      rfl
    | succ k ih =>
      intro n m hk
      by_cases h0 : n + m = 0
      · have h1 : n = 0 := by omega
        have h2 : m = 0 := by omega
        subst h1 h2
        rfl
      · have hh := ih (n / 2) (m / 2) (by omega)
        have e1 : (n ||| m) / 2 = n / 2 ||| m / 2 := Nat.or_div_two
        have e2 : (n &&& m) / 2 = n / 2 &&& m / 2 := Nat.and_div_two
        have e3 : (n ||| m) % 2 + (n &&& m) % 2 = n % 2 + m % 2 := by
          have q1 : (n ||| m) % 2 = n % 2 ||| m % 2 := Nat.or_mod_two_pow (n := 1)
          have q2 : (n &&& m) % 2 = n % 2 &&& m % 2 := Nat.and_mod_two_pow (n := 1)
          rw [q1, q2]
          rcases Nat.mod_two_eq_zero_or_one n with h | h <;> rcases Nat.mod_two_eq_zero_or_one m with h2 | h2 <;> rw [h, h2] <;> rfl
        omega
  exact h _ n m (Nat.le_refl _)
theorem b2i_w (b : Bool) : IsW (b2i b) := by cases b <;> exact ⟨by decide, by decide⟩
theorem bits_w {a b : Int} (ha : IsW a) (hb : IsW b) : IsW (Builtin.bitAnd a b) ∧ IsW (Builtin.bitOr a b) ∧ IsW (Builtin.bitXor a b) := by
  obtain ⟨a0, a1⟩ := ha
  obtain ⟨b0, b1⟩ := hb
  obtain ⟨n, rfl⟩ : ∃ n : Nat, a = n := ⟨a.toNat, by omega⟩
  obtain ⟨m, rfl⟩ : ∃ n : Nat, b = n := ⟨b.toNat, by omega⟩
  have e1 := PySem.W.os_band n m
  have hx := bitXor_and (n : Int) m
  have ho : Builtin.bitOr (n : Int) m = n + m - Builtin.bitAnd (n : Int) m := by
    have h := hx
    simp only [Builtin.bitXor] at h
    omega
  have h1 : n &&& m ≤ n := Nat.and_le_left
  have h2 : n &&& m ≤ m := Nat.and_le_right
  have h3 : n ||| m < 2 ^ 32 := Nat.or_lt_two_pow (by omega) (by omega)
  have h4 : n + m = (n ||| m) + (n &&& m) := nat_or_and n m
  rw [e1] at hx ho
  rw [e1, hx, ho]
  exact ⟨⟨by omega, by omega⟩, ⟨by omega, by omega⟩, ⟨by omega, by omega⟩⟩
theorem valB_w {i : Nat} {a b : Int} (ha : IsW a) (hb : IsW b) : IsW (valB i a b) := by
  have hmod : ∀ x : Int, IsW (x % 4294967296) := fun x => ⟨Int.emod_nonneg _ (by decide), Int.emod_lt_of_pos _ (by decide)⟩
  obtain ⟨h1, h2, h3⟩ := bits_w ha hb
  have ha2 := ha
  have hb2 := hb
  obtain ⟨a0, a1⟩ := ha
  obtain ⟨b0, b1⟩ := hb
  unfold valB
  split
  · exact hmod _
  · exact hmod _
  · exact hmod _
  · split
    · exact ⟨by decide, by decide⟩
    · exact ⟨Int.ediv_nonneg a0 b0, Int.lt_of_le_of_lt (Int.ediv_le_self _ a0) a1⟩
  · split
    · exact ha2
    · exact ⟨Int.emod_nonneg _ (by omega), by have := Int.emod_lt_of_pos a (show 0 < b by omega); omega⟩
  · exact h1
  · exact h2
  · exact h3
  · exact hmod _
  · have hp : (0 : Int) < 2 ^ (b % 32).toNat := Int.pow_pos (by decide)
    exact ⟨Int.ediv_nonneg a0 (by omega), Int.lt_of_le_of_lt (Int.ediv_le_self _ a0) a1⟩
  all_goals exact b2i_w _
theorem valU_w {i : Nat} {a : Int} (ha : IsW a) : IsW (valU i a) := by
  unfold valU
  split
  · exact ⟨Int.emod_nonneg _ (by decide), Int.emod_lt_of_pos _ (by decide)⟩
  · obtain ⟨a0, a1⟩ := ha
    exact ⟨by omega, by omega⟩
  · exact b2i_w _

end

section
variable {CS : Nat → Addr}
/-! the law's own operators -/
def jx (i : Nat) : Nat := if i < 3 then i else if i < 8 then i - 2 else i - 4
theorem dk_two {i : Nat} {op : Str} (hi : SIGNS[i]? = some op) (h : i ≠ 3 ∧ i ≠ 4 ∧ i ≠ 8 ∧ i ≠ 9) (v0 v1 v2 v3 v4 v5 v6 v7 v8 v9 v10 v11 v12 v13 : Int) :
    EV.valD (([.inr "+", .inr "-", .inr "*", .inr "&", .inr "|", .inr "^", .inr "<", .inr "<=", .inr "~<", .inr "~<=", .inr "==", .inr "!=", .inr "and", .inr "or"] : List Key).zip [D.int v0, .int v1, .int v2, .int v3, .int v4, .int v5, .int v6, .int v7, .int v8, .int v9, .int v10, .int v11, .int v12, .int v13]) (.inr op) =
      some (.int ([v0, v1, v2, v3, v4, v5, v6, v7, v8, v9, v10, v11, v12, v13].getD (jx i) 0)) := by
  have hl : i < 18 := (List.getElem?_eq_some_iff.mp hi).1
  have hc : i = 0 ∨ i = 1 ∨ i = 2 ∨ i = 5 ∨ i = 6 ∨ i = 7 ∨ i = 10 ∨ i = 11 ∨ i = 12 ∨ i = 13 ∨ i = 14 ∨ i = 15 ∨ i = 16 ∨ i = 17 := by omega
  rcases hc with rfl | rfl | rfl | rfl | rfl | rfl | rfl | rfl | rfl | rfl | rfl | rfl | rfl | rfl
  all_goals cases hi
  all_goals kernel_rfl
theorem no_two {i : Nat} {op : Str} (hi : SIGNS[i]? = some op) (h : i ≠ 3 ∧ i ≠ 4 ∧ i ≠ 8 ∧ i ≠ 9) : inD (.str op) [.str "/", .str "mod"] = false ∧ op ≠ "<<" ∧ op ≠ ">>" ∧ inD (.str op) [.str "~<", .str "~<="] = decide (i = 12 ∨ i = 13) := by
  have hl : i < 18 := (List.getElem?_eq_some_iff.mp hi).1
  have hc : i = 0 ∨ i = 1 ∨ i = 2 ∨ i = 5 ∨ i = 6 ∨ i = 7 ∨ i = 10 ∨ i = 11 ∨ i = 12 ∨ i = 13 ∨ i = 14 ∨ i = 15 ∨ i = 16 ∨ i = 17 := by omega
  rcases hc with rfl | rfl | rfl | rfl | rfl | rfl | rfl | rfl | rfl | rfl | rfl | rfl | rfl | rfl
  all_goals cases hi
  all_goals exact ⟨by kernel_rfl, by decide +kernel, by decide +kernel, by kernel_rfl⟩
theorem b2i_mod (b : Bool) : b2i b % 4294967296 = b2i b := by cases b <;> rfl
theorem fin_two {i : Nat} {op : Str} {a b L R A O : Int} (hi : SIGNS[i]? = some op) (h : i ≠ 3 ∧ i ≠ 4 ∧ i ≠ 8 ∧ i ≠ 9) (ha : IsW a) (hb : IsW b) (h12 : i = 12 → (L < R ↔ sgW a < sgW b)) (h13 : i = 13 → (L ≤ R ↔ sgW a ≤ sgW b))
    (hA : A = b2i (decide (a ≠ 0 ∧ b ≠ 0))) (hO : O = b2i (decide (a ≠ 0 ∨ b ≠ 0))) :
    ([a + b, a - b, a * b, Builtin.bitAnd a b, Builtin.bitOr a b, Builtin.bitXor a b, (if decide (a < b) = true then 1 else 0), (if decide (a ≤ b) = true then 1 else 0), (if decide (L < R) = true then 1 else 0), (if decide (L ≤ R) = true then 1 else 0), (if decide (a = b) = true then 1 else 0), (if (!decide (a = b)) = true then 1 else 0), A, O].getD (jx i) 0) % 4294967296 = valB i a b := by
  have hl : i < 18 := (List.getElem?_eq_some_iff.mp hi).1
  have hw : ∀ x : Int, IsW x → x % 4294967296 = x := fun x h => Int.emod_eq_of_lt h.1 h.2
  obtain ⟨h1, h2, h3⟩ := bits_w ha hb
  have hc : i = 0 ∨ i = 1 ∨ i = 2 ∨ i = 5 ∨ i = 6 ∨ i = 7 ∨ i = 10 ∨ i = 11 ∨ i = 12 ∨ i = 13 ∨ i = 14 ∨ i = 15 ∨ i = 16 ∨ i = 17 := by omega
  rcases hc with rfl | rfl | rfl | rfl | rfl | rfl | rfl | rfl | rfl | rfl | rfl | rfl | rfl | rfl
  · rfl
  · rfl
  · rfl
  · exact hw _ h1
  · exact hw _ h2
  · exact hw _ h3
  · exact b2i_mod _
  · exact b2i_mod _
  · show b2i (decide (L < R)) % 4294967296 = b2i _
    rw [b2i_mod, decide_eq_decide.mpr (h12 rfl)]
  · show b2i (decide (L ≤ R)) % 4294967296 = b2i _
    rw [b2i_mod, decide_eq_decide.mpr (h13 rfl)]
  · exact b2i_mod _
  · show b2i (!decide (a = b)) % 4294967296 = b2i (decide (a ≠ b))
    rw [b2i_mod]
    by_cases e : a = b <;> simp [e]
  · show A % 4294967296 = _
    rw [hA, b2i_mod]
    rfl
  · show O % 4294967296 = _
    rw [hO, b2i_mod]
    rfl
theorem ao1 {a b : Int} (h : 0 < a) (hb : 0 ≤ b) : (if decide (0 < b) = true then (1 : Int) else 0) = b2i (decide (a ≠ 0 ∧ b ≠ 0)) := by
  have h1 : a ≠ 0 := by omega
  show b2i (decide (0 < b)) = _
  refine congrArg b2i (decide_eq_decide.mpr ⟨fun z => ⟨h1, by omega⟩, fun z => ?_⟩)
  have := z.2
  omega
theorem ao2 {a b : Int} (h : 0 < a) : (if true = true then (1 : Int) else 0) = b2i (decide (a ≠ 0 ∨ b ≠ 0)) := by
  have h1 : a ≠ 0 ∨ b ≠ 0 := .inl (by omega)
  rw [decide_eq_true h1]
  rfl
theorem ao3 {a b : Int} (h : ¬ 0 < a) (ha : 0 ≤ a) : (if false = true then (1 : Int) else 0) = b2i (decide (a ≠ 0 ∧ b ≠ 0)) := by
  have h1 : ¬ (a ≠ 0 ∧ b ≠ 0) := fun z => z.1 (by omega)
  rw [decide_eq_false h1]
  rfl
theorem ao4 {a b : Int} (h : ¬ 0 < a) (ha : 0 ≤ a) (hb : 0 ≤ b) : (if decide (0 < b) = true then (1 : Int) else 0) = b2i (decide (a ≠ 0 ∨ b ≠ 0)) := by
  show b2i (decide (0 < b)) = _
  refine congrArg b2i (decide_eq_decide.mpr ⟨fun z => .inr (by omega), fun z => ?_⟩)
  rcases z with z | z <;> omega
theorem w_two {i : Nat} {op : Str} {a b : Int} {k : D → Os → Prop} {kx : Kx} (hi : SIGNS[i]? = some op) (ha : IsW a) (hb : IsW b) (h : k (.int (valB i a b)) []) : T__law_two CS [.str op, .int a, .int b] [] k kx := by
  have hl : i < 18 := (List.getElem?_eq_some_iff.mp hi).1
  obtain ⟨a0, a1⟩ := ha
  obtain ⟨b0, b1⟩ := hb
  have hm := b31 b
  have hp : EV.PowOk a (b % 32) := ⟨hm.1, by omega, by omega, by omega⟩
  unfold T__law_two fnT
  by_cases hx : i ≠ 3 ∧ i ≠ 4 ∧ i ≠ 8 ∧ i ≠ 9
  · obtain ⟨n1, n2, n3, n4⟩ := no_two hi hx
    walk_at "go"
    any_goals (rename_i q1 _; exact absurd (n1.symm.trans q1) (by decide))
    all_goals
      refine atK_mk 0 rfl ?_
      walk_at "go"
    all_goals
      refine ⟨_, dk_two hi hx _ _ _ _ _ _ _ _ _ _ _ _ _ _, ?_⟩
      walk_at "go"
    all_goals
      rename_i q2 q1 _
      rw [n4] at q2
      rw [fin_two hi hx ⟨a0, a1⟩ ⟨b0, b1⟩]
    all_goals first
      | exact dropX_id h
      | exact ao1 (by assumption) b0
      | exact ao2 (by assumption)
      | exact ao3 (by assumption) a0
      | exact ao4 (by assumption) a0 b0
      | (intro e
         first
         | (exfalso; have := of_decide_eq_false q2; omega)
         | (unfold sgW; split <;> split <;> omega))
  · have hc : i = 3 ∨ i = 4 ∨ i = 8 ∨ i = 9 := by omega
    rcases hc with rfl | rfl | rfl | rfl
    all_goals cases hi
    all_goals walk_at "go"
    all_goals first
      | exact dropX_id h
      | (rename_i hb
         refine dropX_id ?_
         first
         | (have h3 : k (.int (if b = 0 then 0 else a / b)) [] := h
            first | rw [if_pos hb] at h3 | rw [if_neg hb] at h3
            exact h3)
         | (have h3 : k (.int (if b = 0 then a else a % b)) [] := h
            first | rw [if_pos hb] at h3 | rw [if_neg hb] at h3
            exact h3))

end

section
variable {CS : Nat → Addr}
/-! values of expressions -/
def val (V : Str → List Int) : Ex → Int
  | .num n => n
  | .cell s => (V s).getD 0 0
  | .at s i => (V s).getD (val V i % ((V s).length : Nat)).toNat 0
  | .un op a => valU (UNS.idxOf op) (val V a)
  | .bin op a b => valB (SIGNS.idxOf op) (val V a) (val V b)
def ExD (dom : Str → Prop) : Ex → Prop
  | .num n => IsW n
  | .cell s => dom s
  | .at s i => dom s ∧ ExD dom i
  | .un op a => op ∈ UNS ∧ ExD dom a
  | .bin op a b => op ∈ SIGNS ∧ ExD dom a ∧ ExD dom b
def dep : Ex → Nat
  | .num _ => 1
  | .cell _ => 1
  | .at _ i => dep i + 1
  | .un _ a => dep a + 1
  | .bin _ a b => max (dep a) (dep b) + 1
theorem exOk_dep {E : GEnv} : ∀ {e : Ex} {d : Nat}, ExOk E d e → dep e ≤ d
  | _, 0, h => h.elim
  | .num _, d + 1, _ => Nat.succ_le_succ (Nat.zero_le _)
  | .cell _, d + 1, _ => Nat.succ_le_succ (Nat.zero_le _)
  | .at _ i, d + 1, h => Nat.succ_le_succ (exOk_dep h.2)
  | .un _ a, d + 1, h => Nat.succ_le_succ (exOk_dep h.2)
  | .bin _ a b, d + 1, h => by have := exOk_dep h.2.1; have := exOk_dep h.2.2; show max (dep a) (dep b) + 1 ≤ d + 1; omega
theorem exOk_dom {E : GEnv} {dom : Str → Prop} (hc : ∀ c ∈ E.cells, dom c.1) (hl : ∀ s ∈ E.loops, dom s) : ∀ {e : Ex} {d : Nat}, ExOk E d e → ExD dom e
  | _, 0, h => h.elim
  | .num _, d + 1, h => h
  | .cell s, d + 1, h => h.elim (hc _) (hl _)
  | .at s i, d + 1, h => ⟨by obtain ⟨⟨k, _, hk⟩, _⟩ := h; exact hc _ hk, exOk_dom hc hl h.2⟩
  | .un _ a, d + 1, h => ⟨h.1, exOk_dom hc hl h.2⟩
  | .bin _ a b, d + 1, h => ⟨h.1, exOk_dom hc hl h.2.1, exOk_dom hc hl h.2.2⟩
/-- nm holds the rows V, each owned -/
structure NmOk (os : Os) (nm : Addr) (dom : Str → Prop) (V : Str → List Int) : Prop where
  d : ∃ (n : Nat) (kvs : List (Key × D)), os[n]? = some (nm, .dK kvs) ∧ ∀ s, dom s → ∃ (p : Addr) (j : Nat), EV.valD kvs (.inr s) = some (.ref p) ∧ os[j]? = some (p, .lst ((V s).map D.int))
  v : ∀ s, dom s → V s ≠ [] ∧ (V s).length < 1000 ∧ ∀ w ∈ V s, IsW w
theorem getD_w {l : List Int} (h : ∀ w ∈ l, IsW w) (i : Nat) : IsW (l.getD i 0) := by
  rw [List.getD_eq_getElem?_getD]
  cases e : l[i]? with
  | none => exact ⟨by decide, by decide⟩
  | some w => exact h w (List.mem_of_getElem? e)
theorem val_w {dom : Str → Prop} {V : Str → List Int} (hv : ∀ s, dom s → V s ≠ [] ∧ (V s).length < 1000 ∧ ∀ w ∈ V s, IsW w) : ∀ {e : Ex}, ExD dom e → IsW (val V e)
  | .num _, h => h
  | .cell s, h => getD_w (hv s h).2.2 _
  | .at s i, h => getD_w (hv s h.1).2.2 _
  | .un _ a, h => valU_w (val_w hv h.2)
  | .bin _ a b, h => valB_w (val_w hv h.2.1) (val_w hv h.2.2)
theorem mem_ix {l : List Str} {s : Str} (h : s ∈ l) : l[l.idxOf s]? = some s := by
  have hl := List.idxOf_lt_length_of_mem h
  rw [List.getElem?_eq_getElem hl, List.getElem_idxOf hl]
theorem sign_no {op : Str} (h : op ∈ SIGNS) : op ≠ "num" ∧ op ≠ "cell" ∧ op ≠ "at" ∧ inD (.str op) [.str "neg", .str "inv", .str "not"] = false := by
  have : ∀ op ∈ SIGNS, op ≠ "num" ∧ op ≠ "cell" ∧ op ≠ "at" ∧ inD (.str op) [.str "neg", .str "inv", .str "not"] = false := by decide +kernel
  exact this op h
theorem un_no {op : Str} (h : op ∈ UNS) : op ≠ "num" ∧ op ≠ "cell" ∧ op ≠ "at" ∧ inD (.str op) [.str "neg", .str "inv", .str "not"] = true := by
  have : ∀ op ∈ UNS, op ≠ "num" ∧ op ≠ "cell" ∧ op ≠ "at" ∧ inD (.str op) [.str "neg", .str "inv", .str "not"] = true := by decide +kernel
  exact this op h
theorem w_evalN {os : Os} {nm : Addr} {dom : Str → Prop} {V : Str → List Int} (hN : NmOk os nm dom V) : ∀ (n : Nat) {e : Ex} {k : D → Os → Prop} {kx : Kx}, dep e ≤ n → ExD dom e → k (.int (val V e)) os → TS_ev CS n [eD e, .ref nm] os k kx
  | 0, e, _, _, hd, _, _ => by cases e <;> exact absurd hd (by rw [dep]; omega)
  | n + 1, .num x, k, kx, hd, he, h => by
    show B_evaluate CS _ _ _ _ _
    unfold B_evaluate fnT eD
    walk_at "go"
    exact dropX_id h
  | n + 1, .cell s, k, kx, hd, he, h => by
    obtain ⟨m, kvs, hm, hs⟩ := hN.d
    obtain ⟨p, j, h1, h2⟩ := hs s he
    obtain ⟨v0, v1, v2⟩ := hN.v s he
    have hat : atI ((V s).map D.int) 0 = some (.int ((V s).getD 0 0)) := atI_ints (by decide) (by have := List.length_pos_iff.mpr v0; omega)
    show B_evaluate CS _ _ _ _ _
    unfold B_evaluate fnT eD
    walk_at "go"
    exact dropX_id h
  | n + 1, .at s i, k, kx, hd, he, h => by
    obtain ⟨m, kvs, hm, hs⟩ := hN.d
    obtain ⟨p, j, h1, h2⟩ := hs s he.1
    obtain ⟨v0, v1, v2⟩ := hN.v s he.1
    have hl := List.length_pos_iff.mpr v0
    have hz : ((V s).map D.int).length ≤ sizeLine := by rw [List.length_map, sizeLine_eq]; omega
    have hm0 : (0 : Int) < (((V s).map D.int).length : Nat) := by rw [List.length_map]; omega
    have hat : atI ((V s).map D.int) (val V i % (((V s).map D.int).length : Nat)) = some (.int (val V (.at s i))) := by
      rw [List.length_map]
      exact atI_ints (Int.emod_nonneg _ (by omega)) (Int.emod_lt_of_pos _ (by omega))
    rw [dep] at hd
    show B_evaluate CS _ _ _ _ _
    unfold B_evaluate fnT eD
    walk_at "go"
    refine callX_all (w_evalN hN n (by omega) he.2 ?_)
    walk_at "go"
    exact dropX_id h
  | n + 1, .un op a, k, kx, hd, he, h => by
    obtain ⟨u1, u2, u3, u4⟩ := un_no he.1
    rw [dep] at hd
    show B_evaluate CS _ _ _ _ _
    unfold B_evaluate fnT eD
    walk_at "go"
    · refine callX_all (w_evalN hN n (by omega) he.2 ?_)
      walk_at "go"
      exact callX_none (w_alter (mem_ix he.1) (val_w hN.v he.2) (dropX_id h))
    · rename_i hb
      exact absurd (u4.symm.trans hb) (by decide)
  | n + 1, .bin op a b, k, kx, hd, he, h => by
    obtain ⟨u1, u2, u3, u4⟩ := sign_no he.1
    rw [dep] at hd
    show B_evaluate CS _ _ _ _ _
    unfold B_evaluate fnT eD
    walk_at "go"
    · rename_i hb
      exact absurd (u4.symm.trans hb) (by decide)
    · refine callX_all (w_evalN hN n (by omega) he.2.1 ?_)
      walk_at "go"
      refine callX_all (w_evalN hN n (by omega) he.2.2 ?_)
      walk_at "go"
      exact callX_none (w_combine (mem_ix he.1) (val_w hN.v he.2.1) (val_w hN.v he.2.2) (dropX_id h))
theorem dk_un {i : Nat} {op : Str} (hi : UNS[i]? = some op) (v0 v1 v2 : Int) : EV.valD (([.inr "neg", .inr "inv", .inr "not"] : List Key).zip [D.int v0, .int v1, .int v2]) (.inr op) = some (.int ([v0, v1, v2].getD i 0)) := by
  have hl : i < 3 := (List.getElem?_eq_some_iff.mp hi).1
  have hc : i = 0 ∨ i = 1 ∨ i = 2 := by omega
  rcases hc with rfl | rfl | rfl
  all_goals cases hi
  all_goals kernel_rfl
theorem fin_un {i : Nat} {op : Str} (hi : UNS[i]? = some op) (a : Int) : [(0 - a) % 4294967296, 4294967295 - a, if decide (a = 0) = true then 1 else 0].getD i 0 = valU i a := by
  have hl : i < 3 := (List.getElem?_eq_some_iff.mp hi).1
  have hc : i = 0 ∨ i = 1 ∨ i = 2 := by omega
  rcases hc with rfl | rfl | rfl
  · show (0 - a) % 4294967296 = -a % 4294967296
    rw [Int.zero_sub]
  · rfl
  · rfl
theorem w_lvN {os : Os} {nm : Addr} {dom : Str → Prop} {V : Str → List Int} (hN : NmOk os nm dom V) : ∀ (n : Nat) {e : Ex} {k : D → Os → Prop} {kx : Kx}, dep e ≤ n → ExD dom e → k (.int (val V e)) os → TS_lv CS n [eD e, .ref nm] os k kx
  | 0, e, _, _, hd, _, _ => by cases e <;> exact absurd hd (by rw [dep]; omega)
  | n + 1, .num x, k, kx, hd, he, h => by
    show B__law_value CS _ _ _ _ _
    unfold B__law_value fnT eD
    walk_at "go"
    exact dropX_id h
  | n + 1, .cell s, k, kx, hd, he, h => by
    obtain ⟨m, kvs, hm, hs⟩ := hN.d
    obtain ⟨p, j, h1, h2⟩ := hs s he
    obtain ⟨v0, v1, v2⟩ := hN.v s he
    have hat : atI ((V s).map D.int) 0 = some (.int ((V s).getD 0 0)) := atI_ints (by decide) (by have := List.length_pos_iff.mpr v0; omega)
    show B__law_value CS _ _ _ _ _
    unfold B__law_value fnT eD
    walk_at "go"
    exact dropX_id h
  | n + 1, .at s i, k, kx, hd, he, h => by
    obtain ⟨m, kvs, hm, hs⟩ := hN.d
    obtain ⟨p, j, h1, h2⟩ := hs s he.1
    obtain ⟨v0, v1, v2⟩ := hN.v s he.1
    have hl := List.length_pos_iff.mpr v0
    have hz : ((V s).map D.int).length ≤ sizeLine := by rw [List.length_map, sizeLine_eq]; omega
    have hm0 : (0 : Int) < (((V s).map D.int).length : Nat) := by rw [List.length_map]; omega
    have hat : atI ((V s).map D.int) (val V i % (((V s).map D.int).length : Nat)) = some (.int (val V (.at s i))) := by
      rw [List.length_map]
      exact atI_ints (Int.emod_nonneg _ (by omega)) (Int.emod_lt_of_pos _ (by omega))
    rw [dep] at hd
    show B__law_value CS _ _ _ _ _
    unfold B__law_value fnT eD
    walk_at "go"
    refine callX_all (w_lvN hN n (by omega) he.2 ?_)
    walk_at "go"
    exact dropX_id h
  | n + 1, .un op a, k, kx, hd, he, h => by
    obtain ⟨u1, u2, u3, u4⟩ := un_no he.1
    rw [dep] at hd
    show B__law_value CS _ _ _ _ _
    unfold B__law_value fnT eD
    walk_at "go"
    refine callX_all (w_lvN hN n (by omega) he.2 ?_)
    walk_at "go"
    · refine atK_mk 0 rfl ?_
      walk_at "go"
      refine ⟨_, dk_un (mem_ix he.1) _ _ _, ?_⟩
      rw [fin_un (mem_ix he.1)]
      walk_at "go"
      exact dropX_id h
    · rename_i hb
      exact absurd (u4.symm.trans hb) (by decide)
  | n + 1, .bin op a b, k, kx, hd, he, h => by
    obtain ⟨u1, u2, u3, u4⟩ := sign_no he.1
    rw [dep] at hd
    show B__law_value CS _ _ _ _ _
    unfold B__law_value fnT eD
    walk_at "go"
    refine callX_all (w_lvN hN n (by omega) he.2.1 ?_)
    walk_at "go"
    · rename_i hb _
      exact absurd (u4.symm.trans hb) (by decide)
    · refine callX_all (w_lvN hN n (by omega) he.2.2 ?_)
      walk_at "go"
      exact callX_none (w_two (mem_ix he.1) (val_w hN.v he.2.1) (val_w hN.v he.2.2) (dropX_id h))

end

section
/-! sizes of texts that repr gives -/
structure Sh (d : D) (n N : Nat) : Prop where
  s : shp d n = true
  o : shwOk d = true
  b : shwN d ≤ N
structure ShA (ds : List D) (n N : Nat) : Prop where
  s : shpA ds n = true
  o : shwOkA ds = true
  b : shwNA ds ≤ N
def sOk (s : Str) : Bool := decide (s.length ≤ 20) && s.cps.toList.all fun c => decide (c < 65536)
mutual
theorem shp_mono : ∀ {d : D} {n n2 : Nat}, n ≤ n2 → shp d n = true → shp d n2 = true
  | .non, _, _, _, _ => by simp [shp]
  | .bl _, _, _, _, _ => by simp [shp]
  | .int _, _, _, _, _ => by simp [shp]
  | .str x, _, _, _, h => h
  | .tup ds, n, n2, hn, h => by
    rw [shp, Bool.and_eq_true, decide_eq_true_iff] at h ⊢
    exact ⟨by omega, shpA_mono (by omega) h.2⟩
  | .lst ds, n, n2, hn, h => by
    rw [shp, Bool.and_eq_true, decide_eq_true_iff] at h ⊢
    exact ⟨by omega, shpA_mono (by omega) h.2⟩
theorem shpA_mono : ∀ {ds : List D} {n n2 : Nat}, n ≤ n2 → shpA ds n = true → shpA ds n2 = true
  | [], _, _, _, _ => by simp [shpA]
  | d :: ds, n, n2, hn, h => by
    rw [shpA, Bool.and_eq_true] at h ⊢
    exact ⟨shp_mono hn h.1, shpA_mono hn h.2⟩
end
theorem Sh.mono {d : D} {n n2 N N2 : Nat} (h : Sh d n N) (hn : n ≤ n2) (hN : N ≤ N2) : Sh d n2 N2 := ⟨shp_mono hn h.s, h.o, Nat.le_trans h.b hN⟩
theorem ShA.mono {d : List D} {n n2 N N2 : Nat} (h : ShA d n N) (hn : n ≤ n2) (hN : N ≤ N2) : ShA d n2 N2 := ⟨shpA_mono hn h.s, h.o, Nat.le_trans h.b hN⟩
theorem Sh.non (n : Nat) : Sh .non n 5 := ⟨by simp [shp], by simp [shwOk], by simp [shwN]⟩
theorem Sh.int {i : Int} (n : Nat) (h0 : -1000000000000 < i) (h1 : i < 1000000000000) : Sh (.int i) n 45 := ⟨by simp [shp], by rw [shwOk, decide_eq_true_iff]; omega, by simp [shwN]⟩
theorem Sh.str {x : Str} (n : Nat) (h : sOk x = true) : Sh (.str x) n 202 := by
  unfold sOk at h
  rw [Bool.and_eq_true, decide_eq_true_iff, List.all_eq_true] at h
  refine ⟨?_, ?_, ?_⟩
  · show (x.cps.all (· < 0x110000)) = true
    rw [← Array.all_toList, List.all_eq_true]
    exact fun c hc => decide_eq_true (Nat.lt_of_lt_of_le (of_decide_eq_true (h.2 c hc)) (by decide))
  · rw [shwOk, List.all_eq_true]
    exact h.2
  · rw [shwN]
    omega
theorem ShA.nil (n : Nat) : ShA [] n 0 := ⟨by simp [shpA], by simp [shwOkA], by simp [shwNA]⟩
theorem ShA.cons {d : D} {ds : List D} {n M N : Nat} (h : Sh d n M) (g : ShA ds n N) : ShA (d :: ds) n (M + 2 + N) := by
  refine ⟨by rw [shpA, h.s, g.s]; rfl, by rw [shwOkA, h.o, g.o]; rfl, ?_⟩
  rw [shwNA]
  have := h.b
  have := g.b
  omega
theorem ShA.all {ds : List D} {n M k : Nat} (h : ∀ d ∈ ds, Sh d n M) (hk : ds.length ≤ k) : ShA ds n (k * (M + 2)) := by
  have key : ∀ ds : List D, (∀ d ∈ ds, Sh d n M) → ShA ds n (ds.length * (M + 2)) := fun ds => by
    induction ds with
    | nil => intro _; exact (ShA.nil n).mono (Nat.le_refl _) (Nat.zero_le _)
    | cons d ds ih =>
      intro h
      refine (ShA.cons (h d List.mem_cons_self) (ih fun x hx => h x (List.mem_cons_of_mem _ hx))).mono (Nat.le_refl _) ?_
      rw [List.length_cons, Nat.add_mul, Nat.one_mul]
      omega
  exact (key ds h).mono (Nat.le_refl _) (Nat.mul_le_mul_right _ hk)
theorem ShA.map {α : Type} {f : α → D} {xs : List α} {n M k : Nat} (h : ∀ x ∈ xs, Sh (f x) n M) (hk : xs.length ≤ k) : ShA (xs.map f) n (k * (M + 2)) :=
  ShA.all (fun d hd => by obtain ⟨x, hx, rfl⟩ := List.mem_map.mp hd; exact h x hx) (by rw [List.length_map]; exact hk)
theorem Sh.tup {ds : List D} {n N : Nat} (h : ShA ds n N) : Sh (.tup ds) (n + 1) (5 + N) := ⟨by rw [shp, Nat.add_sub_cancel, h.s, Bool.and_true]; exact decide_eq_true (Nat.succ_pos _), by rw [shwOk]; exact h.o, by rw [shwN]; have := h.b; omega⟩
theorem Sh.lst {ds : List D} {n N : Nat} (h : ShA ds n N) : Sh (.lst ds) (n + 1) (5 + N) := ⟨by rw [shp, Nat.add_sub_cancel, h.s, Bool.and_true]; exact decide_eq_true (Nat.succ_pos _), by rw [shwOk]; exact h.o, by rw [shwN]; have := h.b; omega⟩
theorem cRepr_sh {d : D} {n N : Nat} {os : Os} {k : D → Os → Prop} (h : Sh d n N) (hn : n ≤ 60) (hN : N ≤ 16000000) (ht : isTL d = true) (q : k (.str (toP d).shown) os) : cRepr [d] os k :=
  cRepr_of (shp_mono hn h.s) h.o ht (Nat.le_trans h.b (by rw [sizeLine_eq]; omega)) q

end

section
variable {CS : Nat → Addr}
/-! rows by names -/
abbrev RW3 := Str × Addr × List Int
def rowO (r : RW3) : Addr × OO := (r.2.1, .lst (r.2.2.map D.int))
def kvO (r : RW3) : Key × D := (.inr r.1, .ref r.2.1)
def vOfR (R : List RW3) (s : Str) : List Int := ((R.find? fun r => decide (r.1 = s)).map (·.2.2)).getD []
theorem valD_kvO {s : Str} : ∀ {R : List RW3}, s ∈ R.map (·.1) → ∃ r ∈ R, EV.valD (R.map kvO) (.inr s) = some (.ref r.2.1) ∧ vOfR R s = r.2.2
  | [], h => nomatch h
  | r :: R, h => by
    by_cases e : r.1 = s
    · refine ⟨r, List.mem_cons_self, ?_, ?_⟩
      · rw [List.map_cons]
        unfold kvO EV.valD
        simp [e]
      · unfold vOfR
        rw [List.find?_cons_of_pos (by simp [e])]
        rfl
    · have h2 : s ∈ R.map (·.1) := by
        rw [List.map_cons] at h
        exact (List.mem_cons.mp h).resolve_left fun z => e z.symm
      obtain ⟨x, hx, h3, h4⟩ := valD_kvO h2
      refine ⟨x, List.mem_cons_of_mem _ hx, ?_, ?_⟩
      · rw [List.map_cons, ← h3]
        show EV.valD ((Sum.inr r.1, D.ref r.2.1) :: R.map kvO) (.inr s) = _
        conv => lhs; unfold EV.valD
        simp [e]
      · rw [← h4]
        unfold vOfR
        rw [List.find?_cons_of_neg (by simp [e])]
theorem valD_no {s : Str} : ∀ {R : List RW3}, s ∉ R.map (·.1) → EV.valD (R.map kvO) (.inr s) = none
  | [], _ => rfl
  | r :: R, h => by
    rw [List.map_cons, List.mem_cons, not_or] at h
    have e : ¬ r.1 = s := fun z => h.1 z.symm
    rw [List.map_cons, ← valD_no h.2]
    show EV.valD ((Sum.inr r.1, D.ref r.2.1) :: R.map kvO) (.inr s) = _
    conv => lhs; unfold EV.valD
    simp [e]
structure ROk (R : List RW3) : Prop where
  v : ∀ r ∈ R, r.2.2 ≠ [] ∧ r.2.2.length < 1000 ∧ ∀ w ∈ r.2.2, IsW w
theorem nm_of {R : List RW3} {A B os : Os} {nm : Addr} (h : ROk R) (hp : ∀ r ∈ R, rowO r ∈ A) (e : os = A ++ (nm, .dK (R.map kvO)) :: B) : NmOk os nm (fun s => s ∈ R.map (·.1)) (vOfR R) := by
  refine ⟨⟨A.length, R.map kvO, by rw [e, List.getElem?_append_right (Nat.le_refl _), Nat.sub_self]; rfl, fun s hs => ?_⟩, fun s hs => ?_⟩
  · obtain ⟨r, hr, h1, h2⟩ := valD_kvO hs
    obtain ⟨j, hj⟩ := List.mem_iff_getElem?.mp (hp r hr)
    refine ⟨r.2.1, j, h1, ?_⟩
    rw [e, List.getElem?_append_left (List.getElem?_eq_some_iff.mp hj).1, hj, h2]
    rfl
  · obtain ⟨r, hr, h1, h2⟩ := valD_kvO hs
    rw [h2]
    exact h.v r hr
/-! its text -/
def pdR (r : RW3) : PyData × PyData := (.str r.1, .list (r.2.2.map PyData.int))
theorem asPs_ints (os : Os) : ∀ ns : List Int, AsPs os (ns.map D.int) (ns.map PyData.int)
  | [] => .nil
  | n :: ns => .cons (.int n) (asPs_ints os ns)
theorem asPk_R {os : Os} : ∀ {R : List RW3}, (∀ r ∈ R, ∃ j : Nat, os[j]? = some (rowO r)) → AsPk os (R.map kvO) (R.map pdR)
  | [], _ => .nil
  | r :: R, h => by
    obtain ⟨j, hj⟩ := h r List.mem_cons_self
    exact .str (.own hj (asPs_ints os _)) (asPk_R fun x hx => h x (List.mem_cons_of_mem _ hx))
theorem ints_tx : ∀ {ns : List Int}, (∀ n ∈ ns, IsW n) → PyData.showableAll (ns.map PyData.int) = true ∧ PyData.depthAll (ns.map PyData.int) ≤ 1 ∧ ((PyData.shownAll (ns.map PyData.int)).map (·.length)).sum ≤ 45 * ns.length ∧ (PyData.shownAll (ns.map PyData.int)).length = ns.length
  | [], _ => ⟨by simp [PyData.showableAll], by simp [PyData.depthAll], by simp [PyData.shownAll], by simp [PyData.shownAll]⟩
  | n :: ns, h => by
    obtain ⟨h1, h2, h3, h4⟩ := ints_tx fun x hx => h x (List.mem_cons_of_mem _ hx)
    obtain ⟨a0, a1⟩ := h n List.mem_cons_self
    obtain ⟨g1, g2⟩ := int_shw (i := n) ⟨by omega, by omega⟩
    rw [List.map_cons, PyData.showableAll, PyData.depthAll, PyData.shownAll, List.map_cons, List.sum_cons, List.length_cons, List.length_cons, g1, h1, h4]
    exact ⟨rfl, by rw [PyData.depth]; omega, by omega, rfl⟩
theorem dict_tx : ∀ {R : List RW3}, ROk R → (∀ r ∈ R, sOk r.1 = true) → PyData.showableKv (R.map pdR) = true ∧ PyData.depthKv (R.map pdR) ≤ 5 ∧ ((PyData.shownKv (R.map pdR)).map (·.length)).sum ≤ 100000 * R.length ∧ (PyData.shownKv (R.map pdR)).length = R.length
  | [], _, _ => ⟨by simp [PyData.showableKv], by simp [PyData.depthKv], by simp [PyData.shownKv], by simp [PyData.shownKv]⟩
  | r :: R, h, hs => by
    obtain ⟨h1, h2, h3, h4⟩ := dict_tx ⟨fun x hx => h.v x (List.mem_cons_of_mem _ hx)⟩ fun x hx => hs x (List.mem_cons_of_mem _ hx)
    obtain ⟨v0, v1, v2⟩ := h.v r List.mem_cons_self
    obtain ⟨g1, g2, g3, g4⟩ := ints_tx v2
    have gs := (Sh.str (x := r.1) 1 (hs r List.mem_cons_self))
    obtain ⟨s1, s2⟩ := shw_of gs.o
    have s2 := Nat.le_trans s2 gs.b
    rw [toP] at s1 s2
    have gl := listText_len_le (PyData.shownAll (r.2.2.map PyData.int))
    rw [List.map_cons]
    show PyData.showableKv ((.str r.1, .list (r.2.2.map PyData.int)) :: R.map pdR) = true ∧ PyData.depthKv ((.str r.1, .list (r.2.2.map PyData.int)) :: R.map pdR) ≤ 5 ∧ ((PyData.shownKv ((.str r.1, .list (r.2.2.map PyData.int)) :: R.map pdR)).map (·.length)).sum ≤ _ ∧ (PyData.shownKv ((.str r.1, .list (r.2.2.map PyData.int)) :: R.map pdR)).length = _
    rw [PyData.showableKv, PyData.depthKv, PyData.shownKv, List.map_cons, List.sum_cons, List.length_cons, List.length_cons, s1, h1, h4]
    refine ⟨by rw [PyData.showable, g1]; rfl, by rw [PyData.depth, PyData.depth]; omega, ?_, rfl⟩
    have e : (PyData.shown (.str r.1) ++ ": " ++ PyData.shown (.list (r.2.2.map PyData.int))).length = (PyData.shown (.str r.1)).length + 2 + (PyData.shown (.list (r.2.2.map PyData.int))).length := by
      rw [strLen_append, strLen_append]
      rfl
    rw [e]
    have e2 : PyData.shown (.list (r.2.2.map PyData.int)) = listText (PyData.shownAll (r.2.2.map PyData.int)) := by rw [PyData.shown]
    rw [e2]
    omega

end

section
variable {CS : Nat → Addr}
/-! the law -/
def cell4 (m : Int) : List (Str × Int) := [(("first" : Str), 0), (("row" : Str), m), (("x" : Str), 0), (("y" : Str), 2)]
theorem cell4_ok : ∀ s ∈ ([("first" : Str), "row", "x", "y"] : List Str), sOk s = true := by decide +kernel
theorem cell4_nd : ([("first" : Str), "row", "x", "y"] : List Str).Nodup := by decide +kernel
theorem callX_keepM {T : FT} {ws : List D} {l : Os} {a : Addr × OO} {os : Os} {k : D → Os → Prop} {kx : Kx} (q : T ws os (fun w o => k w (l ++ a :: o)) (fun y o => kx y (l ++ a :: o))) : callX T ws (l ++ a :: os) k kx := by
  have e : ∀ o : Os, l ++ a :: o = (l ++ [a]) ++ o := fun o => by rw [List.append_assoc]; rfl
  rw [e]
  refine callX_keep (l ++ [a]) ?_
  simp only [← e]
  exact q
theorem law_true {CS : Nat → Addr} (ns : List Int) (hn : ns.length ≤ 63) : T_law CS [.lst (ns.map D.int)] [] (fun w _ => w = .bl true) (fun _ _ => False) := by
  unfold T_law fnT
  walk_at "go"
  refine callX_all (w_stateQ hn fun p q o hS => ?_)
  walk_at "go"
  refine callX_all (w_drawQ (by decide) (by decide) hS fun m0 o1 h0 h1 hS => ?_)
  walk_at "go"
  rename_i nm
  have hC : ∀ c ∈ cell4 (1 + m0), 0 ≤ c.2 ∧ c.2 ≤ 64 := fun c hc => by
    simp only [cell4, List.mem_cons, List.not_mem_nil, or_false] at hc
    rcases hc with rfl | rfl | rfl | rfl
    · exact ⟨by decide, by decide⟩
    · exact ⟨by show 0 ≤ 1 + m0; omega, by show 1 + m0 ≤ 64; omega⟩
    · exact ⟨by decide, by decide⟩
    · exact ⟨by decide, by decide⟩
  have hCn : (cell4 (1 + m0)).map (·.1) = [("first" : Str), "row", "x", "y"] := rfl
  have hCl : (cell4 (1 + m0)).length = 4 := rfl
  have hCD : [D.tup [D.str (Str.ofString "first"), D.int 0], D.tup [D.str (Str.ofString "row"), D.int (1 + m0)], D.tup [D.str (Str.ofString "x"), D.int 0], D.tup [D.str (Str.ofString "y"), D.int 2]] = (cell4 (1 + m0)).map cellD := rfl
  rw [hCD]
  refine forX_inv (fun i en o => ∃ (R : List RW3) (y4 y5 : Option D) (o' : Os), en = [some (.lst (ns.map D.int)), some (.ref p), some (.lst ((cell4 (1 + m0)).map cellD)), some (.ref nm), y4, y5, none, none, none, none, none] ∧ o = R.reverse.map rowO ++ (nm, .dK (R.map kvO)) :: o' ∧ DQ p q o' ∧ R.map (·.1) = ((cell4 (1 + m0)).take i).map (·.1) ∧ ROk R)
    ⟨[], _, _, o1, rfl, rfl, hS, rfl, ⟨by intro r hr; cases hr⟩⟩ ?_ ?_ (fun _ _ _ _ => trivial)
  · rintro i w en o N hw ⟨R, y4, y5, o', rfl, rfl, hS, hR, hok⟩ hN
    rw [List.getElem?_map] at hw
    obtain ⟨c, hc, rfl⟩ := Option.map_eq_some_iff.mp hw
    obtain ⟨c0, c1⟩ := hC c (List.mem_of_getElem? hc)
    have hi : i < 4 := by have := (List.getElem?_eq_some_iff.mp hc).1; rw [hCl] at this; exact this
    have hRl : R.length = i := by
      have := congrArg List.length hR
      rw [List.length_map, List.length_map, List.length_take, hCl] at this
      omega
    have hnew : c.1 ∉ R.map (·.1) := by
      rw [hR]
      intro z
      have hnd : ((cell4 (1 + m0)).map (·.1)).Nodup := by rw [hCn]; exact cell4_nd
      obtain ⟨x, hx, e⟩ := List.mem_map.mp z
      obtain ⟨j, hj⟩ := List.mem_iff_getElem?.mp hx
      have hji : j < i := by have := (List.getElem?_eq_some_iff.mp hj).1; rw [List.length_take] at this; omega
      rw [List.getElem?_take_of_lt hji] at hj
      have e1 : ((cell4 (1 + m0)).map (·.1))[j]? = some c.1 := by rw [List.getElem?_map, hj, ← e]; rfl
      have e2 : ((cell4 (1 + m0)).map (·.1))[i]? = some c.1 := by rw [List.getElem?_map, hc]; rfl
      have := (List.getElem?_inj (by rw [List.length_map, hCl]; omega) hnd).mp (e1.trans e2.symm)
      omega
    rw [show cellD c = .tup [.str c.1, .int c.2] from rfl]
    walk_at "go"
    refine lcX_inv (fun j acc o => ∃ (ws : List Int) (o' : Os), acc = ws.map D.int ∧ o = R.reverse.map rowO ++ (nm, .dK (R.map kvO)) :: o' ∧ DQ p q o' ∧ ws.length = j ∧ ∀ w ∈ ws, IsW w) ⟨[], o', rfl, rfl, hS, rfl, by intro w hw; cases hw⟩ ?_ ?_ (fun _ _ _ _ => trivial)
    · rintro j w acc o M hw ⟨ws, o2, rfl, rfl, hS, hl, hws⟩ hM
      walk_at "go"
      refine callX_keepM (w_word hS fun x o3 h0 h1 hS => ?_)
      refine hM _ _ _ (.refl _) ⟨ws ++ [x], o3, by rw [List.map_append]; rfl, rfl, hS, by rw [List.length_append, hl]; rfl, fun y hy => ?_⟩
      rcases List.mem_append.mp hy with hy | hy
      · exact hws y hy
      · rcases List.mem_singleton.mp hy with rfl
        exact ⟨h0, h1⟩
    · rintro acc o ⟨ws, o2, rfl, rfl, hS, hl, hws⟩
      rw [rng_len] at hl
      have hwl : 1 ≤ ws.length ∧ ws.length ≤ 64 := by
        rw [hl]
        split <;> omega
      have hkl : (R.map kvO).length < sizeLine := by rw [List.length_map, sizeLine_eq]; omega
      have hpos : ∀ x : Addr, ((x, OO.lst (ws.map D.int)) :: (R.reverse.map rowO ++ (nm, OO.dK (R.map kvO)) :: o2))[(R.reverse.map rowO).length + 1]? = some (nm, OO.dK (R.map kvO)) := fun x => by
        rw [List.getElem?_cons_succ, List.getElem?_append_right (Nat.le_refl _), Nat.sub_self]
        rfl
      walk_at "go"
      rename_i x
      refine ⟨_, _, hpos x, hkl, ?_⟩
      have e1 : EV.putD (R.map kvO) (.inr c.1) (.ref x) = (R ++ [(c.1, x, ws)]).map kvO := by
        unfold EV.putD
        rw [valD_no hnew, List.map_append]
        rfl
      rw [e1, List.set_cons_succ, List.set_append_right _ _ (Nat.le_refl _), Nat.sub_self]
      refine hN _ _ _ (.refl _) ⟨R ++ [(c.1, x, ws)], _, _, o2, rfl, ?_, hS, ?_, ⟨fun r hr => ?_⟩⟩
      · rw [List.reverse_append]
        rfl
      · rw [List.map_append, hR, List.take_add_one, hc, List.map_append]
        rfl
      · rcases List.mem_append.mp hr with hr | hr
        · exact hok.v r hr
        · rcases List.mem_singleton.mp hr with rfl
          exact ⟨fun z => by have z2 : ws = [] := z; rw [z2] at hwl; exact absurd hwl.1 (by decide), by show ws.length < 1000; omega, hws⟩
  · rintro en o ⟨R, y4, y5, o', rfl, rfl, hS, hR, hok⟩
    rw [List.length_map, List.take_length, hCn] at hR
    have hRl : R.length = 4 := by
      have := congrArg List.length hR
      rw [List.length_map] at this
      exact this
    have hsk : ∀ r ∈ R, sOk r.1 = true := fun r hr => cell4_ok _ (by rw [← hR]; exact List.mem_map.mpr ⟨r, hr, rfl⟩)
    have hrow : ∀ r ∈ R, rowO r ∈ R.reverse.map rowO := fun r hr => List.mem_map.mpr ⟨r, List.mem_reverse.mpr hr, rfl⟩
    have hAsP : ∀ o : Os, AsP (R.reverse.map rowO ++ (nm, .dK (R.map kvO)) :: o) (.ref nm) (.dict (R.map pdR)) := fun o => by
      refine .ownK (n := (R.reverse.map rowO).length) (by rw [List.getElem?_append_right (Nat.le_refl _), Nat.sub_self]; rfl) (asPk_R fun r hr => ?_)
      obtain ⟨j, hj⟩ := List.mem_iff_getElem?.mp (hrow r hr)
      exact ⟨j, by rw [List.getElem?_append_left (List.getElem?_eq_some_iff.mp hj).1]; exact hj⟩
    obtain ⟨d1, d2, d3, d4⟩ := dict_tx hok hsk
    have hq1 : isSeqP (PyData.dict (R.map pdR)) = true := rfl
    have hq2 : (PyData.dict (R.map pdR)).showable = true := by rw [PyData.showable]; exact d1
    have hq3 : (PyData.dict (R.map pdR)).depth ≤ 60 := by rw [PyData.depth]; omega
    have hq4 : (PyData.dict (R.map pdR)).shown.length ≤ sizeLine := by
      rw [PyData.shown, sizeLine_eq]
      have := dictText_len_le (PyData.shownKv (R.map pdR))
      rw [hRl] at d3
      omega
    generalize PyData.dict (R.map pdR) = PD at hAsP hq1 hq2 hq3 hq4
    have hE : GE ⟨cell4 (1 + m0), [], [], [], 0⟩ := ⟨by show 4 < 1000; decide, (by show ([] : List Str).length + (0 : Int).toNat < 1000; decide), (by show ([] : List (Str × Str)).length < 1000; decide), (by show ([] : List (Str × Str × Int)).length < 1000; decide), (by intro c hc; cases hc), by intro z; cases z⟩
    walk_at "go"
    refine ⟨PD, hAsP _, hq1, hq2, hq3, hq4, ?_⟩
    walk_at "go"
    refine forX_inv (fun i en o => ∃ (y7 y8 y9 y10 : Option D) (o' : Os), en = [some (.lst (ns.map D.int)), some (.ref p), some (.lst ((cell4 (1 + m0)).map cellD)), some (.ref nm), y4, y5, some (.str PD.shown), y7, y8, y9, y10] ∧ o = R.reverse.map rowO ++ (nm, .dK (R.map kvO)) :: o' ∧ DQ p q o') ⟨_, _, _, _, o', rfl, rfl, hS⟩ ?_ ?_ (fun _ _ _ _ => trivial)
    · rintro i w en o N hw ⟨y7, y8, y9, y10, o2, rfl, rfl, hS⟩ hN
      walk_at "go"
      refine callX_keepM (w_drawQ (by decide) (by decide) hS fun d o3 t0 t1 hS => ?_)
      obtain ⟨d, rfl⟩ : ∃ n : Nat, d = n := ⟨d.toNat, by omega⟩
      walk_at "go"
      rw [show (1 : Int) + (d : Int) = ((d + 1 : Nat) : Int) by omega]
      refine callX_keepM (w_exprN 8 (E := ⟨cell4 (1 + m0), [], [], [], 0⟩) (d := d) (by omega) hE hS fun e o4 he hS => ?_)
      have hNm := nm_of (nm := nm) (B := o4) hok hrow rfl
      have heD : ExD (fun s => s ∈ R.map (·.1)) e := exOk_dom (E := ⟨cell4 (1 + m0), [], [], [], 0⟩) (fun c hc => by rw [hR, ← hCn]; exact List.mem_map.mpr ⟨c, hc, rfl⟩) (fun s hs => nomatch hs) he
      have hdp : dep e ≤ 8 := Nat.le_trans (exOk_dep he) (by omega)
      walk_at "go"
      refine callX_all (w_lvN hNm 8 hdp heD ?_)
      walk_at "go"
      refine callX_all (w_evalN hNm 8 hdp heD ?_)
      walk_at "go"
      exact hN _ _ _ (.refl _) ⟨_, _, _, _, o4, rfl, rfl, hS⟩
    · rintro en o ⟨y7, y8, y9, y10, o2, rfl, rfl, hS⟩
      walk_at "go"
      refine ⟨PD, hAsP _, hq1, hq2, hq3, hq4, ?_⟩
      walk_at "go"
      rw [decide_eq_true rfl]
      exact dropX_id rfl

end
/-- the law, whatever the classes are called -/
def LawT : FT := fun ws os k kx => ∀ CS : Nat → Addr, T_law CS ws os k kx
theorem all_mk {l : PySem.W.OpenLaw} {w : World} {K : PySem.W.Frag} {h : Heap} {mg : Str → Option Value} {fa : Addr} (X : K.In h) (G : h.Ns mainGlobals mg) (hfa : mg "law" = some (.ref fa))
    {t_MODULUS : Tok}
    {t_SIGN : Tok}
    {t_MASK : Tok}
    {f__law_state : Addr} {od__law_state an__law_state : Option Addr} {sl__law_state : Array (Option Value)} {oc__law_state kV__law_state dc__law_state pm__law_state cd__law_state ct__law_state : Value}
    {f__law_draw : Addr} {od__law_draw an__law_draw : Option Addr} {sl__law_draw : Array (Option Value)} {oc__law_draw kV__law_draw dc__law_draw pm__law_draw cd__law_draw ct__law_draw : Value}
    {f__law_pick : Addr} {od__law_pick an__law_pick : Option Addr} {sl__law_pick : Array (Option Value)} {oc__law_pick kV__law_pick dc__law_pick pm__law_pick cd__law_pick ct__law_pick : Value}
    {f__law_word : Addr} {od__law_word an__law_word : Option Addr} {sl__law_word : Array (Option Value)} {oc__law_word kV__law_word dc__law_word pm__law_word cd__law_word ct__law_word : Value}
    {f__law_expr : Addr} {od__law_expr an__law_expr : Option Addr} {sl__law_expr : Array (Option Value)} {oc__law_expr kV__law_expr dc__law_expr pm__law_expr cd__law_expr ct__law_expr : Value}
    {f__law_two : Addr} {od__law_two an__law_two : Option Addr} {sl__law_two : Array (Option Value)} {oc__law_two kV__law_two dc__law_two pm__law_two cd__law_two ct__law_two : Value}
    {f__law_value : Addr} {od__law_value an__law_value : Option Addr} {sl__law_value : Array (Option Value)} {oc__law_value kV__law_value dc__law_value pm__law_value cd__law_value ct__law_value : Value}
    {f_wrap : Addr} {od_wrap an_wrap : Option Addr} {sl_wrap : Array (Option Value)} {oc_wrap kV_wrap dc_wrap pm_wrap cd_wrap ct_wrap : Value}
    {f__arithmetic : Addr} {od__arithmetic an__arithmetic : Option Addr} {sl__arithmetic : Array (Option Value)} {oc__arithmetic kV__arithmetic dc__arithmetic pm__arithmetic cd__arithmetic ct__arithmetic : Value}
    {f__bits : Addr} {od__bits an__bits : Option Addr} {sl__bits : Array (Option Value)} {oc__bits kV__bits dc__bits pm__bits cd__bits ct__bits : Value}
    {f_signed : Addr} {od_signed an_signed : Option Addr} {sl_signed : Array (Option Value)} {oc_signed kV_signed dc_signed pm_signed cd_signed ct_signed : Value}
    {f__truth : Addr} {od__truth an__truth : Option Addr} {sl__truth : Array (Option Value)} {oc__truth kV__truth dc__truth pm__truth cd__truth ct__truth : Value}
    {f_combine : Addr} {od_combine an_combine : Option Addr} {sl_combine : Array (Option Value)} {oc_combine kV_combine dc_combine pm_combine cd_combine ct_combine : Value}
    {f_alter : Addr} {od_alter an_alter : Option Addr} {sl_alter : Array (Option Value)} {oc_alter kV_alter dc_alter pm_alter cd_alter ct_alter : Value}
    {f_evaluate : Addr} {od_evaluate an_evaluate : Option Addr} {sl_evaluate : Array (Option Value)} {oc_evaluate kV_evaluate dc_evaluate pm_evaluate cd_evaluate ct_evaluate : Value}
    {f_law : Addr} {od_law an_law : Option Addr} {sl_law : Array (Option Value)} {oc_law kV_law dc_law pm_law cd_law ct_law : Value}
    (m_MODULUS : PySem.W.nsIn K mainGlobals "MODULUS" = some (some (.int 4294967296 t_MODULUS)))
    (m_SIGN : PySem.W.nsIn K mainGlobals "SIGN" = some (some (.int 2147483648 t_SIGN)))
    (m_MASK : PySem.W.nsIn K mainGlobals "MASK" = some (some (.int 4294967295 t_MASK)))
    (z_int : PySem.W.nsIn K mainGlobals "int" = some none)
    (z_abs : PySem.W.nsIn K mainGlobals "abs" = some none)
    (z_len : PySem.W.nsIn K mainGlobals "len" = some none)
    (z_range : PySem.W.nsIn K mainGlobals "range" = some none)
    (z_max : PySem.W.nsIn K mainGlobals "max" = some none)
    (z_repr : PySem.W.nsIn K mainGlobals "repr" = some none)
    (z_isinstance : PySem.W.nsIn K mainGlobals "isinstance" = some none)
    (z_bool : PySem.W.nsIn K mainGlobals "bool" = some none)
    (a__law_state : PySem.W.nsIn K mainGlobals "_law_state" = some (some (.ref f__law_state)))
    (l__law_state : K.lookup f__law_state = some ⟨oc__law_state, od__law_state, .func (PySem.W.fnOf "_law_state" "_law_state" (defArgs s__law_state) (defBody s__law_state) (defScope s__law_state) .none kV__law_state dc__law_state pm__law_state an__law_state cd__law_state ct__law_state), sl__law_state⟩)
    (c__law_state : PySem.W.codeIn K cd__law_state "_law_state" = true)
    (k__law_state : PySem.W.keepIn K (.ref f__law_state) = true)
    (a__law_draw : PySem.W.nsIn K mainGlobals "_law_draw" = some (some (.ref f__law_draw)))
    (l__law_draw : K.lookup f__law_draw = some ⟨oc__law_draw, od__law_draw, .func (PySem.W.fnOf "_law_draw" "_law_draw" (defArgs s__law_draw) (defBody s__law_draw) (defScope s__law_draw) .none kV__law_draw dc__law_draw pm__law_draw an__law_draw cd__law_draw ct__law_draw), sl__law_draw⟩)
    (c__law_draw : PySem.W.codeIn K cd__law_draw "_law_draw" = true)
    (k__law_draw : PySem.W.keepIn K (.ref f__law_draw) = true)
    (a__law_pick : PySem.W.nsIn K mainGlobals "_law_pick" = some (some (.ref f__law_pick)))
    (l__law_pick : K.lookup f__law_pick = some ⟨oc__law_pick, od__law_pick, .func (PySem.W.fnOf "_law_pick" "_law_pick" (defArgs s__law_pick) (defBody s__law_pick) (defScope s__law_pick) .none kV__law_pick dc__law_pick pm__law_pick an__law_pick cd__law_pick ct__law_pick), sl__law_pick⟩)
    (c__law_pick : PySem.W.codeIn K cd__law_pick "_law_pick" = true)
    (k__law_pick : PySem.W.keepIn K (.ref f__law_pick) = true)
    (a__law_word : PySem.W.nsIn K mainGlobals "_law_word" = some (some (.ref f__law_word)))
    (l__law_word : K.lookup f__law_word = some ⟨oc__law_word, od__law_word, .func (PySem.W.fnOf "_law_word" "_law_word" (defArgs s__law_word) (defBody s__law_word) (defScope s__law_word) .none kV__law_word dc__law_word pm__law_word an__law_word cd__law_word ct__law_word), sl__law_word⟩)
    (c__law_word : PySem.W.codeIn K cd__law_word "_law_word" = true)
    (k__law_word : PySem.W.keepIn K (.ref f__law_word) = true)
    (a__law_expr : PySem.W.nsIn K mainGlobals "_law_expr" = some (some (.ref f__law_expr)))
    (l__law_expr : K.lookup f__law_expr = some ⟨oc__law_expr, od__law_expr, .func (PySem.W.fnOf "_law_expr" "_law_expr" (defArgs s__law_expr) (defBody s__law_expr) (defScope s__law_expr) .none kV__law_expr dc__law_expr pm__law_expr an__law_expr cd__law_expr ct__law_expr), sl__law_expr⟩)
    (c__law_expr : PySem.W.codeIn K cd__law_expr "_law_expr" = true)
    (k__law_expr : PySem.W.keepIn K (.ref f__law_expr) = true)
    (a__law_two : PySem.W.nsIn K mainGlobals "_law_two" = some (some (.ref f__law_two)))
    (l__law_two : K.lookup f__law_two = some ⟨oc__law_two, od__law_two, .func (PySem.W.fnOf "_law_two" "_law_two" (defArgs s__law_two) (defBody s__law_two) (defScope s__law_two) .none kV__law_two dc__law_two pm__law_two an__law_two cd__law_two ct__law_two), sl__law_two⟩)
    (c__law_two : PySem.W.codeIn K cd__law_two "_law_two" = true)
    (k__law_two : PySem.W.keepIn K (.ref f__law_two) = true)
    (a__law_value : PySem.W.nsIn K mainGlobals "_law_value" = some (some (.ref f__law_value)))
    (l__law_value : K.lookup f__law_value = some ⟨oc__law_value, od__law_value, .func (PySem.W.fnOf "_law_value" "_law_value" (defArgs s__law_value) (defBody s__law_value) (defScope s__law_value) .none kV__law_value dc__law_value pm__law_value an__law_value cd__law_value ct__law_value), sl__law_value⟩)
    (c__law_value : PySem.W.codeIn K cd__law_value "_law_value" = true)
    (k__law_value : PySem.W.keepIn K (.ref f__law_value) = true)
    (a_wrap : PySem.W.nsIn K mainGlobals "wrap" = some (some (.ref f_wrap)))
    (l_wrap : K.lookup f_wrap = some ⟨oc_wrap, od_wrap, .func (PySem.W.fnOf "wrap" "wrap" (defArgs s_wrap) (defBody s_wrap) (defScope s_wrap) .none kV_wrap dc_wrap pm_wrap an_wrap cd_wrap ct_wrap), sl_wrap⟩)
    (c_wrap : PySem.W.codeIn K cd_wrap "wrap" = true)
    (k_wrap : PySem.W.keepIn K (.ref f_wrap) = true)
    (a__arithmetic : PySem.W.nsIn K mainGlobals "_arithmetic" = some (some (.ref f__arithmetic)))
    (l__arithmetic : K.lookup f__arithmetic = some ⟨oc__arithmetic, od__arithmetic, .func (PySem.W.fnOf "_arithmetic" "_arithmetic" (defArgs s__arithmetic) (defBody s__arithmetic) (defScope s__arithmetic) .none kV__arithmetic dc__arithmetic pm__arithmetic an__arithmetic cd__arithmetic ct__arithmetic), sl__arithmetic⟩)
    (c__arithmetic : PySem.W.codeIn K cd__arithmetic "_arithmetic" = true)
    (k__arithmetic : PySem.W.keepIn K (.ref f__arithmetic) = true)
    (a__bits : PySem.W.nsIn K mainGlobals "_bits" = some (some (.ref f__bits)))
    (l__bits : K.lookup f__bits = some ⟨oc__bits, od__bits, .func (PySem.W.fnOf "_bits" "_bits" (defArgs s__bits) (defBody s__bits) (defScope s__bits) .none kV__bits dc__bits pm__bits an__bits cd__bits ct__bits), sl__bits⟩)
    (c__bits : PySem.W.codeIn K cd__bits "_bits" = true)
    (k__bits : PySem.W.keepIn K (.ref f__bits) = true)
    (a_signed : PySem.W.nsIn K mainGlobals "signed" = some (some (.ref f_signed)))
    (l_signed : K.lookup f_signed = some ⟨oc_signed, od_signed, .func (PySem.W.fnOf "signed" "signed" (defArgs s_signed) (defBody s_signed) (defScope s_signed) .none kV_signed dc_signed pm_signed an_signed cd_signed ct_signed), sl_signed⟩)
    (c_signed : PySem.W.codeIn K cd_signed "signed" = true)
    (k_signed : PySem.W.keepIn K (.ref f_signed) = true)
    (a__truth : PySem.W.nsIn K mainGlobals "_truth" = some (some (.ref f__truth)))
    (l__truth : K.lookup f__truth = some ⟨oc__truth, od__truth, .func (PySem.W.fnOf "_truth" "_truth" (defArgs s__truth) (defBody s__truth) (defScope s__truth) .none kV__truth dc__truth pm__truth an__truth cd__truth ct__truth), sl__truth⟩)
    (c__truth : PySem.W.codeIn K cd__truth "_truth" = true)
    (k__truth : PySem.W.keepIn K (.ref f__truth) = true)
    (a_combine : PySem.W.nsIn K mainGlobals "combine" = some (some (.ref f_combine)))
    (l_combine : K.lookup f_combine = some ⟨oc_combine, od_combine, .func (PySem.W.fnOf "combine" "combine" (defArgs s_combine) (defBody s_combine) (defScope s_combine) .none kV_combine dc_combine pm_combine an_combine cd_combine ct_combine), sl_combine⟩)
    (c_combine : PySem.W.codeIn K cd_combine "combine" = true)
    (k_combine : PySem.W.keepIn K (.ref f_combine) = true)
    (a_alter : PySem.W.nsIn K mainGlobals "alter" = some (some (.ref f_alter)))
    (l_alter : K.lookup f_alter = some ⟨oc_alter, od_alter, .func (PySem.W.fnOf "alter" "alter" (defArgs s_alter) (defBody s_alter) (defScope s_alter) .none kV_alter dc_alter pm_alter an_alter cd_alter ct_alter), sl_alter⟩)
    (c_alter : PySem.W.codeIn K cd_alter "alter" = true)
    (k_alter : PySem.W.keepIn K (.ref f_alter) = true)
    (a_evaluate : PySem.W.nsIn K mainGlobals "evaluate" = some (some (.ref f_evaluate)))
    (l_evaluate : K.lookup f_evaluate = some ⟨oc_evaluate, od_evaluate, .func (PySem.W.fnOf "evaluate" "evaluate" (defArgs s_evaluate) (defBody s_evaluate) (defScope s_evaluate) .none kV_evaluate dc_evaluate pm_evaluate an_evaluate cd_evaluate ct_evaluate), sl_evaluate⟩)
    (c_evaluate : PySem.W.codeIn K cd_evaluate "evaluate" = true)
    (k_evaluate : PySem.W.keepIn K (.ref f_evaluate) = true)
    (a_law : PySem.W.nsIn K mainGlobals "law" = some (some (.ref f_law)))
    (l_law : K.lookup f_law = some ⟨oc_law, od_law, .func (PySem.W.fnOf "law" "law" (defArgs s_law) (defBody s_law) (defScope s_law) .none kV_law dc_law pm_law an_law cd_law ct_law), sl_law⟩)
    (c_law : PySem.W.codeIn K cd_law "law" = true)
    (k_law : PySem.W.keepIn K (.ref f_law) = true)
    : ∃ fd : FuncData, (∀ (s : Shared) (v : Value), BindsTo s fd ⟨[v], []⟩ [("_law_script", v)]) ∧ ∀ base : Heap, K.In base → base.Ns mainGlobals mg → SysIn base → FnAt l.prog w K mg base 13 fa fd ["_law_script"] (spX K 1 LawT) := by
  have e := hfa.symm.trans (PySem.W.mg_of X G a_law)
  cases e
  obtain ⟨CS, hCS⟩ : ∃ CS : Nat → Addr, CS = fun _ => 0 := ⟨_, rfl⟩
  have T : Txt K mg CS := by subst hCS; exact ⟨glb_int (PySem.W.mg_of X G m_MODULUS), glb_int (PySem.W.mg_of X G m_SIGN), glb_int (PySem.W.mg_of X G m_MASK), PySem.W.mg_none_of X G z_int, PySem.W.mg_none_of X G z_abs, PySem.W.mg_none_of X G z_len, PySem.W.mg_none_of X G z_range, PySem.W.mg_none_of X G z_max, PySem.W.mg_none_of X G z_repr, PySem.W.mg_none_of X G z_isinstance, PySem.W.mg_none_of X G z_bool⟩
  refine ⟨PySem.W.fnOf "law" "law" (defArgs s_law) (defBody s_law) (defScope s_law) .none kV_law dc_law pm_law an_law cd_law ct_law, fun s v => .of_eq rfl, fun base _ _ hsys => ?_⟩
  have C__law_state : CalX l.prog w K mg base 1 "_law_state" 1 (T__law_state CS) := ⟨f__law_state, _, _, ok__law_state (fun_mk (st := s__law_state) l__law_state c__law_state k__law_state) T , PySem.W.mg_of X G a__law_state, k__law_state, (fun_mk (st := s__law_state) l__law_state c__law_state k__law_state).binds (ps := ["_law_script"]) fun _ _ _ _ _ _ us hl => match us, hl with | [_], _ => rfl⟩
  have C__law_draw : CalX l.prog w K mg base 1 "_law_draw" 2 (T__law_draw CS) := ⟨f__law_draw, _, _, ok__law_draw (fun_mk (st := s__law_draw) l__law_draw c__law_draw k__law_draw) T , PySem.W.mg_of X G a__law_draw, k__law_draw, (fun_mk (st := s__law_draw) l__law_draw c__law_draw k__law_draw).binds (ps := ["_law_state_here", "_law_many"]) fun _ _ _ _ _ _ us hl => match us, hl with | [_, _], _ => rfl⟩
  have C__law_pick : CalX l.prog w K mg base 2 "_law_pick" 2 (T__law_pick CS) := ⟨f__law_pick, _, _, ok__law_pick (fun_mk (st := s__law_pick) l__law_pick c__law_pick k__law_pick) T C__law_draw, PySem.W.mg_of X G a__law_pick, k__law_pick, (fun_mk (st := s__law_pick) l__law_pick c__law_pick k__law_pick).binds (ps := ["_law_state_here", "_law_row"]) fun _ _ _ _ _ _ us hl => match us, hl with | [_, _], _ => rfl⟩
  have C__law_word : CalX l.prog w K mg base 3 "_law_word" 1 (T__law_word CS) := ⟨f__law_word, _, _, ok__law_word (fun_mk (st := s__law_word) l__law_word c__law_word k__law_word) T C__law_draw C__law_pick, PySem.W.mg_of X G a__law_word, k__law_word, (fun_mk (st := s__law_word) l__law_word c__law_word k__law_word).binds (ps := ["_law_state_here"]) fun _ _ _ _ _ _ us hl => match us, hl with | [_], _ => rfl⟩
  have CR_0 : ∀ n : Nat, CalX l.prog w K mg base (3 + 1 + n) "_law_expr" 3 (TS_0 CS n 0) := by
    intro n
    induction n with
    | zero => exact ⟨f__law_expr, _, _, okNo (fun_mk (st := s__law_expr) l__law_expr c__law_expr k__law_expr) sc__law_expr rfl, PySem.W.mg_of X G a__law_expr, k__law_expr, (fun_mk (st := s__law_expr) l__law_expr c__law_expr k__law_expr).binds (ps := ["_law_state_here", "_law_env", "_law_deep"]) fun _ _ _ _ _ _ us hl => match us, hl with | [_, _, _], _ => rfl⟩
    | succ n0 ih =>
      have C__law_expr := ih
      exact ⟨f__law_expr, _, _, ok__law_expr (lv := 3 + 1 + n0) (by omega) (fun_mk (st := s__law_expr) l__law_expr c__law_expr k__law_expr) T C__law_draw C__law_expr C__law_pick C__law_word, PySem.W.mg_of X G a__law_expr, k__law_expr, (fun_mk (st := s__law_expr) l__law_expr c__law_expr k__law_expr).binds (ps := ["_law_state_here", "_law_env", "_law_deep"]) fun _ _ _ _ _ _ us hl => match us, hl with | [_, _, _], _ => rfl⟩
  have C__law_expr : CalX l.prog w K mg base (12) "_law_expr" 3 (T__law_expr CS) := CR_0 8
  have C__law_two : CalX l.prog w K mg base 1 "_law_two" 3 (T__law_two CS) := ⟨f__law_two, _, _, ok__law_two (fun_mk (st := s__law_two) l__law_two c__law_two k__law_two) T , PySem.W.mg_of X G a__law_two, k__law_two, (fun_mk (st := s__law_two) l__law_two c__law_two k__law_two).binds (ps := ["_law_sign", "_law_a", "_law_b"]) fun _ _ _ _ _ _ us hl => match us, hl with | [_, _, _], _ => rfl⟩
  have CR_1 : ∀ n : Nat, CalX l.prog w K mg base (1 + 1 + n) "_law_value" 2 (TS_1 CS n 0) := by
    intro n
    induction n with
    | zero => exact ⟨f__law_value, _, _, okNo (fun_mk (st := s__law_value) l__law_value c__law_value k__law_value) sc__law_value rfl, PySem.W.mg_of X G a__law_value, k__law_value, (fun_mk (st := s__law_value) l__law_value c__law_value k__law_value).binds (ps := ["_law_e", "_law_names"]) fun _ _ _ _ _ _ us hl => match us, hl with | [_, _], _ => rfl⟩
    | succ n0 ih =>
      have C__law_value := ih
      exact ⟨f__law_value, _, _, ok__law_value (lv := 1 + 1 + n0) (by omega) (fun_mk (st := s__law_value) l__law_value c__law_value k__law_value) T C__law_value C__law_two, PySem.W.mg_of X G a__law_value, k__law_value, (fun_mk (st := s__law_value) l__law_value c__law_value k__law_value).binds (ps := ["_law_e", "_law_names"]) fun _ _ _ _ _ _ us hl => match us, hl with | [_, _], _ => rfl⟩
  have C__law_value : CalX l.prog w K mg base (10) "_law_value" 2 (T__law_value CS) := CR_1 8
  have C_wrap : CalX l.prog w K mg base 1 "wrap" 1 (T_wrap CS) := ⟨f_wrap, _, _, ok_wrap (fun_mk (st := s_wrap) l_wrap c_wrap k_wrap) T , PySem.W.mg_of X G a_wrap, k_wrap, (fun_mk (st := s_wrap) l_wrap c_wrap k_wrap).binds (ps := ["n"]) fun _ _ _ _ _ _ us hl => match us, hl with | [_], _ => rfl⟩
  have C__arithmetic : CalX l.prog w K mg base 2 "_arithmetic" 3 (T__arithmetic CS) := ⟨f__arithmetic, _, _, ok__arithmetic (fun_mk (st := s__arithmetic) l__arithmetic c__arithmetic k__arithmetic) T C_wrap, PySem.W.mg_of X G a__arithmetic, k__arithmetic, (fun_mk (st := s__arithmetic) l__arithmetic c__arithmetic k__arithmetic).binds (ps := ["operator", "a", "b"]) fun _ _ _ _ _ _ us hl => match us, hl with | [_, _, _], _ => rfl⟩
  have C__bits : CalX l.prog w K mg base 2 "_bits" 3 (T__bits CS) := ⟨f__bits, _, _, ok__bits (fun_mk (st := s__bits) l__bits c__bits k__bits) T C_wrap, PySem.W.mg_of X G a__bits, k__bits, (fun_mk (st := s__bits) l__bits c__bits k__bits).binds (ps := ["operator", "a", "b"]) fun _ _ _ _ _ _ us hl => match us, hl with | [_, _, _], _ => rfl⟩
  have C_signed : CalX l.prog w K mg base 1 "signed" 1 (T_signed CS) := ⟨f_signed, _, _, ok_signed (fun_mk (st := s_signed) l_signed c_signed k_signed) T , PySem.W.mg_of X G a_signed, k_signed, (fun_mk (st := s_signed) l_signed c_signed k_signed).binds (ps := ["w"]) fun _ _ _ _ _ _ us hl => match us, hl with | [_], _ => rfl⟩
  have C__truth : CalX l.prog w K mg base 2 "_truth" 3 (T__truth CS) := ⟨f__truth, _, _, ok__truth (fun_mk (st := s__truth) l__truth c__truth k__truth) T C_signed, PySem.W.mg_of X G a__truth, k__truth, (fun_mk (st := s__truth) l__truth c__truth k__truth).binds (ps := ["operator", "a", "b"]) fun _ _ _ _ _ _ us hl => match us, hl with | [_, _, _], _ => rfl⟩
  have C_combine : CalX l.prog w K mg base 3 "combine" 3 (T_combine CS) := ⟨f_combine, _, _, ok_combine (fun_mk (st := s_combine) l_combine c_combine k_combine) T C__arithmetic C__bits C__truth, PySem.W.mg_of X G a_combine, k_combine, (fun_mk (st := s_combine) l_combine c_combine k_combine).binds (ps := ["operator", "a", "b"]) fun _ _ _ _ _ _ us hl => match us, hl with | [_, _, _], _ => rfl⟩
  have C_alter : CalX l.prog w K mg base 2 "alter" 2 (T_alter CS) := ⟨f_alter, _, _, ok_alter (fun_mk (st := s_alter) l_alter c_alter k_alter) T C_wrap, PySem.W.mg_of X G a_alter, k_alter, (fun_mk (st := s_alter) l_alter c_alter k_alter).binds (ps := ["operator", "a"]) fun _ _ _ _ _ _ us hl => match us, hl with | [_, _], _ => rfl⟩
  have CR_2 : ∀ n : Nat, CalX l.prog w K mg base (3 + 1 + n) "evaluate" 2 (TS_2 CS n 0) := by
    intro n
    induction n with
    | zero => exact ⟨f_evaluate, _, _, okNo (fun_mk (st := s_evaluate) l_evaluate c_evaluate k_evaluate) sc_evaluate rfl, PySem.W.mg_of X G a_evaluate, k_evaluate, (fun_mk (st := s_evaluate) l_evaluate c_evaluate k_evaluate).binds (ps := ["e", "names"]) fun _ _ _ _ _ _ us hl => match us, hl with | [_, _], _ => rfl⟩
    | succ n0 ih =>
      have C_evaluate := ih
      exact ⟨f_evaluate, _, _, ok_evaluate (lv := 3 + 1 + n0) (by omega) (fun_mk (st := s_evaluate) l_evaluate c_evaluate k_evaluate) T C_evaluate C_combine C_alter, PySem.W.mg_of X G a_evaluate, k_evaluate, (fun_mk (st := s_evaluate) l_evaluate c_evaluate k_evaluate).binds (ps := ["e", "names"]) fun _ _ _ _ _ _ us hl => match us, hl with | [_, _], _ => rfl⟩
  have C_evaluate : CalX l.prog w K mg base (12) "evaluate" 2 (T_evaluate CS) := CR_2 8
  have R := ok_law (fun_mk (st := s_law) l_law c_law k_law) T hsys C__law_state C__law_expr C__law_value C_evaluate C__law_word C__law_draw
  exact R.imp fun vs H Q E ⟨hl, F, V0, os, ws, k0, x0, r, ra, hT, c1, c2⟩ => ⟨hl, F, V0, os, ws, k0, x0, r, ra, hT CS, c1, c2⟩
theorem walk {l : PySem.W.OpenLaw} {q : Program} {loose : List Str} {XP : (Str → Option Value) → Heap → Prop} {YP : World → Heap → Prop} {d : DefRec} {K : Params → PySem.W.Frag} (hn : l.most = some 63) (hdf : d.params.defaults = [])
    (hY : ∀ (w : World) (h : Heap), YP w h → (K w.params).In h) (hq : importsNone q = true)
    (F : ∀ (w : World) (mg : Str → Option Value) (fa : Addr) (h : Heap), (K w.params).In h → h.Ns mainGlobals mg → mg d.name = some (.ref fa) →
      ∃ fd : FuncData, (∀ (s : Shared) (u : Value), BindsTo s fd ⟨[u], []⟩ [("_law_script", u)]) ∧ ∀ base : Heap, (K w.params).In base → base.Ns mainGlobals mg → SysIn base → FnAt l.prog w (K w.params) mg base 13 fa fd ["_law_script"] (spX (K w.params) 1 LawT)) :
    PySem.W.WalkO q loose XP YP l.row.toRowW d [] (fun f vs => PySem.call f vs) :=
  walk_at_top (k := 13) (x := "_law_script") (K := K) hn hdf ⟨rfl, by decide, by decide⟩ hY (fun w mg fa h a b c => let ⟨fd, hb, hF⟩ := F w mg fa h a b c; ⟨fd, hb, fun base h1 h2 h3 => hF base h1 h2 (h3 hq)⟩) (fun ns h CS => law_true (CS := CS) ns h)
end My
open PySem PySem.W PyProof.Rows
set_option maxRecDepth 100000 in
set_option maxHeartbeats 0 in
theorem PySem.Challenge.cw_deadbeat_k11_values_of_expressions_holds : PySem.Challenge.rw_deadbeat_k11_values_of_expressions.Holds := by
  w_on; o_law; k_head; (case hw => w_witness2)
  k_fill
  refine My.walk (l := PySem.Challenge.rw_deadbeat_k11_values_of_expressions) rfl rfl (fun w h Y => PySem.W.kIn_of Y) (by decide +kernel) ?F
  case F =>
    intro w mg fa h KX G hmg
    refine' My.all_mk KX G hmg ?m_MODULUS ?m_SIGN ?m_MASK ?z_int ?z_abs ?z_len ?z_range ?z_max ?z_repr ?z_isinstance ?z_bool ?a__law_state ?l__law_state ?c__law_state ?k__law_state ?a__law_draw ?l__law_draw ?c__law_draw ?k__law_draw ?a__law_pick ?l__law_pick ?c__law_pick ?k__law_pick ?a__law_word ?l__law_word ?c__law_word ?k__law_word ?a__law_expr ?l__law_expr ?c__law_expr ?k__law_expr ?a__law_two ?l__law_two ?c__law_two ?k__law_two ?a__law_value ?l__law_value ?c__law_value ?k__law_value ?a_wrap ?l_wrap ?c_wrap ?k_wrap ?a__arithmetic ?l__arithmetic ?c__arithmetic ?k__arithmetic ?a__bits ?l__bits ?c__bits ?k__bits ?a_signed ?l_signed ?c_signed ?k_signed ?a__truth ?l__truth ?c__truth ?k__truth ?a_combine ?l_combine ?c_combine ?k_combine ?a_alter ?l_alter ?c_alter ?k_alter ?a_evaluate ?l_evaluate ?c_evaluate ?k_evaluate ?a_law ?l_law ?c_law ?k_law
    (case m_MODULUS => k_is)
    (case m_SIGN => k_is)
    (case m_MASK => k_is)
    (case z_int => k_is)
    (case z_abs => k_is)
    (case z_len => k_is)
    (case z_range => k_is)
    (case z_max => k_is)
    (case z_repr => k_is)
    (case z_isinstance => k_is)
    (case z_bool => k_is)
    (case a__law_state => k_is)
    (case l__law_state => k_is)
    (case c__law_state => k_is)
    (case k__law_state => k_is)
    (case a__law_draw => k_is)
    (case l__law_draw => k_is)
    (case c__law_draw => k_is)
    (case k__law_draw => k_is)
    (case a__law_pick => k_is)
    (case l__law_pick => k_is)
    (case c__law_pick => k_is)
    (case k__law_pick => k_is)
    (case a__law_word => k_is)
    (case l__law_word => k_is)
    (case c__law_word => k_is)
    (case k__law_word => k_is)
    (case a__law_expr => k_is)
    (case l__law_expr => k_is)
    (case c__law_expr => k_is)
    (case k__law_expr => k_is)
    (case a__law_two => k_is)
    (case l__law_two => k_is)
    (case c__law_two => k_is)
    (case k__law_two => k_is)
    (case a__law_value => k_is)
    (case l__law_value => k_is)
    (case c__law_value => k_is)
    (case k__law_value => k_is)
    (case a_wrap => k_is)
    (case l_wrap => k_is)
    (case c_wrap => k_is)
    (case k_wrap => k_is)
    (case a__arithmetic => k_is)
    (case l__arithmetic => k_is)
    (case c__arithmetic => k_is)
    (case k__arithmetic => k_is)
    (case a__bits => k_is)
    (case l__bits => k_is)
    (case c__bits => k_is)
    (case k__bits => k_is)
    (case a_signed => k_is)
    (case l_signed => k_is)
    (case c_signed => k_is)
    (case k_signed => k_is)
    (case a__truth => k_is)
    (case l__truth => k_is)
    (case c__truth => k_is)
    (case k__truth => k_is)
    (case a_combine => k_is)
    (case l_combine => k_is)
    (case c_combine => k_is)
    (case k_combine => k_is)
    (case a_alter => k_is)
    (case l_alter => k_is)
    (case c_alter => k_is)
    (case k_alter => k_is)
    (case a_evaluate => k_is)
    (case l_evaluate => k_is)
    (case c_evaluate => k_is)
    (case k_evaluate => k_is)
    (case a_law => k_is)
    (case l_law => k_is)
    (case c_law => k_is)
    (case k_law => k_is)

