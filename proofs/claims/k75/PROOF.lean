import PyProof.Rows.All
import Wide.All
import OpenK.AllK
import Wide.FinOn
import HandS.ForMost
import HandS.Wide
import HandS.Flow
import HandS.IsInst
import HandS.WordsExc
import HandS.ExcInit
import HandS.ExcField
import HandS.ExcIs
import HandS.CallSlots
import HandS.TryOnly
import HandS.SortInts
import HandS.TupLe
import HandS.Remove
import HandS.More
import HandS.DictComp
import HandS.SetFor
import HandS.Deep
import KE.KExcIs
import KE.KTryMore
import HandS.MakeKwOnly
import HandS.Zip
import HandS.Strs
import KE.GoesEnum
import HandS.RevRange
import HandS.SortRule
import HandS.Ends
import PyProof.StrLawsRepr
import HandS.Dict
import HandS.Text
import KE.DatumOrd
import PyProof.Rows.CallKwBuiltin
import PyProof.Rows.StrMul
import PySem.Challenge.RW_deadbeat_k75_limits_of_programs
set_option Elab.async false
set_option linter.all false
set_option maxRecDepth 100000
/-! E1: data values, owned objects, the relation between the abstract heap and them. -/
namespace EV
open PySem PySem.Spec PyProof.Rows L2

/-- names by numbers (base 256) -/
def nmD : Nat → Nat → List Nat
  | 0, _ => []
  | f + 1, n => if n = 0 then [] else nmD f (n / 256) ++ [n % 256]
def nmE : List Nat → Nat := fun l => l.foldl (fun a d => a * 256 + d) 0
theorem nmE_D : ∀ (f n : Nat), n ≤ f → nmE (nmD f n) = n
  | 0, n, h => by
    have : n = 0 := Nat.le_zero.mp h
    subst this; rfl
  | f + 1, n, h => by
    unfold nmD
    by_cases e : n = 0
    · rw [if_pos e, e]; rfl
    · rw [if_neg e]
      have ih := nmE_D f (n / 256) (by omega)
      unfold nmE at ih ⊢
      rw [List.foldl_append, ih]
      show n / 256 * 256 + n % 256 = n
      omega
/-- the name of a number -/
def nm (i : Nat) : Str := ⟨(nmD i i).toArray⟩
theorem nm_inj {i j : Nat} (h : nm i = nm j) : i = j := by
  have e : nmD i i = nmD j j := by
    have e1 : (nmD i i).toArray = (nmD j j).toArray := congrArg Str.cps h
    simpa using e1
  rw [← nmE_D i i (Nat.le_refl _), ← nmE_D j j (Nat.le_refl _), e]

/-- a value: data, or the address of an owned object -/
inductive D where
  | non | bl (b : Bool) | int (i : Int) | str (x : Str) | ty (n : String) | tup (ds : List D) | lst (ds : List D) | dK (kvs : List (Key × D)) | dT (kvs : List (List Key × D)) | exn (a dx C : Addr) (f : Nat) (w : D) | ref (a : Addr)

mutual
inductive Rp (K : PySem.W.Frag) (H : Hp) : V → D → Prop
  | non : Rp K H .non .non
  | bl (b : Bool) : Rp K H (.bl b) (.bl b)
  | int (i : Int) : Rp K H (.int i) (.int i)
  | str (x : Str) : Rp K H (.str x) (.str x)
  | ty (n : String) : Rp K H (.ty n) (.ty n)
  | tup {a : Addr} {xs : List V} {ds : List D} : SqT K H a xs → RpA K H xs ds → Rp K H (.ref a) (.tup ds)
  | lst {a : Addr} {xs : List V} {ds : List D} : SqL K H a xs → RpA K H xs ds → Rp K H (.ref a) (.lst ds)
  | dK {a : Addr} {xs : List (Key × V)} {ds : List (Key × D)} : (∃ o, H a = some (.frz o (.dK xs))) → RpK K H xs ds → Rp K H (.ref a) (.dK ds)
  | dT {a : Addr} {xs : List (List Key × V)} {ds : List (List Key × D)} : (∃ o, H a = some (.frz o (.dT xs))) → RpT K H xs ds → Rp K H (.ref a) (.dT ds)
  | exn {a dx C : Addr} {f : Nat} {v : V} {w : D} : H dx = some (.xd [(nm f, v)]) → Rp K H v w → Rp K H (.ref a) (.exn a dx C f w)
  | ref (a : Addr) : Rp K H (.ref a) (.ref a)
inductive RpA (K : PySem.W.Frag) (H : Hp) : List V → List D → Prop
  | nil : RpA K H [] []
  | cons {v : V} {vs : List V} {d : D} {ds : List D} : Rp K H v d → RpA K H vs ds → RpA K H (v :: vs) (d :: ds)
inductive RpK (K : PySem.W.Frag) (H : Hp) : List (Key × V) → List (Key × D) → Prop
  | nil : RpK K H [] []
  | cons {k : Key} {v : V} {vs : List (Key × V)} {d : D} {ds : List (Key × D)} : Rp K H v d → RpK K H vs ds → RpK K H ((k, v) :: vs) ((k, d) :: ds)
inductive RpT (K : PySem.W.Frag) (H : Hp) : List (List Key × V) → List (List Key × D) → Prop
  | nil : RpT K H [] []
  | cons {k : List Key} {v : V} {vs : List (List Key × V)} {d : D} {ds : List (List Key × D)} : Rp K H v d → RpT K H vs ds → RpT K H ((k, v) :: vs) ((k, d) :: ds)
end
theorem same_sqT {K : PySem.W.Frag} {H H' : Hp} {a : Addr} {xs : List V} (e : Same H H') (h : SqT K H a xs) : SqT K H' a xs := by
  rcases h with (h | ⟨o, h⟩) | h
  · exact .inl (.inl (e _ _ h))
  · exact .inl (.inr ⟨o, e _ _ h⟩)
  · exact .inr h
mutual
theorem Rp.mono {K : PySem.W.Frag} {H H' : Hp} (e : Same H H') : ∀ {v : V} {d : D}, Rp K H v d → Rp K H' v d
  | _, _, .non => .non
  | _, _, .bl b => .bl b
  | _, _, .int i => .int i
  | _, _, .str x => .str x
  | _, _, .ty x => .ty x
  | _, _, .tup h r => .tup (same_sqT e h) (RpA.mono e r)
  | _, _, .lst h r => .lst (e.seq h) (RpA.mono e r)
  | _, _, .dK h r => .dK (let ⟨o, h⟩ := h; ⟨o, e _ _ h⟩) (RpK.mono e r)
  | _, _, .dT h r => .dT (let ⟨o, h⟩ := h; ⟨o, e _ _ h⟩) (RpT.mono e r)
  | _, _, .exn h r => .exn (e _ _ h) (Rp.mono e r)
  | _, _, .ref a => .ref a
theorem RpA.mono {K : PySem.W.Frag} {H H' : Hp} (e : Same H H') : ∀ {vs : List V} {ds : List D}, RpA K H vs ds → RpA K H' vs ds
  | _, _, .nil => .nil
  | _, _, .cons h r => .cons (Rp.mono e h) (RpA.mono e r)
theorem RpK.mono {K : PySem.W.Frag} {H H' : Hp} (e : Same H H') : ∀ {vs : List (Key × V)} {ds : List (Key × D)}, RpK K H vs ds → RpK K H' vs ds
  | _, _, .nil => .nil
  | _, _, .cons h r => .cons (Rp.mono e h) (RpK.mono e r)
theorem RpT.mono {K : PySem.W.Frag} {H H' : Hp} (e : Same H H') : ∀ {vs : List (List Key × V)} {ds : List (List Key × D)}, RpT K H vs ds → RpT K H' vs ds
  | _, _, .nil => .nil
  | _, _, .cons h r => .cons (Rp.mono e h) (RpT.mono e r)
end
theorem RpA.length {K : PySem.W.Frag} {H : Hp} : ∀ {vs : List V} {ds : List D}, RpA K H vs ds → vs.length = ds.length
  | _, _, .nil => rfl
  | _, _, .cons _ r => congrArg (· + 1) (RpA.length r)
theorem RpA.get {K : PySem.W.Frag} {H : Hp} : ∀ {vs : List V} {ds : List D} {i : Nat} {d : D}, RpA K H vs ds → ds[i]? = some d → ∃ v, vs[i]? = some v ∧ Rp K H v d
  | _, _, _, _, .nil, e => by simp at e
  | _, _, 0, _, .cons h r, e => by simp at e; subst e; exact ⟨_, rfl, h⟩
  | _, _, i + 1, d, .cons h r, e => by
    obtain ⟨v, e1, r1⟩ := RpA.get (i := i) (d := d) r (by simpa using e)
    exact ⟨v, by simpa using e1, r1⟩
theorem RpA.getV {K : PySem.W.Frag} {H : Hp} : ∀ {vs : List V} {ds : List D} {i : Nat} {v : V}, RpA K H vs ds → vs[i]? = some v → ∃ d, ds[i]? = some d ∧ Rp K H v d
  | _, _, _, _, .nil, e => by simp at e
  | _, _, 0, _, .cons h r, e => by simp at e; subst e; exact ⟨_, rfl, h⟩
  | _, _, i + 1, d, .cons h r, e => by
    obtain ⟨v, e1, r1⟩ := RpA.getV (i := i) (v := d) r (by simpa using e)
    exact ⟨v, by simpa using e1, r1⟩
theorem RpA.append {K : PySem.W.Frag} {H : Hp} : ∀ {vs us : List V} {ds es : List D}, RpA K H vs ds → RpA K H us es → RpA K H (vs ++ us) (ds ++ es)
  | _, _, _, _, .nil, s => s
  | _, _, _, _, .cons h r, s => .cons h (RpA.append r s)
theorem RpA.take {K : PySem.W.Frag} {H : Hp} : ∀ {vs : List V} {ds : List D} (n : Nat), RpA K H vs ds → RpA K H (vs.take n) (ds.take n)
  | _, _, 0, _ => .nil
  | _, _, _ + 1, .nil => .nil
  | _, _, n + 1, .cons h r => .cons h (RpA.take n r)
theorem RpA.drop {K : PySem.W.Frag} {H : Hp} : ∀ {vs : List V} {ds : List D} (n : Nat), RpA K H vs ds → RpA K H (vs.drop n) (ds.drop n)
  | _, _, 0, r => r
  | _, _, _ + 1, .nil => .nil
  | _, _, n + 1, .cons _ r => RpA.drop n r
theorem RpA.reverse {K : PySem.W.Frag} {H : Hp} {vs : List V} {ds : List D} (h : RpA K H vs ds) : RpA K H vs.reverse ds.reverse := by
  induction vs generalizing ds with
  | nil => cases h; exact .nil
  | cons v vs ih =>
    cases h with
    | cons h r => rw [List.reverse_cons, List.reverse_cons]; exact (ih r).append (.cons h .nil)

theorem RpA.set {K : PySem.W.Frag} {H : Hp} {v : V} {w : D} (q : Rp K H v w) : ∀ {vs : List V} {ds : List D} (n : Nat), RpA K H vs ds → RpA K H (vs.set n v) (ds.set n w)
  | _, _, _, .nil => .nil
  | _, _, 0, .cons _ r => .cons q r
  | _, _, n + 1, .cons h r => .cons h (RpA.set q n r)
theorem RpA.eraseIdx {K : PySem.W.Frag} {H : Hp} : ∀ {vs : List V} {ds : List D} (n : Nat), RpA K H vs ds → RpA K H (vs.eraseIdx n) (ds.eraseIdx n)
  | _, _, _, .nil => .nil
  | _, _, 0, .cons _ r => r
  | _, _, n + 1, .cons h r => .cons h (RpA.eraseIdx n r)
theorem RpA.insertIdx {K : PySem.W.Frag} {H : Hp} {v : V} {w : D} (q : Rp K H v w) : ∀ {vs : List V} {ds : List D} (n : Nat), RpA K H vs ds → RpA K H (vs.insertIdx n v) (ds.insertIdx n w)
  | _, _, 0, .nil => .cons q .nil
  | _, _, _ + 1, .nil => .nil
  | _, _, 0, .cons h r => .cons q (.cons h r)
  | _, _, n + 1, .cons h r => .cons h (RpA.insertIdx q n r)
theorem RpA.one {K : PySem.W.Frag} {H : Hp} {vs : List V} {w : D} (h : RpA K H vs [w]) : ∃ v, vs = [v] ∧ Rp K H v w := by
  cases h with
  | cons a t => cases t; exact ⟨_, rfl, a⟩
theorem RpA.two {K : PySem.W.Frag} {H : Hp} {vs : List V} {w w2 : D} (h : RpA K H vs [w, w2]) : ∃ v v2, vs = [v, v2] ∧ Rp K H v w ∧ Rp K H v2 w2 := by
  cases h with
  | cons a t =>
    obtain ⟨v2, rfl, r2⟩ := RpA.one t
    exact ⟨_, v2, rfl, a, r2⟩
theorem Rp.toRef {K : PySem.W.Frag} {H : Hp} {v : V} {a : Addr} (h : Rp K H v (.ref a)) : v = .ref a := by cases h; rfl
/-- fields -/
abbrev RF (K : PySem.W.Frag) (V0 : Hp) : List (Str × V) → List (Nat × D) → Prop := Paired fun (p : Str × V) (q : Nat × D) => p.1 = nm q.1 ∧ Rp K V0 p.2 q.2

/-- what an owned object holds -/
inductive OO where
  | lst (ws : List D)
  | ins (C : Addr) (fs : List (Nat × D))
  | dK (kvs : List (Key × D))
  | dT (kvs : List (List Key × D))
def RO (K : PySem.W.Frag) (V0 : Hp) (ho : HO) : OO → Prop
  | .lst ws => ∃ vs, ho = .lst vs ∧ RpA K V0 vs ws
  | .ins C fs => ∃ dx vf, ho = .ins C dx vf ∧ RF K V0 vf fs
  | .dK kvs => ∃ vs, ho = .dK vs ∧ RpK K V0 vs kvs
  | .dT kvs => ∃ vs, ho = .dT vs ∧ RpT K V0 vs kvs
theorem RO.mono {K : PySem.W.Frag} {H H' : Hp} (e : Same H H') {ho : HO} : ∀ {oo : OO}, RO K H ho oo → RO K H' ho oo
  | .lst _, ⟨vs, h, r⟩ => ⟨vs, h, r.mono e⟩
  | .ins _ _, ⟨dx, vf, h, r⟩ => ⟨dx, vf, h, Paired.mapP r fun _ _ z => ⟨z.1, z.2.mono e⟩⟩
  | .dK _, ⟨vs, h, r⟩ => ⟨vs, h, r.mono e⟩
  | .dT _, ⟨vs, h, r⟩ => ⟨vs, h, r.mono e⟩
abbrev Os := List (Addr × OO)

/-- H holds, apart from one another: the frame F, the data V0, the owned objects os -/
structure Rel (K : PySem.W.Frag) (F V0 : Hp) (os : Os) (H : Hp) : Prop where
  fr : Same F H
  vi : Same V0 H
  fv : ∀ a o, F a = some o → V0 a = none
  own : ∀ p ∈ os, F p.1 = none ∧ V0 p.1 = none ∧ ∃ ho, H p.1 = some ho ∧ RO K V0 ho p.2
  nd : (os.map (·.1)).Nodup
section
variable {K : PySem.W.Frag} {F V0 H : Hp} {os : Os} {p : Addr}
theorem none_of {H1 H2 : Hp} (e : Same H1 H2) {a : Addr} (h : H2 a = none) : H1 a = none := e.free h
theorem Rel.freshO (r : Rel K F V0 os H) (h : H p = none) : p ∉ os.map (·.1) := fun hm => by
  obtain ⟨q, hq, e⟩ := List.mem_map.mp hm
  obtain ⟨_, _, ho, eh, _⟩ := r.own q hq
  have e' : q.1 = p := e
  rw [e', h] at eh
  cases eh
theorem same_upd {H : Hp} {p : Addr} {o : HO} (h : H p = none) : Same H (upd H p o) := fun a u e => by
  rw [upd_ne (ne_of_none e h)]; exact e
/-- a new thing that never changes -/
theorem Rel.addV (r : Rel K F V0 os H) (h : H p = none) (o : HO) : Rel K F (upd V0 p o) os (upd H p o) := by
  have vp := r.vi.free h
  have fp := r.fr.free h
  have sv : Same V0 (upd V0 p o) := same_upd vp
  refine ⟨fun a u e => ?_, fun a u e => ?_, fun a u e => ?_, fun q hq => ?_, r.nd⟩
  · rw [upd_ne (ne_of_none e fp)]; exact r.fr a u e
  · by_cases ha : a = p
    · subst ha; rw [upd_same] at e ⊢; exact e
    · rw [upd_ne ha] at e ⊢; exact r.vi a u e
  · rw [upd_ne (ne_of_none e fp)]; exact r.fv a u e
  · obtain ⟨h1, h2, ho, h3, h4⟩ := r.own q hq
    have ne : q.1 ≠ p := ne_of_none h3 h
    exact ⟨h1, by rw [upd_ne ne]; exact h2, ho, by rw [upd_ne ne]; exact h3, h4.mono sv⟩
/-- a new owned thing -/
theorem Rel.addO (r : Rel K F V0 os H) (h : H p = none) {ho : HO} {oo : OO} (ro : RO K V0 ho oo) : Rel K F V0 ((p, oo) :: os) (upd H p ho) := by
  have sh : Same H (upd H p ho) := same_upd h
  refine ⟨r.fr.trans sh, r.vi.trans sh, r.fv, fun q hq => ?_, ?_⟩
  · rcases List.mem_cons.mp hq with e | hq
    · subst e; exact ⟨r.fr.free h, r.vi.free h, ho, upd_same, ro⟩
    · obtain ⟨h1, h2, ho', h3, h4⟩ := r.own q hq
      exact ⟨h1, h2, ho', sh _ _ h3, h4⟩
  · rw [List.map_cons, List.nodup_cons]; exact ⟨r.freshO h, r.nd⟩
theorem nd_fst {os : Os} (nd : (os.map (·.1)).Nodup) {i : Nat} {a : Addr} {oo : OO} (h : os[i]? = some (a, oo)) : ∀ p ∈ os, p.1 = a → p = (a, oo) := fun p hp e => by
  obtain ⟨j, hj⟩ := List.getElem?_of_mem hp
  have e1 : (os.map (·.1))[i]? = some a := by rw [List.getElem?_map, h]; rfl
  have e2 : (os.map (·.1))[j]? = some a := by rw [List.getElem?_map, hj]; exact congrArg some e
  have ij := nd_ix nd e1 e2
  subst ij
  rw [h] at hj
  exact (Option.some.inj hj).symm
/-- an owned thing changes -/
theorem Rel.mut (r : Rel K F V0 os H) {i : Nat} {a : Addr} {oo oo' : OO} (h : os[i]? = some (a, oo)) {ho : HO} (ro : RO K V0 ho oo') : Rel K F V0 (os.set i (a, oo')) (upd H a ho) := by
  obtain ⟨h1, h2, _, h3, _⟩ := r.own _ (List.mem_of_getElem? h)
  have hi : i < os.length := (List.getElem?_eq_some_iff.mp h).1
  have em : (os.set i (a, oo')).map (·.1) = os.map (·.1) := by
    rw [List.map_set]
    refine List.ext_getElem? fun j => ?_
    by_cases hj : i = j
    · subst hj
      rw [List.getElem?_set_self (by simpa using hi), List.getElem?_map, h]; rfl
    · rw [List.getElem?_set_ne hj]
  refine ⟨fun b u e => ?_, fun b u e => ?_, r.fv, fun q hq => ?_, by rw [em]; exact r.nd⟩
  · rw [upd_ne (ne_of_none e h1)]; exact r.fr b u e
  · rw [upd_ne (ne_of_none e h2)]; exact r.vi b u e
  · obtain ⟨j, hj⟩ := List.getElem?_of_mem hq
    by_cases hij : i = j
    · subst hij
      rw [List.getElem?_set_self hi] at hj
      have e := Option.some.inj hj
      subst e
      exact ⟨h1, h2, ho, upd_same, ro⟩
    · rw [List.getElem?_set_ne hij] at hj
      obtain ⟨k1, k2, ho', k3, k4⟩ := r.own q (List.mem_of_getElem? hj)
      have ne : q.1 ≠ a := fun e => by
        have e1 : (os.map (·.1))[i]? = some a := by rw [List.getElem?_map, h]; rfl
        have e2 : (os.map (·.1))[j]? = some a := by rw [List.getElem?_map, hj]; exact congrArg some e
        exact hij (nd_ix r.nd e1 e2)
      exact ⟨k1, k2, ho', by rw [upd_ne ne]; exact k3, k4⟩
theorem Rel.perm (r : Rel K F V0 os H) {os' : Os} (h : os.Perm os') : Rel K F V0 os' H :=
  ⟨r.fr, r.vi, r.fv, fun q hq => r.own q (h.mem_iff.mpr hq), (h.map _).nodup_iff.mp r.nd⟩
/-- fewer owned things are told -/
theorem Rel.drop (r : Rel K F V0 os H) {os' : Os} (h : os'.Sublist os) : Rel K F V0 os' H :=
  ⟨r.fr, r.vi, r.fv, fun q hq => r.own q (h.subset hq), r.nd.sublist (h.map _)⟩
/-- an owned list becomes data -/
theorem Rel.freeze (r : Rel K F V0 os H) {i : Nat} {a : Addr} {ds : List D} (h : os[i]? = some (a, .lst ds)) :
    ∃ V1, Same V0 V1 ∧ Rel K F V1 (os.eraseIdx i) H ∧ Rp K V1 (.ref a) (.lst ds) := by
  obtain ⟨h1, h2, ho, h3, vs, rfl, h4⟩ := r.own _ (List.mem_of_getElem? h)
  have sv : Same V0 (upd V0 a (.lst vs)) := same_upd h2
  refine ⟨upd V0 a (.lst vs), sv, ⟨r.fr, fun b u e => ?_, fun b u e => ?_, fun q hq => ?_, r.nd.sublist ((List.eraseIdx_sublist _ _).map _)⟩, .lst (.inl (.inl upd_same)) (RpA.mono sv h4)⟩
  · by_cases hb : b = a
    · subst hb; rw [upd_same] at e; cases e; exact h3
    · rw [upd_ne hb] at e; exact r.vi b u e
  · rw [upd_ne (ne_of_none e h1)]; exact r.fv b u e
  · obtain ⟨j, hj⟩ := List.getElem?_of_mem hq
    obtain ⟨k1, k2, ho', k3, k4⟩ := r.own q ((List.eraseIdx_sublist _ _).subset hq)
    have ne : q.1 ≠ a := fun e => by
      have e1 : (os.map (·.1))[i]? = some a := by rw [List.getElem?_map, h]; rfl
      rw [List.getElem?_eraseIdx] at hj
      split at hj
      · have e2 : (os.map (·.1))[j]? = some a := by rw [List.getElem?_map, hj]; exact congrArg some e
        have := nd_ix r.nd e1 e2
        omega
      · have e2 : (os.map (·.1))[j + 1]? = some a := by rw [List.getElem?_map, hj]; exact congrArg some e
        have := nd_ix r.nd e1 e2
        omega
    exact ⟨k1, by rw [upd_ne ne]; exact k2, ho', k3, k4.mono sv⟩
end

/-- a part of the owned things goes to the frame, and comes back -/
theorem Rel.frame {K : PySem.W.Frag} {F V0 H : Hp} {of or : Os} (r : Rel K F V0 (of ++ or) H) :
    ∃ F2 : Hp, Rel K F2 V0 of H ∧ ∀ (V1 : Hp) (os1 : Os) (H1 : Hp), Same V0 V1 → Rel K F2 V1 os1 H1 → Rel K F V1 (os1 ++ or) H1 := by
  have nd := r.nd
  rw [List.map_append, List.nodup_append] at nd
  obtain ⟨nd1, nd2, nd3⟩ := nd
  refine ⟨fun a => if a ∈ or.map (·.1) then H a else F a, ⟨fun a o e => ?_, r.vi, fun a o e => ?_, fun q hq => ?_, nd1⟩, fun V1 os1 H1 sv r1 => ?_⟩
  · (try dsimp only at e)
    split at e
    · exact e
    · exact r.fr a o e
  · (try dsimp only at e)
    split at e
    · rename_i hm
      obtain ⟨q, hq, rfl⟩ := List.mem_map.mp hm
      exact (r.own q (List.mem_append_right _ hq)).2.1
    · exact r.fv a o e
  · obtain ⟨h1, h2, h3⟩ := r.own q (List.mem_append_left _ hq)
    refine ⟨?_, h2, h3⟩
    (try dsimp only)
    rw [if_neg fun hm => nd3 q.1 (List.mem_map.mpr ⟨q, hq, rfl⟩) q.1 hm rfl]
    exact h1
  · have inF : ∀ q ∈ or, ∃ ho, H q.1 = some ho ∧ RO K V0 ho q.2 ∧ H1 q.1 = some ho ∧ V1 q.1 = none ∧ F q.1 = none := fun q hq => by
      obtain ⟨k1, k2, ho, k3, k4⟩ := r.own q (List.mem_append_right _ hq)
      have e : (if q.1 ∈ or.map (·.1) then H q.1 else F q.1) = some ho := by rw [if_pos (List.mem_map.mpr ⟨q, hq, rfl⟩)]; exact k3
      exact ⟨ho, k3, k4, r1.fr q.1 ho e, r1.fv q.1 ho e, k1⟩
    refine ⟨fun a o e => ?_, r1.vi, fun a o e => ?_, fun q hq => ?_, ?_⟩
    · by_cases hm : a ∈ or.map (·.1)
      · obtain ⟨q, hq, rfl⟩ := List.mem_map.mp hm
        obtain ⟨_, _, _, _, _, kf⟩ := inF q hq
        rw [kf] at e; cases e
      · exact r1.fr a o (by (try dsimp only); rw [if_neg hm]; exact e)
    · by_cases hm : a ∈ or.map (·.1)
      · obtain ⟨q, hq, rfl⟩ := List.mem_map.mp hm
        obtain ⟨_, _, _, _, kv, _⟩ := inF q hq
        exact kv
      · exact r1.fv a o (by (try dsimp only); rw [if_neg hm]; exact e)
    · rcases List.mem_append.mp hq with hq | hq
      · obtain ⟨k1, k2, k3⟩ := r1.own q hq
        refine ⟨?_, k2, k3⟩
        (try dsimp only at k1)
        split at k1
        · rename_i hm
          obtain ⟨q', hq', e⟩ := List.mem_map.mp hm
          obtain ⟨ho, e1, _⟩ := inF q' hq'
          rw [e, k1] at e1; cases e1
        · exact k1
      · obtain ⟨ho, k3, k4, k5, k6, k7⟩ := inF q hq
        exact ⟨k7, k6, ho, k5, k4.mono sv⟩
    · rw [List.map_append, List.nodup_append]
      refine ⟨r1.nd, nd2, fun a ha b hb e => ?_⟩
      subst e
      obtain ⟨q, hq, rfl⟩ := List.mem_map.mp ha
      obtain ⟨k1, _⟩ := r1.own q hq
      obtain ⟨q', hq', e⟩ := List.mem_map.mp hb
      obtain ⟨ho, e1, _⟩ := inF q' hq'
      (try dsimp only at k1)
      rw [if_pos hb] at k1
      rw [e, k1] at e1; cases e1
/-- the frame's slots -/
abbrev DEnv := List (Option D)
def SR (K : PySem.W.Frag) (V0 : Hp) (σ : L2.St) (env : DEnv) : Prop := σ.length = env.length ∧ ∀ (i : Nat) (w : D), env[i]? = some (some w) → ∃ v : V, σ[i]? = some (some v) ∧ Rp K V0 v w
theorem SR.mono {K : PySem.W.Frag} {V0 V1 : Hp} (e : Same V0 V1) {σ : L2.St} {env : DEnv} (h : SR K V0 σ env) : SR K V1 σ env :=
  ⟨h.1, fun i w q => let ⟨v, a, b⟩ := h.2 i w q; ⟨v, a, b.mono e⟩⟩
theorem SR.set {K : PySem.W.Frag} {V0 : Hp} {σ : L2.St} {env : DEnv} (h : SR K V0 σ env) {v : V} {w : D} (r : Rp K V0 v w) (i : Nat) : SR K V0 (σ.set i (some v)) (env.set i (some w)) := by
  refine ⟨by rw [List.length_set, List.length_set]; exact h.1, fun j u q => ?_⟩
  by_cases e : i = j
  · subst e
    have hi : i < env.length := by
      have := (List.getElem?_eq_some_iff.mp q).1
      rw [List.length_set] at this; exact this
    rw [List.getElem?_set_self hi] at q
    cases q
    exact ⟨v, by rw [List.getElem?_set_self (by rw [h.1]; exact hi)], r⟩
  · rw [List.getElem?_set_ne e] at q ⊢
    exact h.2 j u q

/-! ### canonical readings -/
@[irreducible] def wE (X : Cx) (e : Expr) : TE := fun σ H Q => ∀ (pins : List (Addr × Obj)) (s : Shared), Inv X pins σ H s → wpAny (model X.prog X.w) X.A (eval e X.env) (EP X pins σ Q) X.xe s
theorem wE_mk {X : Cx} {e : Expr} {σ : L2.St} {H : Hp} {Q : VK} (h : ∀ (pins : List (Addr × Obj)) (s : Shared), Inv X pins σ H s → wpAny (model X.prog X.w) X.A (eval e X.env) (EP X pins σ Q) X.xe s) : wE X e σ H Q := by unfold wE; exact h
theorem wE_run {X : Cx} {e : Expr} {σ : L2.St} {H : Hp} {Q : VK} (h : wE X e σ H Q) : ∀ (pins : List (Addr × Obj)) (s : Shared), Inv X pins σ H s → wpAny (model X.prog X.w) X.A (eval e X.env) (EP X pins σ Q) X.xe s := by unfold wE at h; exact h
theorem wE_pe {X : Cx} {e : Expr} : PE X e (wE X e) := by unfold wE; exact ⟨fun pins s _ _ _ I h => h pins s I⟩
theorem wE_of {X : Cx} {e : Expr} {t : TE} (h : PE X e t) {σ : L2.St} {H : Hp} {Q : VK} (q : t σ H Q) : wE X e σ H Q := by unfold wE; exact fun pins s I => h.run pins s σ H Q I q
@[irreducible] def wTt (X : Cx) (e : Expr) : TT := fun σ H Q => ∀ (pins : List (Addr × Obj)) (s : Shared), Inv X pins σ H s → wpAny (model X.prog X.w) X.A (isTrue e X.env (eval e X.env)) (TP X pins σ Q) X.xe s
theorem wTt_pt {X : Cx} {e : Expr} : PT X e (wTt X e) := by unfold wTt; exact ⟨fun pins s _ _ _ I h => h pins s I⟩
theorem wTt_of {X : Cx} {e : Expr} {t : TT} (h : PT X e t) {σ : L2.St} {H : Hp} {Q : Bool → Hp → Prop} (q : t σ H Q) : wTt X e σ H Q := by unfold wTt; exact fun pins s I => h.run pins s σ H Q I q
@[irreducible] def wPW (X : Cx) (e : Expr) : TT := fun σ H Q => ∀ (whole : Sem Value) (pins : List (Addr × Obj)) (s : Shared), Inv X pins σ H s → wpAny (model X.prog X.w) X.A (isTrue e X.env whole) (TP X pins σ Q) X.xe s
theorem wPW_pw {X : Cx} {e : Expr} : PW X e (wPW X e) := by unfold wPW; exact ⟨fun wh pins s _ _ _ I h => h wh pins s I⟩
theorem wPW_of {X : Cx} {e : Expr} {t : TT} (h : PW X e t) {σ : L2.St} {H : Hp} {Q : Bool → Hp → Prop} (q : t σ H Q) : wPW X e σ H Q := by unfold wPW; exact fun wh pins s I => h.run wh pins s σ H Q I q
@[irreducible] def wA (X : Cx) (es : List Expr) : TA := fun σ H Q => ∀ (pos : Pos) (pins : List (Addr × Obj)) (s : Shared), Inv X pins σ H s → wpAny (model X.prog X.w) X.A (spliced (backTo pos (starEach es X.env))) (AP X pins σ Q) X.xe s
theorem wA_pa {X : Cx} {es : List Expr} : PA X es (wA X es) := by unfold wA; exact ⟨fun pos pins s _ _ _ I h => h pos pins s I⟩
theorem wA_of {X : Cx} {es : List Expr} {t : TA} (h : PA X es t) {σ : L2.St} {H : Hp} {Q : List V → Hp → Prop} (q : t σ H Q) : wA X es σ H Q := by unfold wA; exact fun pos pins s I => h.run pos pins s σ H Q I q
@[irreducible] def wS1 (X : Cx) (st : Stmt) : TS := fun D σ H => ∀ (pins : List (Addr × Obj)) (s : Shared), Inv X pins σ H s → wpAny (model X.prog X.w) X.A (exec st X.env) (SP X pins D) X.xe s
theorem wS1_ps {X : Cx} {st : Stmt} : PS X st (wS1 X st) := by unfold wS1; exact ⟨fun pins s _ _ _ I h => h pins s I⟩
theorem wS1_of {X : Cx} {st : Stmt} {t : TS} (h : PS X st t) {σ : L2.St} {H : Hp} {D : Ends} (q : t D σ H) : wS1 X st D σ H := by unfold wS1; exact fun pins s I => h.run pins s σ H D I q
@[irreducible] def wSs (X : Cx) (sts : List Stmt) : TS := fun D σ H => ∀ (pins : List (Addr × Obj)) (s : Shared), Inv X pins σ H s → wpAny (model X.prog X.w) X.A (execs sts X.env) (SP X pins D) X.xe s
theorem wSs_pss {X : Cx} {sts : List Stmt} : PSs X sts (wSs X sts) := by unfold wSs; exact ⟨fun pins s _ _ _ I h => h pins s I⟩
theorem wSs_of {X : Cx} {sts : List Stmt} {t : TS} (h : PSs X sts t) {σ : L2.St} {H : Hp} {D : Ends} (q : t D σ H) : wSs X sts D σ H := by unfold wSs; exact fun pins s I => h.run pins s σ H D I q
@[irreducible] def wG (X : Cx) (tg : Expr) : TG := fun v σ H Q => ∀ (pins : List (Addr × Obj)) (s : Shared) (u : Value), Inv X pins σ H s → RelV v u → wpAny (model X.prog X.w) X.A (assign tg X.env u) (fun _ s' => ∃ σ' H', Inv X pins σ' H' s' ∧ Q σ' H') X.xe s
theorem wG_pg {X : Cx} {tg : Expr} : PG X tg (wG X tg) := by unfold wG; exact ⟨fun pins s _ _ _ u _ I r h => h pins s u I r⟩
theorem wG_of {X : Cx} {tg : Expr} {t : TG} (h : PG X tg t) {σ : L2.St} {H : Hp} {v : V} {Q : L2.St → Hp → Prop} (q : t v σ H Q) : wG X tg v σ H Q := by unfold wG; exact fun pins s u I r => h.run pins s σ H v u Q I r q
@[irreducible] def wGs (X : Cx) (tgs : List Expr) : TGs := fun vs σ H Q => ∀ (pins : List (Addr × Obj)) (s : Shared) (us : List Value), Inv X pins σ H s → Vals vs us → wpAny (model X.prog X.w) X.A (assignInOrder ((assignEach tgs X.env).map (·.2)) us) (fun _ s' => ∃ σ' H', Inv X pins σ' H' s' ∧ Q σ' H') X.xe s
theorem wGs_pgs {X : Cx} {tgs : List Expr} : PGs X tgs (wGs X tgs) := by unfold wGs; exact ⟨fun pins s _ _ _ us _ I r h => h pins s us I r⟩
theorem wGs_of {X : Cx} {tgs : List Expr} {t : TGs} (h : PGs X tgs t) {σ : L2.St} {H : Hp} {vs : List V} {Q : L2.St → Hp → Prop} (q : t vs σ H Q) : wGs X tgs vs σ H Q := by unfold wGs; exact fun pins s us I r => h.run pins s σ H vs us Q I r q
/-- a two-place operation on values -/
@[irreducible] def wO (X : Cx) (f : Value → Value → Sem Value) : R2 := fun x y H Q => ∀ (pins : List (Addr × Obj)) (s : Shared) (σ : L2.St) (v u : Value), Inv X pins σ H s → RelV x v → RelV y u → wpAny (model X.prog X.w) X.A (f v u) (EP X pins σ Q) X.xe s
theorem wO_mk {X : Cx} {f : Value → Value → Sem Value} {x y : V} {H : Hp} {Q : VK} (h : ∀ (pins : List (Addr × Obj)) (s : Shared) (σ : L2.St) (v u : Value), Inv X pins σ H s → RelV x v → RelV y u → wpAny (model X.prog X.w) X.A (f v u) (EP X pins σ Q) X.xe s) : wO X f x y H Q := by unfold wO; exact h
theorem wO_op {X : Cx} {f : Value → Value → Sem Value} : OpR X f (wO X f) := by unfold wO; exact fun pins s σ _ _ _ v u _ I r1 r2 h => h pins s σ v u I r1 r2
theorem wO_of {X : Cx} {f : Value → Value → Sem Value} {r : R2} (h : OpR X f r) {x y : V} {H : Hp} {Q : VK} (q : r x y H Q) : wO X f x y H Q := by unfold wO; exact fun pins s σ v u I r1 r2 => h pins s σ H x y v u Q I r1 r2 q
end EV

set_option Elab.async false
set_option linter.all false
set_option maxRecDepth 100000
/-! E2: judgements over plain values, and what an expression does as a transformer. -/
namespace EV
open PySem PySem.Spec PyProof.Rows L2

/-- an exception in the air: its class, its fields -/
structure Exn where
  C : Addr
  fs : List (Nat × D)
def ExnR (K : PySem.W.Frag) (V1 : Hp) (cls : Value) (d : Option Addr) (x : Exn) : Prop := cls = .ref x.C ∧ ∃ (dx : Addr) (vf : List (Str × V)), d = some dx ∧ V1 dx = some (.xd vf) ∧ RF K V1 vf x.fs
theorem ExnR.mono {K : PySem.W.Frag} {V1 V2 : Hp} {cls : Value} {d : Option Addr} {x : Exn} (s : Same V1 V2) (h : ExnR K V1 cls d x) : ExnR K V2 cls d x :=
  let ⟨e, dx, vf, e1, e2, r⟩ := h
  ⟨e, dx, vf, e1, s _ _ e2, Paired.mapP r fun _ _ z => ⟨z.1, z.2.mono s⟩⟩
abbrev Kx := Exn → Os → Prop
structure XkOk (X : Cx) (F V0 : Hp) (σ : L2.St) (kx : Kx) (W : WX) : Prop where
  tk : Takes X W
  ex : ∀ (V1 : Hp) (os1 : Os) (H1 : Hp) (cls : Value) (d : Option Addr) (x : Exn), Same V0 V1 → Rel X.K F V1 os1 H1 → ExnR X.K V1 cls d x → kx x os1 → W cls d σ H1
theorem XkOk.mono {X : Cx} {F V0 V1 : Hp} {σ : L2.St} {kx : Kx} {W : WX} (h : XkOk X F V0 σ kx W) (s : Same V0 V1) : XkOk X F V1 σ kx W :=
  ⟨h.tk, fun V2 os1 H1 cls d x s2 => h.ex V2 os1 H1 cls d x (s.trans s2)⟩
theorem XkOk.none {X : Cx} {F V0 : Hp} {σ : L2.St} : XkOk X F V0 σ (fun _ _ => False) (fun _ _ _ _ => False) := ⟨takes0, fun _ _ _ _ _ _ _ _ _ z => z⟩

def JE (X : Cx) (kx : Kx) (e : Expr) (env : DEnv) (os : Os) (k : D → Os → Prop) : Prop :=
  ∀ (F V0 H : Hp) (σ : L2.St) (Q : VK) (W : WX), Rel X.K F V0 os H → SR X.K V0 σ env → XkOk X F V0 σ kx W →
    (∀ (V1 : Hp) (os1 : Os) (H1 : Hp) (v : V) (w : D), Same V0 V1 → Rel X.K F V1 os1 H1 → Rp X.K V1 v w → k w os1 → Q v H1) → wE X e σ H Q
def JT (X : Cx) (kx : Kx) (e : Expr) (env : DEnv) (os : Os) (k : Bool → Os → Prop) : Prop :=
  ∀ (F V0 H : Hp) (σ : L2.St) (Q : Bool → Hp → Prop) (W : WX), Rel X.K F V0 os H → SR X.K V0 σ env → XkOk X F V0 σ kx W →
    (∀ (V1 : Hp) (os1 : Os) (H1 : Hp) (b : Bool), Same V0 V1 → Rel X.K F V1 os1 H1 → k b os1 → Q b H1) → wTt X e σ H Q
def JPW (X : Cx) (kx : Kx) (e : Expr) (env : DEnv) (os : Os) (k : Bool → Os → Prop) : Prop :=
  ∀ (F V0 H : Hp) (σ : L2.St) (Q : Bool → Hp → Prop) (W : WX), Rel X.K F V0 os H → SR X.K V0 σ env → XkOk X F V0 σ kx W →
    (∀ (V1 : Hp) (os1 : Os) (H1 : Hp) (b : Bool), Same V0 V1 → Rel X.K F V1 os1 H1 → k b os1 → Q b H1) → wPW X e σ H Q
def JA (X : Cx) (kx : Kx) (es : List Expr) (env : DEnv) (os : Os) (k : List D → Os → Prop) : Prop :=
  ∀ (F V0 H : Hp) (σ : L2.St) (Q : List V → Hp → Prop) (W : WX), Rel X.K F V0 os H → SR X.K V0 σ env → XkOk X F V0 σ kx W →
    (∀ (V1 : Hp) (os1 : Os) (H1 : Hp) (vs : List V) (ws : List D), Same V0 V1 → Rel X.K F V1 os1 H1 → RpA X.K V1 vs ws → k ws os1 → Q vs H1) → wA X es σ H Q
/-- a two-place operation by values -/
def JO (X : Cx) (f : Value → Value → Sem Value) (x y : D) (os : Os) (k : D → Os → Prop) : Prop :=
  ∀ (F V0 H : Hp) (v u : V) (Q : VK), Rel X.K F V0 os H → Rp X.K V0 v x → Rp X.K V0 u y →
    (∀ (V1 : Hp) (os1 : Os) (H1 : Hp) (z : V) (w : D), Same V0 V1 → Rel X.K F V1 os1 H1 → Rp X.K V1 z w → k w os1 → Q z H1) → wO X f v u H Q
theorem JE.mono {X : Cx} {kx : Kx} {e : Expr} {env : DEnv} {os : Os} {k k' : D → Os → Prop} (h : JE X kx e env os k) (hk : ∀ w o, k w o → k' w o) : JE X kx e env os k' :=
  fun F V0 H σ Q W r sr ek c => h F V0 H σ Q W r sr ek fun V1 o1 H1 v w a b d q => c V1 o1 H1 v w a b d (hk _ _ q)
theorem JE.drop {X : Cx} {kx : Kx} {e : Expr} {env : DEnv} {os os' : Os} {k : D → Os → Prop} (s : os'.Sublist os) (h : JE X kx e env os' k) : JE X kx e env os k := fun F V0 H σ Q W r => h F V0 H σ Q W (r.drop s)

/-! ### transformers -/
abbrev TrE := Kx → DEnv → Os → (D → Os → Prop) → Prop
abbrev TrT := Kx → DEnv → Os → (Bool → Os → Prop) → Prop
abbrev TrA := Kx → DEnv → Os → (List D → Os → Prop) → Prop
abbrev TrO := D → D → Os → (D → Os → Prop) → Prop
def Cm (X : Cx) (e : Expr) (t : TrE) : Prop := ∀ kx env os k, t kx env os k → JE X kx e env os k
def CmT (X : Cx) (e : Expr) (t : TrT) : Prop := ∀ kx env os k, t kx env os k → JT X kx e env os k
def CmPW (X : Cx) (e : Expr) (t : TrT) : Prop := ∀ kx env os k, t kx env os k → JPW X kx e env os k
def CmA (X : Cx) (es : List Expr) (t : TrA) (n : Nat) : Prop := es.length = n ∧ ∀ kx env os k, t kx env os k → JA X kx es env os fun ws os1 => ws.length = n ∧ k ws os1
def CmO (X : Cx) (f : Value → Value → Sem Value) (t : TrO) : Prop := ∀ x y os k, t x y os k → JO X f x y os k

/-- slots -/
def getE : DEnv → Nat → Option D
  | [], _ => none
  | x :: _, 0 => x
  | _ :: r, n + 1 => getE r n
def setE : DEnv → Nat → Option D → DEnv
  | [], _, _ => []
  | _ :: r, 0, y => y :: r
  | x :: r, n + 1, y => x :: setE r n y
theorem getE_eq : ∀ (env : DEnv) (i : Nat) (w : D), getE env i = some w → env[i]? = some (some w)
  | [], _, _, h => by cases h
  | x :: _, 0, w, h => by
    have h : x = some w := h
    rw [h]; rfl
  | _ :: r, n + 1, w, h => getE_eq r n w h
theorem setE_eq : ∀ (env : DEnv) (i : Nat) (y : Option D), setE env i y = env.set i y
  | [], _, _ => rfl
  | _ :: _, 0, _ => rfl
  | _ :: r, n + 1, y => congrArg (_ :: ·) (setE_eq r n y)

theorem rwI {K : PySem.W.Frag} {H : Hp} {i : Int} : Rp K H (.int i) (.int i) := .int i
theorem rwB {K : PySem.W.Frag} {H : Hp} {i : Bool} : Rp K H (.bl i) (.bl i) := .bl i
theorem rwS {K : PySem.W.Frag} {H : Hp} {i : Str} : Rp K H (.str i) (.str i) := .str i
theorem rwN {K : PySem.W.Frag} {H : Hp} : Rp K H .non .non := .non

section
variable {X : Cx} {kx : Kx} {env : DEnv} {os : Os} {k : D → Os → Prop} {kb : Bool → Os → Prop} {pos : Pos} {a b c e : Expr} {ta tb te : TrE}
theorem je_pure {t : TE} {w : D} (h : PE X e t) (hr : ∀ (F V0 H : Hp) (σ : L2.St) (Q : VK), Rel X.K F V0 os H → SR X.K V0 σ env → (∀ v, Rp X.K V0 v w → Q v H) → t σ H Q) (q : k w os) : JE X kx e env os k :=
  fun F V0 H σ Q W r sr ek c => wE_of h (hr F V0 H σ Q r sr fun v rv => c V0 os H v w (Same.refl _) r rv q)
def eV (i : Nat) : TrE := fun _ env os k => match getE env i with
  | some w => k w os
  | none => False
theorem cm_v {i : Nat} {x : Str} (hN : X.N[i]? = some x) (hv : Vis X.env.scope x) (hd : (x == ("__debug__" : Str)) = false) (hcd : (x == ("__classdict__" : Str)) = false) : Cm X (.Name x pos) (eV i) := by
  intro kx env os k h
  unfold eV at h
  split at h
  · rename_i w he
    refine je_pure (w := w) (pe_var hN hv hd hcd) (fun F V0 H σ Q r sr c => ?_) h
    obtain ⟨v, e1, r1⟩ := sr.2 i w (getE_eq _ _ _ he)
    exact ⟨v, e1, c v r1⟩
  · exact h.elim
/-- a value known beforehand -/
def eC (d : D) : TrE := fun _ _ os k => k d os
theorem cm_int {i : Int} {j} : Cm X (.Constant (.int i) j pos) (eC (.int i)) := fun _ _ _ _ q => je_pure (w := .int i) pe_int (fun _ _ _ _ _ _ _ c => c _ rwI) q
theorem cm_str {x : Str} {j} : Cm X (.Constant (.str x) j pos) (eC (.str x)) := fun _ _ _ _ q => je_pure (w := .str x) pe_str (fun _ _ _ _ _ _ _ c => c _ rwS) q
theorem cm_bl {x : Bool} {j} : Cm X (.Constant (.bool x) j pos) (eC (.bl x)) := fun _ _ _ _ q => je_pure (w := .bl x) pe_bl (fun _ _ _ _ _ _ _ c => c _ rwB) q
theorem cm_non {j} : Cm X (.Constant .none j pos) (eC .non) := fun _ _ _ _ q => je_pure (w := .non) pe_non (fun _ _ _ _ _ _ _ c => c _ rwN) q
/-- a constant of the module -/
structure Glb (K : PySem.W.Frag) (mg : Str → Option Value) (x : Str) (d : D) : Prop where
  ex : ∃ (v : V) (u : Value), mg x = some u ∧ RelV v u ∧ ∀ V0 : Hp, Rp K V0 v d
theorem cm_glob {x : Str} {d : D} (g : Glb X.K X.mg x d) (hg : Gl X x) (hd : (x == ("__debug__" : Str)) = false) : Cm X (.Name x pos) (eC d) := fun _ _ _ _ q => by
  obtain ⟨v, u, h1, h2, h3⟩ := g.ex
  exact je_pure (w := d) (pe_glob hg h1 h2 hd) (fun _ V0 _ _ _ _ _ c => c _ (h3 V0)) q
/-- a built-in class as a value -/
theorem cm_ty {x : Str} {n : String} (hv : bootBuiltins x = some (.type n)) (hm : X.mg x = none) (hg : Gl X x) (hn : x ≠ "__name__") (hd : (x == ("__debug__" : Str)) = false) : Cm X (.Name x pos) (eC (.ty n)) := fun _ _ _ _ q =>
  je_pure (w := .ty n) (pe_bltn hg hm hv (v := .ty n) rfl hn hd) (fun _ _ _ _ _ _ _ c => c _ (Rp.ty n)) q

/-! ### operators -/
def eBin (o : TrO) (ta tb : TrE) : TrE := fun kx env os k => ta kx env os fun x os1 => tb kx env os1 fun y os2 => o x y os2 k
theorem cm_bin {op : Operator} {o : TrO} (ho : CmO X (binaryOp op) o) (ha : Cm X a ta) (hb : Cm X b tb) : Cm X (.BinOp a op b pos) (eBin o ta tb) := by
  intro kx env os k h F V0 H σ Q W r sr ek c
  refine wE_of (pe_op (r := wO X (binaryOp op)) wO_op wE_pe wE_pe) ?_
  refine ha _ _ _ _ h F V0 H σ _ W r sr ek fun V1 os1 H1 v x s1 r1 rx hx => ?_
  refine hb _ _ _ _ hx F V1 H1 σ _ W r1 (sr.mono s1) (ek.mono s1) fun V2 os2 H2 u y s2 r2 ry hy => ?_
  exact ho _ _ _ _ hy F V2 H2 v u Q r2 (rx.mono s2) ry fun V3 os3 H3 z w s3 r3 rw' q => c V3 os3 H3 z w ((s1.trans s2).trans s3) r3 rw' q
theorem cm_cmp {op : CmpOp} {o : TrO} (ho : CmO X (compareOp op) o) (ha : Cm X a ta) (hb : Cm X b tb) (hm : behindInMarks op b = false) : Cm X (.Compare a [op] [b] pos) (eBin o ta tb) := by
  intro kx env os k h F V0 H σ Q W r sr ek c
  refine wE_of (pe_cmpR (r := wO X (compareOp op)) wO_op wE_pe wE_pe hm) ?_
  refine ha _ _ _ _ h F V0 H σ _ W r sr ek fun V1 os1 H1 v x s1 r1 rx hx => ?_
  refine hb _ _ _ _ hx F V1 H1 σ _ W r1 (sr.mono s1) (ek.mono s1) fun V2 os2 H2 u y s2 r2 ry hy => ?_
  exact ho _ _ _ _ hy F V2 H2 v u Q r2 (rx.mono s2) ry fun V3 os3 H3 z w s3 r3 rw' q => c V3 os3 H3 z w ((s1.trans s2).trans s3) r3 rw' q
/-- the answer of a test among values -/
def onB (kb : Bool → Os → Prop) (w : D) (os : Os) : Prop := match w with
  | .bl b => kb b os
  | _ => False
def tCmp (o : TrO) (ta tb : TrE) : TrT := fun kx env os kb => ta kx env os fun x os1 => tb kx env os1 fun y os2 => o x y os2 (onB kb)
theorem onB_bl {kb : Bool → Os → Prop} {w : D} {os : Os} (h : onB kb w os) : ∃ b, w = .bl b ∧ kb b os := by
  unfold onB at h
  split at h
  · exact ⟨_, rfl, h⟩
  · exact h.elim
theorem ct_cmp {op : CmpOp} {o : TrO} (ho : CmO X (compareOp op) o) (ha : Cm X a ta) (hb : Cm X b tb) (hm : behindInMarks op b = false) : CmT X (.Compare a [op] [b] pos) (tCmp o ta tb) := by
  intro kx env os k h F V0 H σ Q W r sr ek c
  refine wTt_of (pt_cmpR (r := wO X (compareOp op)) wO_op wE_pe wE_pe hm) ?_
  refine ha _ _ _ _ h F V0 H σ _ W r sr ek fun V1 os1 H1 v x s1 r1 rx hx => ?_
  refine hb _ _ _ _ hx F V1 H1 σ _ W r1 (sr.mono s1) (ek.mono s1) fun V2 os2 H2 u y s2 r2 ry hy => ?_
  refine ho _ _ _ _ hy F V2 H2 v u _ r2 (rx.mono s2) ry fun V3 os3 H3 z w s3 r3 rw' q => ?_
  obtain ⟨bo, e, q⟩ := onB_bl q
  subst e
  cases rw'
  exact ⟨bo, rfl, c V3 os3 H3 bo ((s1.trans s2).trans s3) r3 q⟩
/-- a op1 b op2 c as a test -/
def tChain (o o' : TrO) (ta tb tc : TrE) : TrT := fun kx env os kb => ta kx env os fun x os1 => tb kx env os1 fun y os2 => o x y os2 fun w os3 => onB (fun b1 os3 =>
  (b1 = true → tc kx env os3 fun z os4 => o' y z os4 (onB kb)) ∧ (b1 = false → kb false os3)) w os3
theorem ct_chain {op op' : CmpOp} {o o' : TrO} {tc : TrE} (ho : CmO X (compareOp op) o) (ho' : CmO X (compareOp op') o') (ha : Cm X a ta) (hb : Cm X b tb) (hc : Cm X c tc)
    (hm : lastMarks [op, op'] [b, c] = false) : CmT X (.Compare a [op, op'] [b, c] pos) (tChain o o' ta tb tc) := by
  intro kx env os k h F V0 H σ Q W r sr ek cc
  refine wTt_of (pt_chain (r := wO X (compareOp op)) (r' := wO X (compareOp op')) wO_op wO_op wE_pe wE_pe wE_pe hm) ?_
  refine ha _ _ _ _ h F V0 H σ _ W r sr ek fun V1 os1 H1 v x s1 r1 rx hx => ?_
  refine hb _ _ _ _ hx F V1 H1 σ _ W r1 (sr.mono s1) (ek.mono s1) fun V2 os2 H2 u y s2 r2 ry hy => ?_
  refine ho _ _ _ _ hy F V2 H2 v u _ r2 (rx.mono s2) ry fun V3 os3 H3 z w s3 r3 rw' q => ?_
  obtain ⟨bo, e, q1, q2⟩ := onB_bl q
  subst e
  cases rw'
  refine ⟨bo, rfl, ?_⟩
  cases bo with
  | false => exact iteF ⟨false, rfl, cc V3 os3 H3 false ((s1.trans s2).trans s3) r3 (q2 rfl)⟩
  | true =>
    refine iteT ?_
    refine hc _ _ _ _ (q1 rfl) F V3 H3 σ _ W r3 (sr.mono ((s1.trans s2).trans s3)) (ek.mono ((s1.trans s2).trans s3)) fun V4 os4 H4 v4 z4 s4 r4 rz hz => ?_
    refine ho' _ _ _ _ hz F V4 H4 u v4 _ r4 (ry.mono (s3.trans s4)) rz fun V5 os5 H5 z5 w5 s5 r5 rw5 q => ?_
    obtain ⟨bo2, e2, q3⟩ := onB_bl q
    subst e2
    cases rw5
    exact ⟨bo2, rfl, cc V5 os5 H5 bo2 ((((s1.trans s2).trans s3).trans s4).trans s5) r5 q3⟩

theorem JO.mk {f : Value → Value → Sem Value} {r : R2} {x y : D} (hf : OpR X f r)
    (h : ∀ (F V0 H : Hp) (v u : V) (Q : VK), Rel X.K F V0 os H → Rp X.K V0 v x → Rp X.K V0 u y →
      (∀ (V1 : Hp) (os1 : Os) (H1 : Hp) (z : V) (w : D), Same V0 V1 → Rel X.K F V1 os1 H1 → Rp X.K V1 z w → k w os1 → Q z H1) → r v u H Q) : JO X f x y os k :=
  fun F V0 H v u Q r1 rx ry c => wO_of hf (h F V0 H v u Q r1 rx ry c)
theorem jo_rI {f : Value → Value → Sem Value} {C : Int → Int → Prop} {g : Int → Int → Int} {i j : Int} (hf : OpR X f (rI C fun i j => .int (g i j))) (hc : C i j) (q : k (.int (g i j)) os) : JO X f (.int i) (.int j) os k :=
  JO.mk hf fun F V0 H v u Q r rx ry c => by
    cases rx; cases ry
    exact ⟨i, j, rfl, rfl, hc, c V0 os H _ _ (Same.refl _) r rwI q⟩
theorem jo_rI0 {f : Value → Value → Sem Value} {g : Int → Int → Int} {i j : Int} (hf : OpR X f (rI0 fun i j => .int (g i j))) (q : k (.int (g i j)) os) : JO X f (.int i) (.int j) os k :=
  JO.mk hf fun F V0 H v u Q r rx ry c => by
    cases rx; cases ry
    exact ⟨i, j, rfl, rfl, c V0 os H _ _ (Same.refl _) r rwI q⟩
theorem jo_rB0 {f : Value → Value → Sem Value} {g : Int → Int → Bool} {i j : Int} (hf : OpR X f (rI0 fun i j => .bl (g i j))) (q : k (.bl (g i j)) os) : JO X f (.int i) (.int j) os k :=
  JO.mk hf fun F V0 H v u Q r rx ry c => by
    cases rx; cases ry
    exact ⟨i, j, rfl, rfl, c V0 os H _ _ (Same.refl _) r rwB q⟩
/-- an operation on two ints with a condition -/
def oI (C : Int → Int → Prop) (g : Int → Int → Int) : TrO := fun x y os k => match x, y with
  | .int i, .int j => C i j ∧ k (.int (g i j)) os
  | _, _ => False
def oI0 (g : Int → Int → Int) : TrO := fun x y os k => match x, y with
  | .int i, .int j => k (.int (g i j)) os
  | _, _ => False
def oB0 (g : Int → Int → Bool) : TrO := fun x y os k => match x, y with
  | .int i, .int j => k (.bl (g i j)) os
  | _, _ => False
theorem cmo_I {f : Value → Value → Sem Value} {C C' : Int → Int → Prop} {g : Int → Int → Int} (hf : OpR X f (rI C fun i j => .int (g i j))) (hc : ∀ i j, C' i j → C i j) : CmO X f (oI C' g) := by
  intro x y os k h
  unfold oI at h
  split at h
  · exact jo_rI hf (hc _ _ h.1) h.2
  · exact h.elim
theorem cmo_I0 {f : Value → Value → Sem Value} {g : Int → Int → Int} (hf : OpR X f (rI0 fun i j => .int (g i j))) : CmO X f (oI0 g) := by
  intro x y os k h
  unfold oI0 at h
  split at h
  · exact jo_rI0 hf h
  · exact h.elim
theorem cmo_B0 {f : Value → Value → Sem Value} {g : Int → Int → Bool} (hf : OpR X f (rI0 fun i j => .bl (g i j))) : CmO X f (oB0 g) := by
  intro x y os k h
  unfold oB0 at h
  split at h
  · exact jo_rB0 hf h
  · exact h.elim
def MulOk (i j : Int) : Prop := (-18446744073709551616 < i ∧ i < 18446744073709551616) ∨ (-18446744073709551616 < j ∧ j < 18446744073709551616) ∨ CMulW i j
def DivOk (_ j : Int) : Prop := 0 < j ∧ j < 340282366920938463463374607431768211456
def ModOk (_ j : Int) : Prop := 0 < j
def PowOk (i j : Int) : Prop := 0 ≤ j ∧ j ≤ 1000000 ∧ -18446744073709551616 < i ∧ i < 18446744073709551616
def ShrOk (_ j : Int) : Prop := 0 ≤ j
def oSub : TrO := fun x y os k => match x, y with
  | .int i, .int j => k (.int (i - j)) os
  | _, _ => False
def oMul : TrO := fun x y os k => match x, y with
  | .int i, .int j => MulOk i j ∧ k (.int (i * j)) os
  | _, _ => False
def oDiv : TrO := fun x y os k => match x, y with
  | .int i, .int j => DivOk i j ∧ k (.int (i / j)) os
  | _, _ => False
def oMod : TrO := fun x y os k => match x, y with
  | .int i, .int j => ModOk i j ∧ k (.int (i % j)) os
  | _, _ => False
def oPow : TrO := fun x y os k => match x, y with
  | .int i, .int j => PowOk i j ∧ k (.int (i ^ j.toNat)) os
  | _, _ => False
def oShl : TrO := fun x y os k => match x, y with
  | .int i, .int j => PowOk i j ∧ k (.int (i * 2 ^ j.toNat)) os
  | _, _ => False
def oShr : TrO := fun x y os k => match x, y with
  | .int i, .int j => ShrOk i j ∧ k (.int (i / 2 ^ j.toNat)) os
  | _, _ => False
def oBand : TrO := fun x y os k => match x, y with
  | .int i, .int j => k (.int (Builtin.bitAnd i j)) os
  | _, _ => False
def oBor : TrO := fun x y os k => match x, y with
  | .int i, .int j => k (.int (Builtin.bitOr i j)) os
  | _, _ => False
def oBxor : TrO := fun x y os k => match x, y with
  | .int i, .int j => k (.int (Builtin.bitXor i j)) os
  | _, _ => False
def oLt : TrO := fun x y os k => match x, y with
  | .int i, .int j => k (.bl (decide (i < j))) os
  | _, _ => False
def oLe : TrO := fun x y os k => match x, y with
  | .int i, .int j => k (.bl (decide (i ≤ j))) os
  | _, _ => False
def oGt : TrO := fun x y os k => match x, y with
  | .int i, .int j => k (.bl (decide (j < i))) os
  | _, _ => False
def oGe : TrO := fun x y os k => match x, y with
  | .int i, .int j => k (.bl (decide (j ≤ i))) os
  | _, _ => False
theorem cmo_sub : CmO X (binaryOp .Sub) oSub := cmo_I0 op_sub
theorem pow64 : (2 : Nat) ^ 64 = 18446744073709551616 := by decide
theorem cmo_mul : CmO X (binaryOp .Mult) oMul := by
  intro x y os k h
  unfold oMul at h
  split at h
  · obtain ⟨hc | hc | hc, q⟩ := h
    · exact jo_rI op_mul (.inl hc) q
    · exact jo_rI op_mul (.inr hc) q
    · exact jo_rI op_mulW hc q
  · exact h.elim
theorem cmo_div : CmO X (binaryOp .FloorDiv) oDiv := cmo_I op_fdivW fun i j h => wide_div (b := 128) h.1 (by rw [show (2 : Nat) ^ 128 = 340282366920938463463374607431768211456 from by decide]; have := h.1; have := h.2; omega) (by decide) (by decide)
theorem cmo_mod : CmO X (binaryOp .Mod) oMod := cmo_I op_mod fun _ _ h => h
theorem cmo_pow : CmO X (binaryOp .Pow) oPow := cmo_I op_pow fun i j h => ⟨h.1, h.2.1, by rw [pow64]; have := h.2.2; omega⟩
theorem cmo_shl : CmO X (binaryOp .LShift) oShl := cmo_I op_shl fun i j h => ⟨h.1, h.2.1, by rw [pow64]; have := h.2.2; omega⟩
theorem cmo_shr : CmO X (binaryOp .RShift) oShr := cmo_I op_shr fun _ _ h => h
theorem cmo_band : CmO X (binaryOp .BitAnd) oBand := cmo_I0 op_and
theorem cmo_bor : CmO X (binaryOp .BitOr) oBor := cmo_I0 op_or
theorem cmo_bxor : CmO X (binaryOp .BitXor) oBxor := cmo_I0 op_xor
theorem cmo_lt : CmO X (compareOp .Lt) oLt := cmo_B0 op_lt
theorem cmo_le : CmO X (compareOp .LtE) oLe := cmo_B0 op_le
theorem cmo_gt : CmO X (compareOp .Gt) oGt := cmo_B0 op_gt
theorem cmo_ge : CmO X (compareOp .GtE) oGe := cmo_B0 op_ge
/-- the list behind an address or in data -/
theorem rp_lst {K : PySem.W.Frag} {V0 : Hp} {v : V} {ds : List D} (h : Rp K V0 v (.lst ds)) : ∃ a xs, v = .ref a ∧ SqL K V0 a xs ∧ RpA K V0 xs ds := by
  cases h with
  | lst h1 h2 => exact ⟨_, _, rfl, h1, h2⟩
theorem rp_tup {K : PySem.W.Frag} {V0 : Hp} {v : V} {ds : List D} (h : Rp K V0 v (.tup ds)) : ∃ a xs, v = .ref a ∧ SqT K V0 a xs ∧ RpA K V0 xs ds := by
  cases h with
  | tup h1 h2 => exact ⟨_, _, rfl, h1, h2⟩
/-- w is a list of ds: data, or owned -/
def LstOf (os : Os) (w : D) (ds : List D) : Prop := match w with
  | .lst es => ds = es
  | .ref p => ∃ n : Nat, os[n]? = some (p, .lst ds)
  | _ => False
theorem lstOf_of {K : PySem.W.Frag} {F V0 H : Hp} {v : V} {w : D} {ds : List D} (r : Rel K F V0 os H) (rv : Rp K V0 v w) (h : LstOf os w ds) : ∃ a vs, v = .ref a ∧ SqL K H a vs ∧ RpA K V0 vs ds := by
  unfold LstOf at h
  split at h
  · subst h
    obtain ⟨a, xs, rfl, h1, h2⟩ := rp_lst rv
    exact ⟨a, xs, rfl, r.vi.seq h1, h2⟩
  · obtain ⟨n, ho⟩ := h
    obtain rfl := rv.toRef
    obtain ⟨_, _, ho', h3, vs, rfl, h4⟩ := r.own _ (List.mem_of_getElem? ho)
    exact ⟨_, vs, rfl, SqL.of h3, h4⟩
  · exact h.elim
/-- a new tuple, a new list, of data -/
theorem rel_newT {K : PySem.W.Frag} {F V0 H : Hp} {p : Addr} {vs : List V} {ds : List D} (r : Rel K F V0 os H) (hp : H p = none) (rs : RpA K V0 vs ds) :
    Same V0 (upd V0 p (.tup vs)) ∧ Rel K F (upd V0 p (.tup vs)) os (upd H p (.tup vs)) ∧ Rp K (upd V0 p (.tup vs)) (.ref p) (.tup ds) :=
  have s := same_upd (o := .tup vs) (r.vi.free hp)
  ⟨s, r.addV hp _, .tup (.inl (.inl upd_same)) (RpA.mono s rs)⟩
theorem rel_newL {K : PySem.W.Frag} {F V0 H : Hp} {p : Addr} {vs : List V} {ds : List D} (r : Rel K F V0 os H) (hp : H p = none) (rs : RpA K V0 vs ds) :
    Same V0 (upd V0 p (.lst vs)) ∧ Rel K F (upd V0 p (.lst vs)) os (upd H p (.lst vs)) ∧ Rp K (upd V0 p (.lst vs)) (.ref p) (.lst ds) :=
  have s := same_upd (o := .lst vs) (r.vi.free hp)
  ⟨s, r.addV hp _, .lst (.inl (.inl upd_same)) (RpA.mono s rs)⟩
/-- list + list -/
def rCatS (K : PySem.W.Frag) : R2 := fun x y H Q => ∃ a b xs ys, x = .ref a ∧ y = .ref b ∧ SqL K H a xs ∧ SqL K H b ys ∧ xs.length + ys.length ≤ sizeLine ∧ ∀ l, H l = none → Q (.ref l) (upd H l (.lst (xs ++ ys)))
end
end EV

set_option Elab.async false
set_option linter.all false
set_option maxRecDepth 100000
/-! E3: +, ==, in, is; tests; displays; subscripts; slices. -/
namespace EV
open PySem PySem.Spec PyProof.Rows L2
section
variable {X : Cx} {os : Os} {k : D → Os → Prop} {env : DEnv}
theorem op_catS : OpR X (binaryOp .Add) (rCatS X.K) := by
  intro pins s σ H x y v u Q I rx ry h
  obtain ⟨a, b, xs, ys, rfl, rfl, h1, h2, hz, q⟩ := h
  cases rx
  cases ry
  obtain ⟨us, r1, ⟨⟨cls, dd, data, sl⟩, n, ho, hc, hn, hd⟩, _⟩ := I.list h1
  obtain ⟨ws, r2, ⟨⟨cls2, dd2, data2, sl2⟩, n2, ho2, hc2, hn2, hd2⟩, _⟩ := I.list h2
  simp only at hc hd hc2 hd2
  subst hc hd hc2 hd2
  have hl : (us ++ ws).length ≤ sizeLine := by rw [List.length_append, ← r1.length, ← r2.length]; exact hz
  have ee : us.toArray ++ ws.toArray = (us ++ ws).toArray := by simp
  have kk := list_addW a b us.toArray ws.toArray n n2 dd dd2 sl sl2 (by rw [List.length_append] at hl; simpa using hl)
  refine concat_meets ⟨_, ho, rfl⟩ ⟨_, ho2, rfl⟩ noFill_list_add seq_list_add PySem.F.slot_list_add PySem.F.entry_list_add (PySem.F.args_list_add_2 _ _) kk ⟨ho, ho2, ?_⟩
  rw [ee]
  exact ⟨.ref _, _, I.lnew (t' := s.toks) (r1.append r2) (by rw [(r1.append r2).length]; exact hl), rfl, q _ I.fresh⟩
theorem jo_cat {x y : D} {ds es : List D} (hx : LstOf os x ds) (hy : LstOf os y es) (hl : ds.length + es.length ≤ sizeLine) (q : k (.lst (ds ++ es)) os) : JO X (binaryOp .Add) x y os k :=
  JO.mk op_catS fun F V0 H v u Q r rx ry c => by
    obtain ⟨a, xs, rfl, h1, r1⟩ := lstOf_of r rx hx
    obtain ⟨b, ys, rfl, h2, r2⟩ := lstOf_of r ry hy
    refine ⟨a, b, xs, ys, rfl, rfl, h1, h2, by rw [r1.length, r2.length]; exact hl, fun p hp => ?_⟩
    obtain ⟨s2, r3, rp⟩ := rel_newL r hp (r1.append r2)
    exact c _ os _ _ (.lst (ds ++ es)) s2 r3 rp q
theorem jo_catO {x y : D} {ds es : List D} (hx : LstOf os x ds) (hy : LstOf os y es) (hl : ds.length + es.length ≤ sizeLine) (q : ∀ p, k (.ref p) ((p, .lst (ds ++ es)) :: os)) : JO X (binaryOp .Add) x y os k :=
  JO.mk op_catS fun F V0 H v u Q r rx ry c => by
    obtain ⟨a, xs, rfl, h1, r1⟩ := lstOf_of r rx hx
    obtain ⟨b, ys, rfl, h2, r2⟩ := lstOf_of r ry hy
    refine ⟨a, b, xs, ys, rfl, rfl, h1, h2, by rw [r1.length, r2.length]; exact hl, fun p hp => ?_⟩
    exact c V0 _ _ _ (.ref p) (Same.refl _) (r.addO hp (oo := .lst (ds ++ es)) ⟨_, rfl, r1.append r2⟩) (.ref p) (q p)
theorem jo_addS {x y : Str} (h : x.length + y.length ≤ sizeLine) (q : k (.str (x ++ y)) os) : JO X (binaryOp .Add) (.str x) (.str y) os k :=
  JO.mk op_add_str fun F V0 H v u Q r rx ry c => by
    cases rx; cases ry
    exact ⟨x, y, rfl, rfl, h, c V0 os H _ _ (Same.refl _) r rwS q⟩
def catL (x y : D) (os : Os) (k : D → Os → Prop) : Prop := ∃ ds es, LstOf os x ds ∧ LstOf os y es ∧ ds.length + es.length ≤ sizeLine ∧ k (.lst (ds ++ es)) os
def oAdd : TrO := fun x y os k => match x with
  | .int i => (match y with
    | .int j => k (.int (i + j)) os
    | _ => False)
  | .str a => (match y with
    | .str b => a.length + b.length ≤ sizeLine ∧ k (.str (a ++ b)) os
    | _ => False)
  | .lst ds => (match y with
    | .lst es => ds.length + es.length ≤ sizeLine ∧ k (.lst (ds ++ es)) os
    | y => catL (.lst ds) y os k)
  | x => catL x y os k
theorem cmo_add : CmO X (binaryOp .Add) oAdd := by
  intro x y os k h
  have gen : ∀ x y, catL x y os k → JO X (binaryOp .Add) x y os k := fun x y ⟨ds, es, h1, h2, h3, q⟩ => jo_cat h1 h2 h3 q
  unfold oAdd at h
  split at h
  · split at h
    · exact jo_rI0 op_add h
    · exact h.elim
  · split at h
    · exact jo_addS h.1 h.2
    · exact h.elim
  · split at h
    · exact jo_cat (ds := _) (es := _) rfl rfl h.1 h.2
    · exact gen _ _ h
  · exact gen _ _ h
/-- list + list, the new one owned -/
def oAddO : TrO := fun x y os k => ∃ ds es, LstOf os x ds ∧ LstOf os y es ∧ ds.length + es.length ≤ sizeLine ∧ ∀ p, k (.ref p) ((p, .lst (ds ++ es)) :: os)
theorem cmo_addO : CmO X (binaryOp .Add) oAddO := fun x y os k ⟨ds, es, h1, h2, h3, q⟩ => jo_catO h1 h2 h3 q
end

/-! ### == -/
mutual
def toP : D → PyData
  | .non => .none
  | .bl b => .bool b
  | .int i => .int i
  | .str x => .str x
  | .ty _ => .none
  | .tup ds => .tuple (toPs ds)
  | .lst ds => .list (toPs ds)
  | .dK _ => .none
  | .dT _ => .none
  | .exn .. => .none
  | .ref _ => .none
def toPs : List D → List PyData
  | [] => []
  | d :: ds => toP d :: toPs ds
end
mutual
/-- no types inside, not too deep, texts that can be held -/
def shp : D → Nat → Bool
  | .non, _ => true
  | .bl _, _ => true
  | .int _, _ => true
  | .str x, _ => PyData.canLay0 (.str x)
  | .ty _, _ => false
  | .tup ds, n => decide (0 < n) && shpA ds (n - 1)
  | .lst ds, n => decide (0 < n) && shpA ds (n - 1)
  | .dK _, _ => false
  | .dT _, _ => false
  | .exn .., _ => false
  | .ref _, _ => false
def shpA : List D → Nat → Bool
  | [], _ => true
  | d :: ds, n => shp d n && shpA ds n
end
theorem toPs_map (ds : List D) : toPs ds = ds.map toP := by
  induction ds with
  | nil => rfl
  | cons d ds ih => rw [toPs, ih, List.map_cons]
theorem shpA_all {ds : List D} {n : Nat} : shpA ds n = true ↔ ∀ d ∈ ds, shp d n = true := by
  induction ds with
  | nil => simp [shpA]
  | cons d ds ih => rw [shpA, Bool.and_eq_true, ih]; simp
mutual
theorem shp_lay : ∀ {d : D} {n : Nat}, shp d n = true → (toP d).canLay0 = true ∧ (toP d).depth ≤ n + 1
  | .non, n, _ => by simp [toP, PyData.canLay0, PyData.depth]
  | .bl b, n, _ => by simp [toP, PyData.canLay0, PyData.depth]
  | .int i, n, _ => by simp [toP, PyData.canLay0, PyData.depth]
  | .str x, n, h => ⟨h, by simp [toP, PyData.depth]⟩
  | .tup ds, n, h => by
    rw [shp, Bool.and_eq_true, decide_eq_true_iff] at h
    obtain ⟨h1, h2⟩ := shpA_lay h.2
    simp only [toP, PyData.canLay0, PyData.depth]
    exact ⟨h1, by omega⟩
  | .lst ds, n, h => by
    rw [shp, Bool.and_eq_true, decide_eq_true_iff] at h
    obtain ⟨h1, h2⟩ := shpA_lay h.2
    simp only [toP, PyData.canLay0, PyData.depth]
    exact ⟨h1, by omega⟩
theorem shpA_lay : ∀ {ds : List D} {n : Nat}, shpA ds n = true → PyData.canLayAll0 (toPs ds) = true ∧ PyData.depthAll (toPs ds) ≤ n + 1
  | [], n, _ => by simp [toPs, PyData.canLayAll0, PyData.depthAll]
  | d :: ds, n, h => by
    rw [shpA, Bool.and_eq_true] at h
    obtain ⟨h1, h2⟩ := shp_lay h.1
    obtain ⟨h3, h4⟩ := shpA_lay h.2
    simp only [toPs, PyData.canLayAll0, PyData.depthAll, Bool.and_eq_true]
    exact ⟨⟨h1, h3⟩, by omega⟩
end
theorem shp_shaped {d : D} (h : shp d 60 = true) : SeqAt.shaped (toP d) = true := by
  obtain ⟨h1, h2⟩ := shp_lay h
  show (PyData.canLay0 (toP d) && decide ((toP d).depth ≤ 64)) = true
  rw [h1, Bool.true_and, decide_eq_true_iff]
  omega
mutual
/-- w is the data d: owned lists inside are read -/
inductive AsD (os : Os) : D → D → Prop
  | same (d : D) : AsD os d d
  | tup {ws ds : List D} : AsDs os ws ds → AsD os (.tup ws) (.tup ds)
  | lst {ws ds : List D} : AsDs os ws ds → AsD os (.lst ws) (.lst ds)
  | own {p : Addr} {n : Nat} {ws ds : List D} : os[n]? = some (p, .lst ws) → AsDs os ws ds → AsD os (.ref p) (.lst ds)
inductive AsDs (os : Os) : List D → List D → Prop
  | same (ds : List D) : AsDs os ds ds
  | nil : AsDs os [] []
  | cons {w d : D} {ws ds : List D} : AsD os w d → AsDs os ws ds → AsDs os (w :: ws) (d :: ds)
end
theorem AsD.own1 {os : Os} {p : Addr} {n : Nat} {ws : List D} (h : os[n]? = some (p, .lst ws)) : AsD os (.ref p) (.lst ws) := .own h (.same ws)
mutual
theorem dp_of {K : PySem.W.Frag} {H : Hp} : ∀ {d : D} {v : V} {n : Nat}, shp d n = true → Rp K H v d → Dp K H v (toP d)
  | .non, _, _, _, h => by cases h; exact .non
  | .bl b, _, _, _, h => by cases h; exact .bl b
  | .int b, _, _, _, h => by cases h; exact .int b
  | .str b, _, _, _, h => by cases h; exact .str b
  | .tup ds, _, n, s, h => by
    rw [shp, Bool.and_eq_true] at s
    cases h with
    | tup h1 h2 => exact .tup h1 (dpA_of s.2 h2)
  | .lst ds, _, n, s, h => by
    rw [shp, Bool.and_eq_true] at s
    cases h with
    | lst h1 h2 => exact .lst h1 (dpA_of s.2 h2)
theorem dpA_of {K : PySem.W.Frag} {H : Hp} : ∀ {ds : List D} {vs : List V} {n : Nat}, shpA ds n = true → RpA K H vs ds → DpAll K H vs (toPs ds)
  | [], _, _, _, h => by cases h; exact .nil
  | d :: ds, _, n, s, h => by
    rw [shpA, Bool.and_eq_true] at s
    cases h with
    | cons h1 h2 => exact .cons (dp_of s.1 h1) (dpA_of s.2 h2)
end
mutual
theorem asD_dp {K : PySem.W.Frag} {F V0 H : Hp} {os : Os} (r : Rel K F V0 os H) : ∀ {w d : D} {v : V} {n : Nat}, AsD os w d → shp d n = true → Rp K V0 v w → Dp K H v (toP d)
  | _, _, _, _, .same d, s, rv => dp_of s (Rp.mono r.vi rv)
  | _, _, _, n, .tup h, s, rv => by
    rw [shp, Bool.and_eq_true] at s
    cases rv with
    | tup h1 h2 => exact .tup (same_sqT r.vi h1) (asDs_dp r h s.2 h2)
  | _, _, _, n, .lst h, s, rv => by
    rw [shp, Bool.and_eq_true] at s
    cases rv with
    | lst h1 h2 => exact .lst (r.vi.seq h1) (asDs_dp r h s.2 h2)
  | _, _, _, n, .own ho h, s, rv => by
    rw [shp, Bool.and_eq_true] at s
    obtain rfl := rv.toRef
    obtain ⟨_, _, ho', h3, vs, rfl, h4⟩ := r.own _ (List.mem_of_getElem? ho)
    exact .lst (SqL.of h3) (asDs_dp r h s.2 h4)
theorem asDs_dp {K : PySem.W.Frag} {F V0 H : Hp} {os : Os} (r : Rel K F V0 os H) : ∀ {ws ds : List D} {vs : List V} {n : Nat}, AsDs os ws ds → shpA ds n = true → RpA K V0 vs ws → DpAll K H vs (toPs ds)
  | _, _, _, _, .same d, s, rv => dpA_of s (RpA.mono r.vi rv)
  | _, _, _, _, .nil, s, rv => by cases rv; exact .nil
  | _, _, _, _, .cons h1 h2, s, rv => by
    rw [shpA, Bool.and_eq_true] at s
    cases rv with
    | cons a b => exact .cons (asD_dp r h1 s.1 a) (asDs_dp r h2 s.2 b)
end
def eqD (d e : D) : Bool := PyData.eqv (toP d) (toP e)
def genEq (x y : D) (os : Os) (k : Bool → Prop) : Prop := ∃ d e, AsD os x d ∧ AsD os y e ∧ shp d 60 = true ∧ shp e 60 = true ∧ k (eqD d e)
/-- data that == tells apart by their value -/
def scalD : D → V
  | .non => .non | .bl b => .bl b | .int i => .int i | .str x => .str x | .ty n => .ty n | _ => .flt 0
def isScal : D → Bool
  | .non => true | .bl _ => true | .int _ => true | .str _ => true | _ => false
theorem rp_scal {K : PySem.W.Frag} {V0 : Hp} {v : V} : ∀ {d : D}, isScal d = true → Rp K V0 v d → v = scalD d
  | .non, _, h => by cases h; rfl
  | .bl _, _, h => by cases h; rfl
  | .int _, _, h => by cases h; rfl
  | .str _, _, h => by cases h; rfl
def oEq : TrO := fun x y os k => match x with
  | .int i => (match y with
    | .int j => k (.bl (decide (i = j))) os
    | y => genEq (.int i) y os fun b => k (.bl b) os)
  | .str i => (match y with
    | .str j => k (.bl (decide (i = j))) os
    | y => genEq (.str i) y os fun b => k (.bl b) os)
  | .bl i => (match y with
    | .bl j => k (.bl (decide (i = j))) os
    | y => genEq (.bl i) y os fun b => k (.bl b) os)
  | x => genEq x y os fun b => k (.bl b) os
def oNe : TrO := fun x y os k => match x with
  | .int i => (match y with
    | .int j => k (.bl (!decide (i = j))) os
    | y => genEq (.int i) y os fun b => k (.bl (!b)) os)
  | .str i => (match y with
    | .str j => k (.bl (!decide (i = j))) os
    | y => genEq (.str i) y os fun b => k (.bl (!b)) os)
  | .bl i => (match y with
    | .bl j => k (.bl (!decide (i = j))) os
    | y => genEq (.bl i) y os fun b => k (.bl (!b)) os)
  | x => genEq x y os fun b => k (.bl (!b)) os
section
variable {X : Cx} {os : Os} {k : D → Os → Prop} {env : DEnv} {kb : Bool → Os → Prop}
theorem jo_gen {lvl : Nat} {x y : D} (hr : Room lvl X.A) (h : genEq x y os fun b => k (.bl b) os) : JO X (compareOp .Eq) x y os k := by
  obtain ⟨d, e, h1, h2, s1, s2, q⟩ := h
  exact JO.mk (op_eqD hr.units) fun F V0 H v u Q r rx ry c => ⟨_, _, asD_dp r h1 s1 rx, asD_dp r h2 s2 ry, shp_shaped s1, shp_shaped s2, c V0 os H _ _ (Same.refl _) r rwB q⟩
theorem jo_genN {lvl : Nat} {x y : D} (hr : Room lvl X.A) (h : genEq x y os fun b => k (.bl (!b)) os) : JO X (compareOp .NotEq) x y os k := by
  obtain ⟨d, e, h1, h2, s1, s2, q⟩ := h
  exact JO.mk (op_neD hr.units) fun F V0 H v u Q r rx ry c => ⟨_, _, asD_dp r h1 s1 rx, asD_dp r h2 s2 ry, shp_shaped s1, shp_shaped s2, c V0 os H _ _ (Same.refl _) r rwB q⟩
theorem jo_eqS {d1 d2 : D} (h1 : isScal d1 = true) (h2 : isScal d2 = true) (h : scal (scalD d1) (scalD d2) = true) (q : k (.bl (decide (scalD d1 = scalD d2))) os) : JO X (compareOp .Eq) d1 d2 os k :=
  JO.mk op_eq fun F V0 H v u Q r rx ry c => by
    have e1 := rp_scal h1 rx
    have e2 := rp_scal h2 ry
    subst e1 e2
    exact ⟨h, c V0 os H _ _ (Same.refl _) r rwB q⟩
theorem jo_neS {d1 d2 : D} (h1 : isScal d1 = true) (h2 : isScal d2 = true) (h : scal (scalD d1) (scalD d2) = true) (q : k (.bl (!decide (scalD d1 = scalD d2))) os) : JO X (compareOp .NotEq) d1 d2 os k :=
  JO.mk op_ne fun F V0 H v u Q r rx ry c => by
    have e1 := rp_scal h1 rx
    have e2 := rp_scal h2 ry
    subst e1 e2
    exact ⟨h, c V0 os H _ _ (Same.refl _) r rwB q⟩
theorem cmo_eq {lvl : Nat} (hr : Room lvl X.A) : CmO X (compareOp .Eq) oEq := by
  intro x y os k h
  unfold oEq at h
  split at h
  · rename_i i
    split at h
    · rename_i j
      refine jo_eqS rfl rfl rfl ?_
      rw [show decide (scalD (.int i) = scalD (.int j)) = decide (i = j) from decide_eq_decide.mpr ⟨fun h => V.int.inj h, fun h => congrArg V.int h⟩]; exact h
    · exact jo_gen hr h
  · rename_i i
    split at h
    · rename_i j
      refine jo_eqS rfl rfl rfl ?_
      rw [show decide (scalD (.str i) = scalD (.str j)) = decide (i = j) from decide_eq_decide.mpr ⟨fun h => V.str.inj h, fun h => congrArg V.str h⟩]; exact h
    · exact jo_gen hr h
  · rename_i i
    split at h
    · rename_i j
      refine jo_gen hr ⟨_, _, .same _, .same _, rfl, rfl, ?_⟩
      rw [show eqD (.bl i) (.bl j) = decide (i = j) from by cases i <;> cases j <;> rfl]
      exact h
    · exact jo_gen hr h
  · exact jo_gen hr h
theorem cmo_ne {lvl : Nat} (hr : Room lvl X.A) : CmO X (compareOp .NotEq) oNe := by
  intro x y os k h
  unfold oNe at h
  split at h
  · rename_i i
    split at h
    · rename_i j
      refine jo_neS rfl rfl rfl ?_
      rw [show decide (scalD (.int i) = scalD (.int j)) = decide (i = j) from decide_eq_decide.mpr ⟨fun h => V.int.inj h, fun h => congrArg V.int h⟩]; exact h
    · exact jo_genN hr h
  · rename_i i
    split at h
    · rename_i j
      refine jo_neS rfl rfl rfl ?_
      rw [show decide (scalD (.str i) = scalD (.str j)) = decide (i = j) from decide_eq_decide.mpr ⟨fun h => V.str.inj h, fun h => congrArg V.str h⟩]; exact h
    · exact jo_genN hr h
  · rename_i i
    split at h
    · rename_i j
      refine jo_genN hr ⟨_, _, .same _, .same _, rfl, rfl, ?_⟩
      rw [show eqD (.bl i) (.bl j) = decide (i = j) from by cases i <;> cases j <;> rfl]
      exact h
    · exact jo_genN hr h
  · exact jo_genN hr h
/-- is None -/
def isNonD : D → Bool
  | .non => true | _ => false
theorem rw_non {K : PySem.W.Frag} {V0 : Hp} {v : V} : ∀ {w : D}, Rp K V0 v w → decide (v = .non) = isNonD w
  | .non, h => by cases h; rfl
  | .bl _, h => by cases h; rfl
  | .int _, h => by cases h; rfl
  | .str _, h => by cases h; rfl
  | .ty _, h => by cases h; rfl
  | .tup _, h => by cases h; rfl
  | .lst _, h => by cases h; rfl
  | .dK _, h => by cases h; rfl
  | .dT _, h => by cases h; rfl
  | .exn .., h => by cases h; rfl
  | .ref _, h => by cases h; rfl
def oIsN : TrO := fun x y os k => match y with
  | .non => k (.bl (isNonD x)) os
  | .bl b => (match x with
    | .bl a => k (.bl (decide (a = b))) os
    | _ => False)
  | _ => False
def oNotN : TrO := fun x y os k => match y with
  | .non => k (.bl (!isNonD x)) os
  | .bl b => (match x with
    | .bl a => k (.bl (!decide (a = b))) os
    | _ => False)
  | _ => False
theorem cmo_isN : CmO X (compareOp .Is) oIsN := by
  intro x y os k h
  unfold oIsN at h
  split at h
  · exact JO.mk op_isN fun F V0 H v u Q r rx ry c => by
      cases ry
      exact ⟨rfl, by rw [rw_non rx]; exact c V0 os H _ _ (Same.refl _) r rwB h⟩
  · split at h
    · exact JO.mk op_is_bl fun F V0 H v u Q r rx ry c => by
        cases ry
        cases rx
        exact ⟨_, _, rfl, rfl, c V0 os H _ _ (Same.refl _) r rwB h⟩
    · exact h.elim
  · exact h.elim
theorem cmo_notN : CmO X (compareOp .IsNot) oNotN := by
  intro x y os k h
  unfold oNotN at h
  split at h
  · exact JO.mk op_notN fun F V0 H v u Q r rx ry c => by
      cases ry
      exact ⟨rfl, by rw [rw_non rx]; exact c V0 os H _ _ (Same.refl _) r rwB h⟩
  · split at h
    · exact JO.mk op_isnot_bl fun F V0 H v u Q r rx ry c => by
        cases ry
        cases rx
        exact ⟨_, _, rfl, rfl, c V0 os H _ _ (Same.refl _) r rwB h⟩
    · exact h.elim
  · exact h.elim
/-- the items of a list or tuple at hand -/
def SeqOf (os : Os) (w : D) (ds : List D) : Prop := match w with
  | .lst es => ds = es
  | .tup es => ds = es
  | .ref p => ∃ n : Nat, os[n]? = some (p, .lst ds)
  | _ => False
theorem seqOf_of {K : PySem.W.Frag} {F V0 H : Hp} {v : V} {w : D} {ds : List D} (r : Rel K F V0 os H) (rv : Rp K V0 v w) (h : SeqOf os w ds) : ∃ a vs, v = .ref a ∧ (SqL K H a vs ∨ SqT K H a vs) ∧ RpA K V0 vs ds := by
  unfold SeqOf at h
  split at h
  · subst h
    obtain ⟨a, xs, rfl, h1, h2⟩ := rp_lst rv
    exact ⟨a, xs, rfl, .inl (r.vi.seq h1), h2⟩
  · subst h
    obtain ⟨a, xs, rfl, h1, h2⟩ := rp_tup rv
    exact ⟨a, xs, rfl, .inr (same_sqT r.vi h1), h2⟩
  · obtain ⟨n, ho⟩ := h
    obtain rfl := rv.toRef
    obtain ⟨_, _, ho', h3, vs, rfl, h4⟩ := r.own _ (List.mem_of_getElem? ho)
    exact ⟨_, vs, rfl, .inl (SqL.of h3), h4⟩
  · exact h.elim
theorem rpA_scal {K : PySem.W.Frag} {V0 : Hp} : ∀ {ds : List D} {vs : List V}, ds.all isScal = true → RpA K V0 vs ds → vs = ds.map scalD
  | [], _, _, h => by cases h; rfl
  | d :: ds, _, s, h => by
    rw [List.all_cons, Bool.and_eq_true] at s
    cases h with
    | cons a b => rw [rp_scal s.1 a, rpA_scal s.2 b]; rfl
def inD (x : D) (ds : List D) : Bool := inV (scalD x) (ds.map scalD)
theorem flat_scal : ∀ {d : D}, isScal d = true → flatV (scalD d) = true
  | .non, _ => rfl
  | .bl _, _ => rfl
  | .int _, _ => rfl
  | .str _, _ => rfl
theorem flat_all {ds : List D} (h : ds.all isScal = true) : (ds.map scalD).all flatV = true := by
  rw [List.all_map, List.all_eq_true]
  rw [List.all_eq_true] at h
  exact fun d hd => flat_scal (h d hd)
def oIn : TrO := fun x w os k => isScal x = true ∧ ∃ ds, SeqOf os w ds ∧ ds.all isScal = true ∧ k (.bl (inD x ds)) os
def oNotIn : TrO := fun x w os k => isScal x = true ∧ ∃ ds, SeqOf os w ds ∧ ds.all isScal = true ∧ k (.bl (!inD x ds)) os
theorem cmo_in : CmO X (compareOp .In) oIn := fun x w os k ⟨hx, ds, hs, hd, q⟩ =>
  JO.mk op_in_seq fun F V0 H v u Q r rx ry c => by
    have e := rp_scal hx rx
    subst e
    obtain ⟨a, vs, rfl, h1, ra⟩ := seqOf_of r ry hs
    have e := rpA_scal hd ra
    subst e
    refine ⟨a, _, rfl, h1, flat_scal hx, flat_all hd, c V0 os H _ _ (Same.refl _) r ?_ q⟩
    rw [if_neg (by decide)]
    exact rwB
theorem cmo_notIn : CmO X (compareOp .NotIn) oNotIn := fun x w os k ⟨hx, ds, hs, hd, q⟩ =>
  JO.mk op_notIn_seq fun F V0 H v u Q r rx ry c => by
    have e := rp_scal hx rx
    subst e
    obtain ⟨a, vs, rfl, h1, ra⟩ := seqOf_of r ry hs
    have e := rpA_scal hd ra
    subst e
    refine ⟨a, _, rfl, h1, flat_scal hx, flat_all hd, c V0 os H _ _ (Same.refl _) r ?_ q⟩
    rw [if_pos rfl]
    exact rwB

/-! ### tests -/
/-- truth of any value -/
def truD : D → Option Bool
  | .non => some false | .bl b => some b | .int i => some (i != 0) | .str x => if x.length ≤ sizeLine then some ((x.length : Int) != 0) else none
  | .lst ds => some (!ds.isEmpty) | .tup ds => some (!ds.isEmpty) | _ => none
def truW (os : Os) (w : D) (b : Bool) : Prop := match w with
  | .ref a => ∃ (n : Nat) (ws : List D), os[n]? = some (a, OO.lst ws) ∧ b = !ws.isEmpty
  | d => truD d = some b
theorem isE {α β : Type} {xs : List α} {ys : List β} (h : xs.length = ys.length) : (!xs.isEmpty) = !ys.isEmpty := by
  cases xs <;> cases ys <;> simp_all
theorem truV_of {K : PySem.W.Frag} {F V0 H : Hp} {v : V} {w : D} {b : Bool} (r : Rel K F V0 os H) (rv : Rp K V0 v w) (t : truW os w b) : TruV K v H b := by
  cases w with
  | non => cases rv; exact (Option.some.inj (show some false = some b from t)).symm
  | bl _ => cases rv; exact (Option.some.inj (show some _ = some b from t)).symm
  | int _ => cases rv; exact (Option.some.inj (show some _ = some b from t)).symm
  | str z =>
    cases rv
    have t : (if z.length ≤ sizeLine then some ((z.length : Int) != 0) else none) = some b := t
    by_cases hz : z.length ≤ sizeLine
    · rw [if_pos hz] at t; exact ⟨hz, (Option.some.inj t).symm⟩
    · rw [if_neg hz] at t; cases t
  | ty _ => cases (show none = some b from t)
  | dK _ => cases (show none = some b from t)
  | dT _ => cases (show none = some b from t)
  | exn _ _ _ _ _ => cases (show none = some b from t)
  | tup ds =>
    have t : some (!ds.isEmpty) = some b := t
    obtain ⟨p, xs, rfl, h1, h2⟩ := rp_tup rv
    exact .inr (.inl ⟨xs, same_sqT r.vi h1, by rw [isE h2.length]; exact (Option.some.inj t).symm⟩)
  | lst ds =>
    have t : some (!ds.isEmpty) = some b := t
    obtain ⟨p, xs, rfl, h1, h2⟩ := rp_lst rv
    exact .inl ⟨xs, r.vi.seq h1, by rw [isE h2.length]; exact (Option.some.inj t).symm⟩
  | ref p =>
    obtain rfl := rv.toRef
    obtain ⟨n, ws, ho, e⟩ := t
    obtain ⟨_, _, ho', h3, vs, rfl, h4⟩ := r.own _ (List.mem_of_getElem? ho)
    exact .inl ⟨vs, SqL.of h3, by rw [isE h4.length]; exact e⟩
def tV (te : TrE) : TrT := fun kx env os kb => te kx env os fun w os1 => match w with
  | .bl b => kb b os1
  | w => ∃ b, truW os1 w b ∧ kb b os1
variable {a b c e : Expr} {ta tb te : TrE} {pos : Pos} {tc td : TrT}
theorem ct_v (h : Cm X e te) (he : ∀ whole, isTrue e X.env whole = (do let v ← whole; standAt e.pos; holding [v] (truthy v)) := by intro _; rfl) : CmT X e (tV te) := by
  intro kx env os kb q F V0 H σ Q W r sr ek c
  refine wTt_of (pt_truth wE_pe he) ?_
  refine h _ _ _ _ q F V0 H σ _ W r sr ek fun V1 os1 H1 v x s1 r1 rx q1 => ?_
  have key : ∃ b, truW os1 x b ∧ kb b os1 := by
    split at q1
    · exact ⟨_, rfl, q1⟩
    · exact q1
  obtain ⟨b, e1, q2⟩ := key
  exact ⟨b, truV_of r1 rx e1, c V1 os1 H1 b s1 r1 q2⟩
def tNot (t : TrT) : TrT := fun kx env os kb => t kx env os fun b os1 => kb (!b) os1
theorem ct_not (h : CmT X a tc) : CmT X (.UnaryOp .Not a pos) (tNot tc) := by
  intro kx env os kb q F V0 H σ Q W r sr ek c
  refine wTt_of (pt_not wTt_pt) ?_
  exact h _ _ _ _ q F V0 H σ _ W r sr ek fun V1 os1 H1 b s1 r1 q => c V1 os1 H1 (!b) s1 r1 q
def tAnd (t u : TrT) : TrT := fun kx env os kb => t kx env os fun b os1 => (b = true → u kx env os1 kb) ∧ (b = false → kb false os1)
def tOr (t u : TrT) : TrT := fun kx env os kb => t kx env os fun b os1 => (b = false → u kx env os1 kb) ∧ (b = true → kb true os1)
theorem ct_pw (h : CmPW X e tc) : CmT X e tc := fun kx env os kb q F V0 H σ Q W r sr ek c => wTt_of wPW_pw.pt (h _ _ _ _ q F V0 H σ Q W r sr ek c)
theorem cpw_and1 (h : CmT X a tc) : CmPW X (.BoolOp .And [a] pos) tc := fun kx env os kb q F V0 H σ Q W r sr ek c => wPW_of (pw_and1 wTt_pt) (h _ _ _ _ q F V0 H σ Q W r sr ek c)
theorem cpw_or1 (h : CmT X a tc) : CmPW X (.BoolOp .Or [a] pos) tc := fun kx env os kb q F V0 H σ Q W r sr ek c => wPW_of (pw_or1 wTt_pt) (h _ _ _ _ q F V0 H σ Q W r sr ek c)
theorem cpw_and {rest : List Expr} (h : CmT X a tc) (h2 : CmPW X (.BoolOp .And (b :: rest) pos) td) : CmPW X (.BoolOp .And (a :: b :: rest) pos) (tAnd tc td) := by
  intro kx env os kb q F V0 H σ Q W r sr ek c
  refine wPW_of (pw_and wTt_pt wPW_pw) ?_
  refine h _ _ _ _ q F V0 H σ _ W r sr ek fun V1 os1 H1 b1 s1 r1 q => ?_
  cases b1 with
  | false => exact iteF (c V1 os1 H1 false s1 r1 (q.2 rfl))
  | true => exact iteT (h2 _ _ _ _ (q.1 rfl) F V1 H1 σ Q W r1 (sr.mono s1) (ek.mono s1) fun V2 os2 H2 b2 s2 r2 q2 => c V2 os2 H2 b2 (s1.trans s2) r2 q2)
theorem cpw_or {rest : List Expr} (h : CmT X a tc) (h2 : CmPW X (.BoolOp .Or (b :: rest) pos) td) : CmPW X (.BoolOp .Or (a :: b :: rest) pos) (tOr tc td) := by
  intro kx env os kb q F V0 H σ Q W r sr ek c
  refine wPW_of (pw_or wTt_pt wPW_pw) ?_
  refine h _ _ _ _ q F V0 H σ _ W r sr ek fun V1 os1 H1 b1 s1 r1 q => ?_
  cases b1 with
  | true => exact iteT (c V1 os1 H1 true s1 r1 (q.2 rfl))
  | false => exact iteF (h2 _ _ _ _ (q.1 rfl) F V1 H1 σ Q W r1 (sr.mono s1) (ek.mono s1) fun V2 os2 H2 b2 s2 r2 q2 => c V2 os2 H2 b2 (s1.trans s2) r2 q2)
/-- bools as values -/
def eAnd (ta tb : TrE) : TrE := fun kx env os k => ta kx env os fun w os1 => onB (fun b1 os1 => (b1 = true → tb kx env os1 k) ∧ (b1 = false → k (.bl false) os1)) w os1
def eOr (ta tb : TrE) : TrE := fun kx env os k => ta kx env os fun w os1 => onB (fun b1 os1 => (b1 = false → tb kx env os1 k) ∧ (b1 = true → k (.bl true) os1)) w os1
def eNot (ta : TrE) : TrE := fun kx env os k => ta kx env os fun w os1 => onB (fun b1 os1 => k (.bl (!b1)) os1) w os1
theorem cm_one {op} (h : Cm X a ta) : Cm X (.BoolOp op [a] pos) ta := fun kx env os k q F V0 H σ Q W r sr ek c => wE_of (pe_one wE_pe) (h _ _ _ _ q F V0 H σ Q W r sr ek c)
theorem cm_and {rest : List Expr} (h : Cm X a ta) (h2 : Cm X (.BoolOp .And (b :: rest) pos) tb) : Cm X (.BoolOp .And (a :: b :: rest) pos) (eAnd ta tb) := by
  intro kx env os k q F V0 H σ Q W r sr ek c
  refine wE_of (pe_and wE_pe wE_pe) ?_
  refine h _ _ _ _ q F V0 H σ _ W r sr ek fun V1 os1 H1 v w s1 r1 rv q => ?_
  obtain ⟨b1, e, q⟩ := onB_bl q
  subst e
  cases rv
  refine ⟨b1, rfl, ?_⟩
  cases b1 with
  | false => exact iteF (c V1 os1 H1 _ _ s1 r1 rwB (q.2 rfl))
  | true => exact iteT (h2 _ _ _ _ (q.1 rfl) F V1 H1 σ Q W r1 (sr.mono s1) (ek.mono s1) fun V2 os2 H2 z w s2 r2 rz q2 => c V2 os2 H2 z w (s1.trans s2) r2 rz q2)
theorem cm_or {rest : List Expr} (h : Cm X a ta) (h2 : Cm X (.BoolOp .Or (b :: rest) pos) tb) : Cm X (.BoolOp .Or (a :: b :: rest) pos) (eOr ta tb) := by
  intro kx env os k q F V0 H σ Q W r sr ek c
  refine wE_of (pe_or wE_pe wE_pe) ?_
  refine h _ _ _ _ q F V0 H σ _ W r sr ek fun V1 os1 H1 v w s1 r1 rv q => ?_
  obtain ⟨b1, e, q⟩ := onB_bl q
  subst e
  cases rv
  refine ⟨b1, rfl, ?_⟩
  cases b1 with
  | true => exact iteT (c V1 os1 H1 _ _ s1 r1 rwB (q.2 rfl))
  | false => exact iteF (h2 _ _ _ _ (q.1 rfl) F V1 H1 σ Q W r1 (sr.mono s1) (ek.mono s1) fun V2 os2 H2 z w s2 r2 rz q2 => c V2 os2 H2 z w (s1.trans s2) r2 rz q2)
theorem cm_not (h : Cm X a ta) : Cm X (.UnaryOp .Not a pos) (eNot ta) := by
  intro kx env os k q F V0 H σ Q W r sr ek c
  refine wE_of (pe_not wE_pe) ?_
  refine h _ _ _ _ q F V0 H σ _ W r sr ek fun V1 os1 H1 v w s1 r1 rv q => ?_
  obtain ⟨b1, e, q⟩ := onB_bl q
  subst e
  cases rv
  exact ⟨b1, rfl, c V1 os1 H1 _ _ s1 r1 rwB q⟩
def eIf (t : TrT) (ta tb : TrE) : TrE := fun kx env os k => t kx env os fun b1 os1 => (b1 = true → ta kx env os1 k) ∧ (b1 = false → tb kx env os1 k)
theorem cm_if (h : CmT X c tc) (h1 : Cm X a ta) (h2 : Cm X b tb) : Cm X (.IfExp c a b pos) (eIf tc ta tb) := by
  intro kx env os k q F V0 H σ Q W r sr ek cc
  refine wE_of (pe_ifExp wTt_pt wE_pe wE_pe) ?_
  refine h _ _ _ _ q F V0 H σ _ W r sr ek fun V1 os1 H1 b1 s1 r1 q => ?_
  cases b1 with
  | true => exact iteT (h1 _ _ _ _ (q.1 rfl) F V1 H1 σ Q W r1 (sr.mono s1) (ek.mono s1) fun V2 os2 H2 z w s2 r2 rz q2 => cc V2 os2 H2 z w (s1.trans s2) r2 rz q2)
  | false => exact iteF (h2 _ _ _ _ (q.2 rfl) F V1 H1 σ Q W r1 (sr.mono s1) (ek.mono s1) fun V2 os2 H2 z w s2 r2 rz q2 => cc V2 os2 H2 z w (s1.trans s2) r2 rz q2)
/-- a test as a value: a bool -/
def eNeg (ta : TrE) : TrE := fun kx env os k => ta kx env os fun w os1 => match w with
  | .int i => k (.int (-i)) os1
  | _ => False
theorem cm_neg (h : Cm X a ta) : Cm X (.UnaryOp .USub a pos) (eNeg ta) := by
  intro kx env os k q F V0 H σ Q W r sr ek c
  refine wE_of (pe_un un_neg wE_pe) ?_
  refine h _ _ _ _ q F V0 H σ _ W r sr ek fun V1 os1 H1 v x s1 r1 rx q => ?_
  split at q
  · cases rx
    exact ⟨_, rfl, c V1 os1 H1 _ _ s1 r1 rwI q⟩
  · exact q.elim

/-! ### arguments, displays -/
variable {es : List Expr} {n : Nat} {tl : TrA}
def aN : TrA := fun _ _ os k => k [] os
def aC (t : TrE) (ts : TrA) : TrA := fun kx env os k => t kx env os fun w os1 => ts kx env os1 fun ws os2 => k (w :: ws) os2
theorem ca_nil : CmA X [] aN 0 := ⟨rfl, fun kx env os kl q F V0 H σ Q W r sr ek c => wA_of pa_nil (c V0 os H [] [] (Same.refl _) r .nil ⟨rfl, q⟩)⟩
theorem ca_cons (h : Cm X e te) (h2 : CmA X es tl n) (hs : starEach (e :: es) X.env = (false, eval e X.env) :: starEach es X.env) : CmA X (e :: es) (aC te tl) (n + 1) := by
  refine ⟨congrArg (· + 1) h2.1, ?_⟩
  intro kx env os kl q F V0 H σ Q W r sr ek c
  refine wA_of (pa_cons wE_pe wA_pa hs) ?_
  refine h _ _ _ _ q F V0 H σ _ W r sr ek fun V1 os1 H1 v w s1 r1 rv q => ?_
  exact h2.2 _ _ _ _ q F V1 H1 σ _ W r1 (sr.mono s1) (ek.mono s1) fun V2 os2 H2 vs ws s2 r2 rs ⟨hl, q2⟩ => c V2 os2 H2 (v :: vs) (w :: ws) (s1.trans s2) r2 (.cons (rv.mono s2) rs) ⟨congrArg (· + 1) hl, q2⟩
def eTup (tl : TrA) : TrE := fun kx env os k => tl kx env os fun ws os1 => k (.tup ws) os1
def eLst (tl : TrA) : TrE := fun kx env os k => tl kx env os fun ws os1 => k (.lst ws) os1
def eLstO (tl : TrA) : TrE := fun kx env os k => tl kx env os fun ws os1 => ∀ p, k (.ref p) ((p, .lst ws) :: os1)
theorem cm_tup {x1} (h : CmA X es tl n) (hn : n ≤ 1000) : Cm X (.Tuple es x1 pos) (eTup tl) := by
  intro kx env os k q F V0 H σ Q W r sr ek c
  refine wE_of (pe_tup wA_pa) ?_
  refine h.2 _ _ _ _ q F V0 H σ _ W r sr ek fun V1 os1 H1 vs ws s1 r1 rs ⟨hl, q⟩ => ?_
  refine ⟨by rw [rs.length, hl]; exact Nat.le_of_lt (small1000 hn), fun p hp => ?_⟩
  obtain ⟨s2, r2, rp⟩ := rel_newT r1 hp rs
  exact c _ os1 _ _ (.tup ws) (s1.trans s2) r2 rp q
theorem cm_lst (h : CmA X es tl n) (hn : n ≤ 1000) : Cm X (.List es pos) (eLst tl) := by
  intro kx env os k q F V0 H σ Q W r sr ek c
  refine wE_of (pe_lst wA_pa) ?_
  refine h.2 _ _ _ _ q F V0 H σ _ W r sr ek fun V1 os1 H1 vs ws s1 r1 rs ⟨hl, q⟩ => ?_
  refine ⟨by rw [rs.length, hl]; exact Nat.le_of_lt (small1000 hn), fun p hp => ?_⟩
  obtain ⟨s2, r2, rp⟩ := rel_newL r1 hp rs
  exact c _ os1 _ _ (.lst ws) (s1.trans s2) r2 rp q
theorem cm_lstO (h : CmA X es tl n) (hn : n ≤ 1000) : Cm X (.List es pos) (eLstO tl) := by
  intro kx env os k q F V0 H σ Q W r sr ek c
  refine wE_of (pe_lst wA_pa) ?_
  refine h.2 _ _ _ _ q F V0 H σ _ W r sr ek fun V1 os1 H1 vs ws s1 r1 rs ⟨hl, q⟩ => ?_
  refine ⟨by rw [rs.length, hl]; exact Nat.le_of_lt (small1000 hn), fun p hp => ?_⟩
  exact c V1 _ _ _ (.ref p) s1 (r1.addO hp (oo := .lst ws) ⟨vs, rfl, rs⟩) (.ref p) (q p)
/-- an owned list becomes data -/
def frzK (w : D) (os : Os) (k : D → Os → Prop) : Prop := match w with
  | .ref a => ∃ (n : Nat) (ds : List D), os[n]? = some (a, OO.lst ds) ∧ k (.lst ds) (os.eraseIdx n)
  | w => k w os
def eFrz (t : TrE) : TrE := fun kx env os k => t kx env os fun w os1 => frzK w os1 k
theorem frzK_of {K : PySem.W.Frag} {F V0 H : Hp} {v : V} {w : D} (r : Rel K F V0 os H) (rv : Rp K V0 v w) (h : frzK w os k) : ∃ V1 os1 w1, Same V0 V1 ∧ Rel K F V1 os1 H ∧ Rp K V1 v w1 ∧ k w1 os1 := by
  unfold frzK at h
  split at h
  · obtain ⟨n, ds, ho, q⟩ := h
    obtain rfl := rv.toRef
    obtain ⟨V1, s1, r1, rp⟩ := r.freeze ho
    exact ⟨V1, _, _, s1, r1, rp, q⟩
  · exact ⟨V0, os, w, Same.refl _, r, rv, h⟩
theorem cm_frz (h : Cm X e te) : Cm X e (eFrz te) := by
  intro kx env os k q F V0 H σ Q W r sr ek c
  refine h _ _ _ _ q F V0 H σ _ W r sr ek fun V1 os1 H1 v w s1 r1 rv q => ?_
  obtain ⟨V2, os2, w2, s2, r2, rp, q2⟩ := frzK_of r1 rv q
  exact c V2 os2 H1 v w2 (s1.trans s2) r2 rp q2

/-! ### subscripts -/
@[irreducible] def wIx (X : Cx) : R2 := fun x y H Q => ∀ (value slice : Expr) (pins : List (Addr × Obj)) (s : Shared) (σ : L2.St) (v u : Value), Inv X pins σ H s → RelV x v → RelV y u →
  subscripted slice false v u = operate [v, u] (getItem v u) → wpAny (model X.prog X.w) X.A (subscriptTail value slice v u) (EP X pins σ Q) X.xe s
theorem wIx_ix : IxR X (wIx X) := by unfold wIx; exact fun value slice pins s σ _ _ _ v u _ I rx ry h hs => h value slice pins s σ v u I rx ry hs
theorem wIx_of {r : R2} (h : IxR X r) {x y : V} {H : Hp} {Q : VK} (q : r x y H Q) : wIx X x y H Q := by unfold wIx; exact fun value slice pins s σ v u I rx ry hs => h value slice pins s σ H x y v u Q I rx ry q hs
theorem atI_map {α β : Type} {xs : List α} {ys : List β} (hl : xs.length = ys.length) {i : Int} {y : β} (h : atI ys i = some y) : ∃ j, ixN xs.length i = some j ∧ ys[j]? = some y := by
  unfold atI at h
  rw [← hl] at h
  cases e : ixN xs.length i with
  | none => rw [e] at h; cases h
  | some j => rw [e] at h; exact ⟨j, rfl, h⟩
theorem atI_of {α : Type} {xs : List α} {i : Int} {j : Nat} {x : α} (h1 : ixN xs.length i = some j) (h2 : xs[j]? = some x) : atI xs i = some x := by
  unfold atI
  rw [h1]; exact h2
/-- w[i] -/
def oIx : TrO := fun x y os k => match y with
  | .int i => (match x with
    | .lst ds => ∃ d, atI ds i = some d ∧ k d os
    | .tup ds => ∃ d, atI ds i = some d ∧ k d os
    | .ref p => ∃ (n : Nat) (ws : List D) (w : D), os[n]? = some (p, .lst ws) ∧ atI ws i = some w ∧ k w os
    | .str x => x.length ≤ sizeLine ∧ ∃ n, atI x.cps.toList i = some n ∧ k (.str ⟨#[n]⟩) os
    | _ => False)
  | _ => False
def eIx (o : TrO) (ta tb : TrE) : TrE := fun kx env os k => ta kx env os fun x os1 => tb kx env os1 fun y os2 => o x y os2 k
def CmIx (X : Cx) (o : TrO) : Prop := ∀ x y os k, o x y os k → ∀ (F V0 H : Hp) (v u : V) (Q : VK), Rel X.K F V0 os H → Rp X.K V0 v x → Rp X.K V0 u y →
    (∀ (V1 : Hp) (os1 : Os) (H1 : Hp) (z : V) (w : D), Same V0 V1 → Rel X.K F V1 os1 H1 → Rp X.K V1 z w → k w os1 → Q z H1) → wIx X v u H Q
theorem cmi_ix : CmIx X oIx := by
  intro x y os k h F V0 H v u Q r rx ry c
  unfold oIx at h
  split at h
  · split at h
    · obtain ⟨d, h, q⟩ := h
      obtain ⟨p, xs, rfl, h1, h2⟩ := rp_lst rx
      cases ry
      obtain ⟨j, e1, e2⟩ := atI_map h2.length h
      obtain ⟨z, e3, rz⟩ := h2.get e2
      exact wIx_of ix_list ⟨p, xs, _, z, rfl, rfl, r.vi.seq h1, atI_of e1 e3, c V0 os H z d (Same.refl _) r rz q⟩
    · obtain ⟨d, h, q⟩ := h
      obtain ⟨p, xs, rfl, h1, h2⟩ := rp_tup rx
      cases ry
      obtain ⟨j, e1, e2⟩ := atI_map h2.length h
      obtain ⟨z, e3, rz⟩ := h2.get e2
      exact wIx_of ix_tup ⟨p, xs, _, z, rfl, rfl, same_sqT r.vi h1, atI_of e1 e3, c V0 os H z d (Same.refl _) r rz q⟩
    · obtain ⟨n, ws, w, ho, h, q⟩ := h
      obtain rfl := rx.toRef
      cases ry
      obtain ⟨_, _, ho', h3, vs, rfl, h4⟩ := r.own _ (List.mem_of_getElem? ho)
      obtain ⟨j, e1, e2⟩ := atI_map h4.length h
      obtain ⟨z, e3, rz⟩ := h4.get e2
      exact wIx_of ix_list ⟨_, vs, _, z, rfl, rfl, SqL.of h3, atI_of e1 e3, c V0 os H z w (Same.refl _) r rz q⟩
    · obtain ⟨hx, n, h, q⟩ := h
      cases rx; cases ry
      exact wIx_of ix_str ⟨_, _, n, rfl, rfl, hx, h, c V0 os H _ _ (Same.refl _) r rwS q⟩
    · exact h.elim
  · exact h.elim
theorem cm_ix {o : TrO} (ho : CmIx X o) (ha : Cm X a ta) (hb : Cm X b tb) (hs : PlainIx b) : Cm X (.Subscript a b pos) (eIx o ta tb) := by
  intro kx env os k h F V0 H σ Q W r sr ek c
  refine wE_of (pe_ix (r := wIx X) wIx_ix wE_pe wE_pe hs) ?_
  refine ha _ _ _ _ h F V0 H σ _ W r sr ek fun V1 os1 H1 v x s1 r1 rx hx => ?_
  refine hb _ _ _ _ hx F V1 H1 σ _ W r1 (sr.mono s1) (ek.mono s1) fun V2 os2 H2 u y s2 r2 ry hy => ?_
  exact ho _ _ _ _ hy F V2 H2 v u Q r2 (rx.mono s2) ry fun V3 os3 H3 z w s3 r3 rw' q => c V3 os3 H3 z w ((s1.trans s2).trans s3) r3 rw' q

/-! ### slices -/
def cutA {α : Type} (xs : List α) (lo hi : Option Int) : List α := (xs.drop (HT.sIx xs.length 0 lo)).take (HT.sIx xs.length xs.length hi - HT.sIx xs.length 0 lo)
@[irreducible] def wPO (X : Cx) (e : Option Expr) : TO := fun σ H Q => ∀ (pins : List (Addr × Obj)) (s : Shared), Inv X pins σ H s → wpAny (model X.prog X.w) X.A (evalPart e X.env) (fun u s' => ∃ o H', Inv X pins σ H' s' ∧ IsPart u o ∧ Q o H') X.xe s
theorem wPO_po {e : Option Expr} : PO X e (wPO X e) := by unfold wPO; exact ⟨fun pins s _ _ _ I h => h pins s I⟩
theorem wPO_of {e : Option Expr} {t : TO} (h : PO X e t) {σ : L2.St} {H : Hp} {Q : Option Int → Hp → Prop} (q : t σ H Q) : wPO X e σ H Q := by unfold wPO; exact fun pins s I => h.run pins s σ H Q I q
abbrev TrPO := Kx → DEnv → Os → (Option Int → Os → Prop) → Prop
def CmPO (X : Cx) (e : Option Expr) (t : TrPO) : Prop := ∀ kx env os ko, t kx env os ko → ∀ (F V0 H : Hp) (σ : L2.St) (Q : Option Int → Hp → Prop) (W : WX), Rel X.K F V0 os H → SR X.K V0 σ env → XkOk X F V0 σ kx W →
    (∀ (V1 : Hp) (os1 : Os) (H1 : Hp) (o : Option Int), Same V0 V1 → Rel X.K F V1 os1 H1 → ko o os1 → Q o H1) → wPO X e σ H Q
def pN : TrPO := fun _ _ os k => k none os
def pS (t : TrE) : TrPO := fun kx env os k => t kx env os fun w os1 => match w with
  | .int i => k (some i) os1
  | _ => False
theorem cp_none : CmPO X none pN := fun kx env os ko q F V0 H σ Q W r sr ek c => wPO_of po_none (c V0 os H none (Same.refl _) r q)
theorem cp_some (h : Cm X e te) : CmPO X (some e) (pS te) := by
  intro kx env os ko q F V0 H σ Q W r sr ek c
  refine wPO_of (po_some wE_pe) ?_
  refine h _ _ _ _ q F V0 H σ _ W r sr ek fun V1 os1 H1 v w s1 r1 rv q => ?_
  split at q
  · cases rv
    exact ⟨_, rfl, c V1 os1 H1 _ s1 r1 q⟩
  · exact q.elim
/-- what a slice of a value gives -/
def slW (w : D) (os : Os) (lo hi : Option Int) (k : D → Os → Prop) : Prop := match w with
  | .lst ds => k (.lst (cutA ds lo hi)) os
  | .tup ds => (cutA ds lo hi).length < ds.length ∧ k (.tup (cutA ds lo hi)) os
  | .str x => x.length ≤ sizeLine ∧ k (.str (cutS x lo hi)) os
  | .ref p => ∃ (n : Nat) (ds : List D), os[n]? = some (p, OO.lst ds) ∧ k (.lst (cutA ds lo hi)) os
  | _ => False
def slO (w : D) (os : Os) (lo hi : Option Int) (k : D → Os → Prop) : Prop := ∃ ds, LstOf os w ds ∧ ∀ p, k (.ref p) ((p, .lst (cutA ds lo hi)) :: os)
theorem RpA.cut {K : PySem.W.Frag} {H : Hp} {vs : List V} {ds : List D} (h : RpA K H vs ds) (lo hi : Option Int) : RpA K H (cutV vs lo hi) (cutA ds lo hi) := by
  unfold cutV cutA
  rw [h.length]
  exact (h.drop _).take _
variable {lo hi : Option Expr} {p2 : Pos} {tlo thi : TrPO}
theorem cut_len {α : Type} (xs : List α) (lo hi : Option Int) : (cutA xs lo hi).length ≤ xs.length := by
  unfold cutA
  rw [List.length_take, List.length_drop]
  omega
def wSl (X : Cx) : V → Option Int → Option Int → Hp → VK → Prop := fun x l u H Q => rSlL X.K x l u H Q ∨ rSlT X.K x l u H Q ∨ rSlS x l u H Q
theorem wSl_sl : SlR X (wSl X) := sl_list.or (sl_tup.or sl_str)
def eSl (t : TrE) (tlo thi : TrPO) : TrE := fun kx env os k => t kx env os fun w os1 => tlo kx env os1 fun l os2 => thi kx env os2 fun u os3 => slW w os3 l u k
def eSlO (t : TrE) (tlo thi : TrPO) : TrE := fun kx env os k => t kx env os fun w os1 => tlo kx env os1 fun l os2 => thi kx env os2 fun u os3 => slO w os3 l u k
theorem slW_of {F V0 H : Hp} {v : V} {w : D} {l u : Option Int} {Q : VK} (r3 : Rel X.K F V0 os H) (rv3 : Rp X.K V0 v w) (q : slW w os l u k)
    (c : ∀ (V1 : Hp) (os1 : Os) (H1 : Hp) (v : V) (w : D), Same V0 V1 → Rel X.K F V1 os1 H1 → Rp X.K V1 v w → k w os1 → Q v H1) : wSl X v l u H Q := by
  unfold slW at q
  split at q
  · rename_i ds
    obtain ⟨p, xs, rfl, h1, h2⟩ := rp_lst rv3
    refine .inl ⟨p, xs, rfl, r3.vi.seq h1, fun p' hp' => ?_⟩
    obtain ⟨s4, r4, rp⟩ := rel_newL r3 hp' (h2.cut l u)
    exact c _ os _ _ (.lst _) s4 r4 rp q
  · rename_i ds
    obtain ⟨hlt, q⟩ := q
    obtain ⟨p, xs, rfl, h1, h2⟩ := rp_tup rv3
    have hl : (cutV xs l u).length < xs.length := by
      rw [(h2.cut l u).length, h2.length]; exact hlt
    refine .inr (.inl ⟨p, xs, rfl, same_sqT r3.vi h1, ?_⟩)
    first
      | (refine ⟨hl, fun p' hp' => ?_⟩
         obtain ⟨s4, r4, rp⟩ := rel_newT r3 hp' (h2.cut l u)
         exact c _ os _ _ (.tup _) s4 r4 rp q)
      | (refine ⟨fun e => ?_, fun p' hp' => ?_⟩
         · exact absurd hl (by unfold cutV; simp_all)
         · obtain ⟨s4, r4, rp⟩ := rel_newT r3 hp' (h2.cut l u)
           exact c _ os _ _ (.tup _) s4 r4 rp q)
      | skip
  · obtain ⟨hl, q⟩ := q
    cases rv3
    exact .inr (.inr ⟨_, rfl, hl, c V0 os H _ _ (Same.refl _) r3 rwS q⟩)
  · obtain ⟨n, ds, ho, q⟩ := q
    obtain rfl := rv3.toRef
    obtain ⟨_, _, ho', h3, vs, rfl, h4⟩ := r3.own _ (List.mem_of_getElem? ho)
    refine .inl ⟨_, vs, rfl, SqL.of h3, fun p' hp' => ?_⟩
    obtain ⟨s4, r4, rp⟩ := rel_newL r3 hp' (h4.cut l u)
    exact c _ os _ _ (.lst _) s4 r4 rp q
  · exact q.elim
theorem cm_sl (h : Cm X e te) (hlo : CmPO X lo tlo) (hhi : CmPO X hi thi) : Cm X (.Subscript e (.Slice lo hi none p2) pos) (eSl te tlo thi) := by
  intro kx env os k q F V0 H σ Q W r sr ek c
  refine wE_of (pe_slice (r := wSl X) wSl_sl wE_pe wPO_po wPO_po) ?_
  refine h _ _ _ _ q F V0 H σ _ W r sr ek fun V1 os1 H1 v w s1 r1 rv q => ?_
  refine hlo _ _ _ _ q F V1 H1 σ _ W r1 (sr.mono s1) (ek.mono s1) fun V2 os2 H2 l s2 r2 q => ?_
  refine hhi _ _ _ _ q F V2 H2 σ _ W r2 (sr.mono (s1.trans s2)) (ek.mono (s1.trans s2)) fun V3 os3 H3 u s3 r3 q => ?_
  exact slW_of r3 (rv.mono (s2.trans s3)) q fun V4 os4 H4 v4 w4 s4 r4 rp q => c V4 os4 H4 v4 w4 (((s1.trans s2).trans s3).trans s4) r4 rp q
theorem cm_slO (h : Cm X e te) (hlo : CmPO X lo tlo) (hhi : CmPO X hi thi) : Cm X (.Subscript e (.Slice lo hi none p2) pos) (eSlO te tlo thi) := by
  intro kx env os k q F V0 H σ Q W r sr ek c
  refine wE_of (pe_slice (r := wSl X) wSl_sl wE_pe wPO_po wPO_po) ?_
  refine h _ _ _ _ q F V0 H σ _ W r sr ek fun V1 os1 H1 v w s1 r1 rv q => ?_
  refine hlo _ _ _ _ q F V1 H1 σ _ W r1 (sr.mono s1) (ek.mono s1) fun V2 os2 H2 l s2 r2 q => ?_
  refine hhi _ _ _ _ q F V2 H2 σ _ W r2 (sr.mono (s1.trans s2)) (ek.mono (s1.trans s2)) fun V3 os3 H3 u s3 r3 q => ?_
  obtain ⟨ds, hl, q⟩ := q
  obtain ⟨a, vs, rfl, h1, ra⟩ := lstOf_of r3 (rv.mono (s2.trans s3)) hl
  refine .inl ⟨a, vs, rfl, h1, fun p' hp' => ?_⟩
  exact c V3 _ _ _ (.ref p') ((s1.trans s2).trans s3) (r3.addO hp' (oo := .lst (cutA ds l u)) ⟨_, rfl, ra.cut l u⟩) (.ref p') (q p')
end
end EV

set_option Elab.async false
set_option linter.all false
set_option maxRecDepth 100000
/-! E4: calls of built-ins, methods of lists, statements, loops. -/
namespace EV
open PySem PySem.Spec PyProof.Rows L2

/-! ### calls of built-ins -/
/-- a call of a known built-in by values -/
def JC (X : Cx) (f : Value) (ws : List D) (os : Os) (k : D → Os → Prop) : Prop :=
  ∀ (F V0 H : Hp) (vs : List V) (Q : VK), Rel X.K F V0 os H → RpA X.K V0 vs ws →
    (∀ (V1 : Hp) (os1 : Os) (H1 : Hp) (z : V) (w : D), Same V0 V1 → Rel X.K F V1 os1 H1 → Rp X.K V1 z w → k w os1 → Q z H1) →
    ∀ (pins : List (Addr × Obj)) (s : Shared) (σ : L2.St) (us : List Value), Inv X pins σ H s → Vals vs us → wpAny (model X.prog X.w) X.A (call f us) (EP X pins σ Q) X.xe s
abbrev TrC := List D → Os → (D → Os → Prop) → Prop
def CmC (X : Cx) (f : Value) (c : TrC) : Prop := ∀ ws os k, c ws os k → JC X f ws os k
theorem JC.mk {X : Cx} {os : Os} {k : D → Os → Prop} {f : Value} {r : List V → Hp → VK → Prop} {ws : List D} (hf : CallR X f r)
    (h : ∀ (F V0 H : Hp) (vs : List V) (Q : VK), Rel X.K F V0 os H → RpA X.K V0 vs ws →
      (∀ (V1 : Hp) (os1 : Os) (H1 : Hp) (z : V) (w : D), Same V0 V1 → Rel X.K F V1 os1 H1 → Rp X.K V1 z w → k w os1 → Q z H1) → r vs H Q) : JC X f ws os k :=
  fun F V0 H vs Q r1 rs c pins s σ us I rv => hf pins s σ H vs us Q I rv (h F V0 H vs Q r1 rs c)
def eCB (c : TrC) (tl : TrA) : TrE := fun kx env os k => tl kx env os fun ws os1 => c ws os1 k
section
variable {X : Cx} {os : Os} {k : D → Os → Prop} {env : DEnv} {pos p : Pos} {a b e : Expr} {es : List Expr} {x : Str} {tl : TrA} {n : Nat} {te : TrE}
theorem cm_callB {id : String} {c : TrC} (hc : CmC X (.builtin id) c) (hv : bootBuiltins x = some (.builtin id)) (hm : X.mg x = none) (hg : Gl X x) (h : CmA X (e :: es) tl n) (hn : x ≠ "__name__") (hdb : (x == ("__debug__" : Str)) = false)
    (he : starEach (e :: es) X.env = (false, eval e X.env) :: starEach es X.env) (hpl : (backTo pos (starEach es X.env)).any (·.1) = false) : Cm X (.Call (.Name x p) (e :: es) [] pos) (eCB c tl) := by
  intro kx env os k q F V0 H σ Q W r sr ek cc
  refine wE_of (pe_callB (id := id) (r := fun vs H Q => ∀ (pins : List (Addr × Obj)) (s : Shared) (σ : L2.St) (us : List Value), Inv X pins σ H s → Vals vs us → wpAny (model X.prog X.w) X.A (call (.builtin id) us) (EP X pins σ Q) X.xe s)
    (fun pins s σ H vs us Q I rv h => h pins s σ us I rv) hg hm hv wA_pa hn hdb he hpl) ?_
  refine h.2 _ _ _ _ q F V0 H σ _ W r sr ek fun V1 os1 H1 vs ws s1 r1 rs ⟨_, q⟩ => ?_
  exact hc _ _ _ q F V1 H1 vs Q r1 rs fun V2 os2 H2 z w s2 r2 rz q2 => cc V2 os2 H2 z w (s1.trans s2) r2 rz q2
theorem cm_callTy {id : String} {c : TrC} (hc : CmC X (.type id) c) (hv : bootBuiltins x = some (.type id)) (hm : X.mg x = none) (hg : Gl X x) (h : CmA X (e :: es) tl n) (hn : x ≠ "__name__") (hdb : (x == ("__debug__" : Str)) = false)
    (he : starEach (e :: es) X.env = (false, eval e X.env) :: starEach es X.env) (hpl : (backTo pos (starEach es X.env)).any (·.1) = false) : Cm X (.Call (.Name x p) (e :: es) [] pos) (eCB c tl) := by
  intro kx env os k q F V0 H σ Q W r sr ek cc
  refine wE_of (pe_callTy (T := id) (r := fun vs H Q => ∀ (pins : List (Addr × Obj)) (s : Shared) (σ : L2.St) (us : List Value), Inv X pins σ H s → Vals vs us → wpAny (model X.prog X.w) X.A (call (.type id) us) (EP X pins σ Q) X.xe s)
    (fun pins s σ H vs us Q I rv h => h pins s σ us I rv) hg hm hv wA_pa hn hdb he hpl) ?_
  refine h.2 _ _ _ _ q F V0 H σ _ W r sr ek fun V1 os1 H1 vs ws s1 r1 rs ⟨_, q⟩ => ?_
  exact hc _ _ _ q F V1 H1 vs Q r1 rs fun V2 os2 H2 z w s2 r2 rz q2 => cc V2 os2 H2 z w (s1.trans s2) r2 rz q2
/-- len -/
def lenK (w : D) (os : Os) (k : D → Os → Prop) : Prop := match w with
  | .lst ds => k (.int ds.length) os
  | .tup ds => k (.int ds.length) os
  | .str x => x.length ≤ sizeLine ∧ k (.int x.length) os
  | .ref p => ∃ (n : Nat) (ws : List D), os[n]? = some (p, .lst ws) ∧ k (.int ws.length) os
  | _ => False
def cLen : TrC := fun ws os k => match ws with
  | [w] => lenK w os k
  | _ => False
theorem cmc_len : CmC X (.builtin "len") cLen := by
  intro ws os k h
  unfold cLen at h
  split at h
  · refine JC.mk call_len fun F V0 H vs Q r rs c => ?_
    obtain ⟨v, rfl, rv⟩ := rs.one
    unfold lenK at h
    split at h
    · obtain ⟨p, xs, rfl, h1, h2⟩ := rp_lst rv
      exact ⟨_, _, rfl, .inl ⟨xs, r.vi.seq h1, h2.length.symm⟩, c V0 os H _ _ (Same.refl _) r rwI h⟩
    · obtain ⟨p, xs, rfl, h1, h2⟩ := rp_tup rv
      exact ⟨_, _, rfl, .inr ⟨xs, same_sqT r.vi h1, h2.length.symm⟩, c V0 os H _ _ (Same.refl _) r rwI h⟩
    · cases rv
      exact ⟨_, _, rfl, ⟨h.1, rfl⟩, c V0 os H _ _ (Same.refl _) r rwI h.2⟩
    · obtain ⟨n, ws, ho, q⟩ := h
      obtain rfl := rv.toRef
      obtain ⟨_, _, ho', h3, vs, rfl, h4⟩ := r.own _ (List.mem_of_getElem? ho)
      exact ⟨_, _, rfl, .inl ⟨vs, SqL.of h3, h4.length.symm⟩, c V0 os H _ _ (Same.refl _) r rwI q⟩
    · exact h.elim
  · exact h.elim
def cInt : TrC := fun ws os k => match ws with
  | [.int i] => k (.int i) os
  | [.bl b] => k (.int (if b then 1 else 0)) os
  | _ => False
theorem cmc_int : CmC X (.type "int") cInt := by
  intro ws os k h
  unfold cInt at h
  split at h
  · exact JC.mk call_int1 fun F V0 H vs Q r rs c => by
      obtain ⟨v, rfl, rv⟩ := rs.one
      cases rv
      exact .inl ⟨_, rfl, c V0 os H _ _ (Same.refl _) r rwI h⟩
  · exact JC.mk call_int1 fun F V0 H vs Q r rs c => by
      obtain ⟨v, rfl, rv⟩ := rs.one
      cases rv
      exact .inr ⟨_, rfl, c V0 os H _ _ (Same.refl _) r rwI h⟩
  · exact h.elim
def cAbs : TrC := fun ws os k => match ws with
  | [.int i] => k (.int (if i < 0 then -i else i)) os
  | _ => False
theorem cmc_abs : CmC X (.builtin "abs") cAbs := by
  intro ws os k h
  unfold cAbs at h
  split at h
  · exact JC.mk call_abs fun F V0 H vs Q r rs c => by
      obtain ⟨v, rfl, rv⟩ := rs.one
      cases rv
      exact ⟨_, rfl, c V0 os H _ _ (Same.refl _) r rwI h⟩
  · exact h.elim
def cStrI : TrC := fun ws os k => match ws with
  | [.int i] => i.natAbs.log2 < 1920 ∧ k (.str (toString i)) os
  | _ => False
theorem cmc_strI : CmC X (.type "str") cStrI := by
  intro ws os k h
  unfold cStrI at h
  split at h
  · exact JC.mk call_str_int fun F V0 H vs Q r rs c => by
      obtain ⟨v, rfl, rv⟩ := rs.one
      cases rv
      exact ⟨_, rfl, h.1, c V0 os H _ _ (Same.refl _) r rwS h.2⟩
  · exact h.elim
theorem rpA_int {K : PySem.W.Frag} {H : Hp} : ∀ {ns : List Int} {vs : List V}, RpA K H vs (ns.map D.int) → vs = ns.map V.int
  | [], _, h => by cases h; rfl
  | n :: ns, _, h => by
    cases h with
    | cons a b => cases a; rw [rpA_int b]; rfl
theorem rpA_ints {K : PySem.W.Frag} {H : Hp} : ∀ ns : List Int, RpA K H (ns.map V.int) (ns.map D.int)
  | [] => .nil
  | n :: ns => .cons (.int n) (rpA_ints ns)
/-- max, min: of two ints, of a list of ints -/
def cMax : TrC := fun ws os k => match ws with
  | [.int i, .int j] => k (.int (if j > i then j else i)) os
  | [w] => ∃ ns : List Int, LstOf os w (ns.map D.int) ∧ 0 < ns.length ∧ ∀ m, m ∈ ns → (∀ y, y ∈ ns → y ≤ m) → k (.int m) os
  | _ => False
def cMin : TrC := fun ws os k => match ws with
  | [.int i, .int j] => k (.int (if j < i then j else i)) os
  | [w] => ∃ ns : List Int, LstOf os w (ns.map D.int) ∧ 0 < ns.length ∧ ∀ m, m ∈ ns → (∀ y, y ∈ ns → m ≤ y) → k (.int m) os
  | _ => False
theorem cmc_max (hc : X.calm = true) : CmC X (.builtin "max") cMax := by
  intro ws os k h
  unfold cMax at h
  split at h
  · exact JC.mk (call_max2 hc) fun F V0 H vs Q r rs c => by
      obtain ⟨v, v2, rfl, rv, rv2⟩ := rs.two
      cases rv; cases rv2
      exact ⟨_, _, rfl, c V0 os H _ _ (Same.refl _) r rwI h⟩
  · obtain ⟨ns, h1, hn, q⟩ := h
    exact JC.mk (cr_max hc) fun F V0 H vs Q r rs c => by
      obtain ⟨v, rfl, rv⟩ := rs.one
      obtain ⟨a, xs, rfl, hs, ra⟩ := lstOf_of r rv h1
      have e := rpA_int ra
      subst e
      exact ⟨a, ns, rfl, hs, hn, fun m h1 h2 => c V0 os H _ _ (Same.refl _) r rwI (q m h1 h2)⟩
  · exact h.elim
theorem cmc_min (hc : X.calm = true) : CmC X (.builtin "min") cMin := by
  intro ws os k h
  unfold cMin at h
  split at h
  · exact JC.mk (call_min2 hc) fun F V0 H vs Q r rs c => by
      obtain ⟨v, v2, rfl, rv, rv2⟩ := rs.two
      cases rv; cases rv2
      exact ⟨_, _, rfl, c V0 os H _ _ (Same.refl _) r rwI h⟩
  · obtain ⟨ns, h1, hn, q⟩ := h
    exact JC.mk (cr_min hc) fun F V0 H vs Q r rs c => by
      obtain ⟨v, rfl, rv⟩ := rs.one
      obtain ⟨a, xs, rfl, hs, ra⟩ := lstOf_of r rv h1
      have e := rpA_int ra
      subst e
      exact ⟨a, ns, rfl, hs, hn, fun m h1 h2 => c V0 os H _ _ (Same.refl _) r rwI (q m h1 h2)⟩
  · exact h.elim
def cSum : TrC := fun ws os k => match ws with
  | [w] => ∃ ns : List Int, LstOf os w (ns.map D.int) ∧ k (.int ns.sum) os
  | _ => False
theorem cmc_sum (hc : X.calm = true) : CmC X (.builtin "sum") cSum := by
  intro ws os k h
  unfold cSum at h
  split at h
  · obtain ⟨ns, h1, q⟩ := h
    exact JC.mk (cr_sum hc) fun F V0 H vs Q r rs c => by
      obtain ⟨v, rfl, rv⟩ := rs.one
      obtain ⟨a, xs, rfl, hs, ra⟩ := lstOf_of r rv h1
      have e := rpA_int ra
      subst e
      exact ⟨a, ns, rfl, hs, c V0 os H _ _ (Same.refl _) r rwI q⟩
  · exact h.elim
/-- sorted of ints -/
def cSortI : TrC := fun ws os k => match ws with
  | [w] => ∃ ns : List Int, LstOf os w (ns.map D.int) ∧ ∀ ms : List Int, ms.Perm ns → ms.Pairwise (· ≤ ·) → k (.lst (ms.map D.int)) os
  | _ => False
theorem cmc_sortI : CmC X (.builtin "sorted") cSortI := by
  intro ws os k h
  unfold cSortI at h
  split at h
  · obtain ⟨ns, h1, q⟩ := h
    exact JC.mk cr_sortedI fun F V0 H vs Q r rs c => by
      obtain ⟨v, rfl, rv⟩ := rs.one
      obtain ⟨a, xs, rfl, hs, ra⟩ := lstOf_of r rv h1
      have e := rpA_int ra
      subst e
      refine ⟨a, ns, rfl, hs, fun ms p h1 h2 hp => ?_⟩
      obtain ⟨s2, r2, rp⟩ := rel_newL r hp (rpA_ints (K := X.K) (H := V0) ms)
      exact c _ os _ _ (.lst (ms.map D.int)) s2 r2 rp (q ms h1 h2)
  · exact h.elim
/-- list(x) -/
def seqK (w : D) (os : Os) (k : List D → Prop) : Prop := match w with
  | .lst ds => k ds
  | .tup ds => k ds
  | .ref p => ∃ (n : Nat) (ws : List D), os[n]? = some (p, .lst ws) ∧ k ws
  | _ => False
theorem seqK_of {w : D} {kk : List D → Prop} (h : seqK w os kk) : ∃ ds, SeqOf os w ds ∧ kk ds := by
  unfold seqK at h
  split at h
  · exact ⟨_, rfl, h⟩
  · exact ⟨_, rfl, h⟩
  · obtain ⟨n, ws, ho, q⟩ := h
    exact ⟨ws, ⟨n, ho⟩, q⟩
  · exact h.elim
def cList : TrC := fun ws os k => match ws with
  | [w] => seqK w os fun ds => k (.lst ds) os
  | _ => False
def cListO : TrC := fun ws os k => match ws with
  | [w] => seqK w os fun ds => ∀ p, k (.ref p) ((p, .lst ds) :: os)
  | _ => False
theorem cmc_list : CmC X (.type "list") cList := by
  intro ws os k h
  unfold cList at h
  split at h
  · obtain ⟨ds, hs, q⟩ := seqK_of h
    exact JC.mk call_list_of fun F V0 H vs Q r rs c => by
      obtain ⟨v, rfl, rv⟩ := rs.one
      obtain ⟨a, xs, rfl, hs, ra⟩ := seqOf_of r rv hs
      refine ⟨a, xs, rfl, hs, fun l hl => ?_⟩
      obtain ⟨s2, r2, rp⟩ := rel_newL r hl ra
      exact c _ os _ _ (.lst ds) s2 r2 rp q
  · exact h.elim
theorem cmc_listO : CmC X (.type "list") cListO := by
  intro ws os k h
  unfold cListO at h
  split at h
  · obtain ⟨ds, hs, q⟩ := seqK_of h
    exact JC.mk call_list_of fun F V0 H vs Q r rs c => by
      obtain ⟨v, rfl, rv⟩ := rs.one
      obtain ⟨a, xs, rfl, hs, ra⟩ := seqOf_of r rv hs
      refine ⟨a, xs, rfl, hs, fun l hl => ?_⟩
      exact c V0 _ _ _ (.ref l) (Same.refl _) (r.addO hl (oo := .lst ds) ⟨xs, rfl, ra⟩) (.ref l) (q l)
  · exact h.elim
/-- isinstance(x, T) of a built-in class -/
def tyD : D → Option String
  | .non => some "NoneType" | .bl _ => some "bool" | .int _ => some "int" | .str _ => some "str" | .tup _ => some "tuple" | .lst _ => some "list" | _ => none
theorem tyX_of {K : PySem.W.Frag} {V0 H : Hp} {v : V} {n : String} (vi : Same V0 H) : ∀ {w : D}, Rp K V0 v w → tyD w = some n → TyX K H v (.type n)
  | .non, rv, t => by cases rv; cases t; exact .base .non
  | .bl _, rv, t => by cases rv; cases t; exact .base (.bl _)
  | .int _, rv, t => by cases rv; cases t; exact .base (.int _)
  | .str _, rv, t => by cases rv; cases t; exact .base (.str _)
  | .tup ds, rv, t => by
      cases t
      obtain ⟨p, xs, rfl, h1, h2⟩ := rp_tup rv
      rcases h1 with (h1 | ⟨o, h1⟩) | ⟨o, its, m, h1, h3, _⟩
      · exact .base (.tup (vi _ _ h1))
      · exact .fTuple (vi _ _ h1)
      · exact .kTuple h1 h3
  | .lst ds, rv, t => by
      cases t
      obtain ⟨p, xs, rfl, h1, h2⟩ := rp_lst rv
      rcases h1 with (h1 | ⟨o, h1⟩) | ⟨o, its, m, h1, h3, _⟩
      · exact .base (.lst (vi _ _ h1))
      · exact .base (.frz (vi _ _ h1))
      · exact .kList h1 h3
/-- the answers, by a table that reduces -/
def kitN (n m : String) : Option Bool :=
  match n with
  | "NoneType" => some false
  | "bool" => some (match m with | "bool" => true | "int" => true | _ => false)
  | _ => some (decide (n = m))
def isiD (w : D) (m : String) : Option Bool := match w with
  | .non => kitB "NoneType" m | .bl _ => kitB "bool" m | .int _ => kitB "int" m | .str _ => kitB "str" m | .tup _ => kitB "tuple" m | .lst _ => kitB "list" m | _ => none
def isiK (w : D) (m : String) (os : Os) (k : D → Os → Prop) : Prop := match w with
  | .ref p => ∃ (n : Nat) (ws : List D), os[n]? = some (p, .lst ws) ∧ ∃ b, kitB "list" m = some b ∧ k (.bl b) os
  | w => ∃ b, isiD w m = some b ∧ k (.bl b) os
def cIsi : TrC := fun ws os k => match ws with
  | [w, .ty m] => isiK w m os k
  | _ => False
theorem cmc_isi : CmC X (.builtin "isinstance") cIsi := by
  intro ws os k h
  unfold cIsi at h
  split at h
  · rename_i w m
    refine JC.mk call_isi fun F V0 H vs Q r rs c => ?_
    obtain ⟨v, v2, rfl, rv, rv2⟩ := rs.two
    cases rv2
    have key : ∃ n b, TyX X.K H v (.type n) ∧ kitB n m = some b ∧ k (.bl b) os := by
      unfold isiK at h
      split at h
      · obtain ⟨n, ws, ho, b, hb, q⟩ := h
        obtain rfl := rv.toRef
        obtain ⟨_, _, ho', h3, vs, rfl, h4⟩ := r.own _ (List.mem_of_getElem? ho)
        exact ⟨"list", b, .base (.lst h3), hb, q⟩
      · obtain ⟨b, hb, q⟩ := h
        unfold isiD at hb
        split at hb
        · exact ⟨_, b, tyX_of r.vi rv rfl, hb, q⟩
        · exact ⟨_, b, tyX_of r.vi rv rfl, hb, q⟩
        · exact ⟨_, b, tyX_of r.vi rv rfl, hb, q⟩
        · exact ⟨_, b, tyX_of r.vi rv rfl, hb, q⟩
        · exact ⟨_, b, tyX_of r.vi rv rfl, hb, q⟩
        · exact ⟨_, b, tyX_of r.vi rv rfl, hb, q⟩
        · cases hb
    obtain ⟨n, b, t, hb, q⟩ := key
    exact ⟨v, .ty m, _, _, b, rfl, .ty m, t, kit_ty hb, c V0 os H _ _ (Same.refl _) r rwB q⟩
  · exact h.elim

/-! ### methods of lists -/
theorem own_ty {K : PySem.W.Frag} {F V0 H : Hp} {p : Addr} {ws : List D} {n : Nat} (r : Rel K F V0 os H) (ho : os[n]? = some (p, .lst ws)) : ∃ vs, H p = some (.lst vs) ∧ RpA K V0 vs ws ∧ tyV K "list" (.ref p) H := by
  obtain ⟨_, _, ho', h3, vs, rfl, h4⟩ := r.own _ (List.mem_of_getElem? ho)
  exact ⟨vs, h3, h4, .inl ⟨rfl, vs, SqL.of h3⟩⟩
variable {o : Expr} {apos cpos : Pos} {to : TrE}
/-- an owned list at hand -/
def onL (w : D) (os : Os) (k : Addr → Prop) : Prop := match w with
  | .ref p => (∃ (n : Nat) (ws : List D), os[n]? = some (p, OO.lst ws)) ∧ k p
  | _ => False
theorem onL_ref {w : D} {kk : Addr → Prop} (h : onL w os kk) : ∃ (p : Addr) (n : Nat) (ws : List D), w = .ref p ∧ os[n]? = some (p, OO.lst ws) ∧ kk p := by
  unfold onL at h
  split at h
  · obtain ⟨⟨n, ws, ho⟩, q⟩ := h
    exact ⟨_, n, ws, rfl, ho, q⟩
  · exact h.elim
/-- xs.append(e): the receiver first, then the item -/
def eApp (to te : TrE) : TrE := fun kx env os k => to kx env os fun w os1 => onL w os1 fun p => te kx env os1 fun y os2 => ∃ (m : Nat) (us : List D), os2[m]? = some (p, .lst us) ∧ us.length < sizeLine ∧ k .non (os2.set m (p, .lst (us ++ [y])))
theorem cm_app (h : Cm X o to) (h2 : Cm X e te) (hbase : attributeBase o "append" X.env (eval o X.env) = eval o X.env)
    (hfew : ((backTo cpos (starEach [e] X.env)).all (fun x => !x.1) && (backToKw cpos (keywordEach [] X.env)).all (fun x => x.1.isSome)
      && decide ([e].length + ([] : List Keyword).length + (if ([] : List Keyword).isEmpty then 0 else 1) < 30)) = true)
    (hline : (apos.endLine == cpos.line) = true) (hs : starEach [e] X.env = (false, eval e X.env) :: starEach [] X.env) :
    Cm X (.Call (.Attribute o "append" apos) [e] [] cpos) (eApp to te) := by
  intro kx env os k q F V0 H σ Q W r sr ek c
  refine wE_of (pe_bm PySem.F.plainAttrs_list PySem.F.slot_list_append PySem.F.type_list_append mt_append wE_pe (pa_cons wE_pe pa_nil hs) hbase hfew hline hs) ?_
  refine h _ _ _ _ q F V0 H σ _ W r sr ek fun V1 os1 H1 v w s1 r1 rv q => ?_
  obtain ⟨pl, n, ws, rfl, ho, q⟩ := onL_ref q
  obtain rfl := rv.toRef
  obtain ⟨vs, h3, h4, ty⟩ := own_ty r1 ho
  refine ⟨ty, ?_⟩
  refine h2 _ _ _ _ q F V1 H1 σ _ W r1 (sr.mono s1) (ek.mono s1) fun V2 os2 H2 u y s2 r2 ru ⟨m, us, ho2, hl, q⟩ => ?_
  obtain ⟨vs2, h5, h6, _⟩ := own_ty r2 ho2
  refine ⟨pl, vs2, u, rfl, rfl, h5, by rw [h6.length]; exact hl, ?_⟩
  exact c V2 _ _ _ .non (s1.trans s2) (r2.mut ho2 (oo' := .lst (us ++ [y])) ⟨vs2 ++ [u], rfl, h6.append (.cons ru .nil)⟩) rwN q
/-- xs.pop(i) -/
def ePopAt (to te : TrE) : TrE := fun kx env os k => to kx env os fun w os1 => onL w os1 fun p => te kx env os1 fun y os2 => match y with
  | .int i => ∃ (m : Nat) (us : List D) (j : Nat) (z : D), os2[m]? = some (p, .lst us) ∧ -(2 ^ 63) ≤ i ∧ i < 2 ^ 63 ∧ seqIndex? i us.length = some j ∧ us[j]? = some z ∧ k z (os2.set m (p, .lst (us.eraseIdx j)))
  | _ => False
theorem cm_popAt (h : Cm X o to) (h2 : Cm X e te) (hbase : attributeBase o "pop" X.env (eval o X.env) = eval o X.env)
    (hfew : ((backTo cpos (starEach [e] X.env)).all (fun x => !x.1) && (backToKw cpos (keywordEach [] X.env)).all (fun x => x.1.isSome)
      && decide ([e].length + ([] : List Keyword).length + (if ([] : List Keyword).isEmpty then 0 else 1) < 30)) = true)
    (hline : (apos.endLine == cpos.line) = true) (hs : starEach [e] X.env = (false, eval e X.env) :: starEach [] X.env) :
    Cm X (.Call (.Attribute o "pop" apos) [e] [] cpos) (ePopAt to te) := by
  intro kx env os k q F V0 H σ Q W r sr ek c
  refine wE_of (pe_bm PySem.F.plainAttrs_list PySem.F.slot_list_pop PySem.F.type_list_pop mt_popAt wE_pe (pa_cons wE_pe pa_nil hs) hbase hfew hline hs) ?_
  refine h _ _ _ _ q F V0 H σ _ W r sr ek fun V1 os1 H1 v w s1 r1 rv q => ?_
  obtain ⟨pl, n, ws, rfl, ho, q⟩ := onL_ref q
  obtain rfl := rv.toRef
  obtain ⟨vs, h3, h4, ty⟩ := own_ty r1 ho
  refine ⟨ty, ?_⟩
  refine h2 _ _ _ _ q F V1 H1 σ _ W r1 (sr.mono s1) (ek.mono s1) fun V2 os2 H2 u y s2 r2 ru q => ?_
  split at q
  · obtain ⟨m, us, j, z, ho2, b1, b2, hj, hz, q⟩ := q
    cases ru
    obtain ⟨vs2, h5, h6, _⟩ := own_ty r2 ho2
    obtain ⟨zv, ez, rz⟩ := h6.get hz
    refine ⟨pl, vs2, _, j, zv, rfl, rfl, h5, b1, b2, by rw [h6.length]; exact hj, ez, ?_⟩
    exact c V2 _ _ _ z (s1.trans s2) (r2.mut ho2 (oo' := .lst (us.eraseIdx j)) ⟨vs2.eraseIdx j, rfl, h6.eraseIdx j⟩) rz q
  · exact q.elim
/-- xs.pop() -/
def ePop (to : TrE) : TrE := fun kx env os k => to kx env os fun w os1 => match w with
  | .ref p => ∃ (n : Nat) (ws : List D) (z : D), os1[n]? = some (p, .lst ws) ∧ ws[ws.length - 1]? = some z ∧ k z (os1.set n (p, .lst ws.dropLast))
  | _ => False
theorem cm_pop (h : Cm X o to) (hbase : attributeBase o "pop" X.env (eval o X.env) = eval o X.env) (hline : (apos.endLine == cpos.line) = true) :
    Cm X (.Call (.Attribute o "pop" apos) [] [] cpos) (ePop to) := by
  intro kx env os k q F V0 H σ Q W r sr ek c
  refine wE_of (pe_bm0 PySem.F.plainAttrs_list PySem.F.slot_list_pop PySem.F.type_list_pop mt_pop wE_pe hbase hline) ?_
  refine h _ _ _ _ q F V0 H σ _ W r sr ek fun V1 os1 H1 v w s1 r1 rv q => ?_
  split at q
  · obtain ⟨n, ws, z, ho, hz, q⟩ := q
    obtain rfl := rv.toRef
    obtain ⟨vs, h3, h4, ty⟩ := own_ty r1 ho
    refine ⟨ty, ?_⟩
    obtain ⟨zv, ez, rz⟩ := h4.get (i := ws.length - 1) hz
    refine ⟨_, vs, zv, rfl, rfl, h3, by rw [h4.length]; exact ez, ?_⟩
    refine c V1 _ _ _ z s1 (r1.mut ho (oo' := .lst ws.dropLast) ⟨vs.dropLast, rfl, ?_⟩) rz q
    rw [List.dropLast_eq_take, List.dropLast_eq_take, h4.length]
    exact h4.take _
  · exact q.elim
theorem rpA_rep {K : PySem.W.Frag} {H : Hp} {vs : List V} {ws : List D} (h : RpA K H vs ws) : ∀ n : Nat, RpA K H (List.replicate n vs).flatten (List.replicate n ws).flatten
  | 0 => .nil
  | n + 1 => by
    rw [List.replicate_succ, List.replicate_succ, List.flatten_cons, List.flatten_cons]
    exact h.append (rpA_rep h n)
/-- [e] * n: a new list of n times the one item: data or owned -/
def repK (own : Bool) (es : List D) (y : D) (os : Os) (k : D → Os → Prop) : Prop := match y with
  | .int j => -(2 ^ 63) ≤ j ∧ j < 2 ^ 63 ∧ es.length * j.toNat ≤ sizeLine ∧ (if own then ∀ a, k (.ref a) ((a, .lst (List.replicate j.toNat es).flatten) :: os) else k (.lst (List.replicate j.toNat es).flatten) os)
  | _ => False
def eRep (own : Bool) (tl : TrA) (tb : TrE) : TrE := fun kx env os k => tl kx env os fun es os1 => tb kx env os1 fun y os2 => repK own es y os2 k
theorem cm_rep {own : Bool} {p1 : Pos} (h : CmA X es tl n) (hn : n ≤ 1000) (h2 : Cm X b te) : Cm X (.BinOp (.List es p1) .Mult b pos) (eRep own tl te) := by
  intro kx env os k q F V0 H σ Q W r sr ek c
  refine wE_of (pe_op (r := wO X (binaryOp .Mult)) wO_op wE_pe wE_pe) ?_
  refine wE_of (pe_lst wA_pa) ?_
  refine h.2 _ _ _ _ q F V0 H σ _ W r sr ek fun V1 os1 H1 vs ws s1 r1 rs ⟨hl, q⟩ => ?_
  refine ⟨by rw [rs.length, hl]; exact Nat.le_of_lt (small1000 hn), fun p hp => ?_⟩
  obtain ⟨s1', r1', rp⟩ := rel_newL r1 hp rs
  refine h2 _ _ _ _ q F _ _ σ _ W r1' (sr.mono (s1.trans s1')) (ek.mono (s1.trans s1')) fun V2 os2 H2 u y s2 r2 ru q => ?_
  obtain ⟨a0, xs, e0, h3, h4⟩ := rp_lst (Rp.mono s2 rp)
  cases e0
  have s12 := (s1.trans s1').trans s2
  unfold repK at q
  split at q
  · obtain ⟨b1, b2, hsz, q⟩ := q
    cases ru
    refine wO_of op_rep ?_
    have hH : H2 p = some (.lst vs) := r2.vi _ _ (s2 _ _ upd_same)
    have h4' : RpA X.K V2 vs ws := RpA.mono (s1'.trans s2) rs
    refine ⟨p, _, vs, rfl, rfl, hH, b1, b2, by rw [h4'.length]; exact hsz, fun a ha => ?_⟩
    split at q
    · exact c V2 _ _ _ (.ref a) s12 (r2.addO ha (oo := .lst _) ⟨_, rfl, rpA_rep h4' _⟩) (.ref a) (q a)
    · obtain ⟨s3, r3, rp3⟩ := rel_newL r2 ha (rpA_rep h4' _)
      exact c _ os2 _ _ (.lst _) (s12.trans s3) r3 rp3 q
  · exact q.elim
end

/-! ### statements -/
structure KR where
  rt : D → Os → Prop
  bk : DEnv → Os → Prop := fun _ _ => False
  ct : DEnv → Os → Prop := fun _ _ => False
  ex : Exn → DEnv → Os → Prop := fun _ _ _ => False
structure KS where
  nx : DEnv → Os → Prop
  r : KR
abbrev KS.rt (K : KS) := K.r.rt
abbrev KS.bk (K : KS) := K.r.bk
abbrev KS.ct (K : KS) := K.r.ct
abbrev KS.ex (K : KS) := K.r.ex
structure EndsOk (X : Cx) (F V0 : Hp) (K : KS) (D : Ends) (W : WX) : Prop where
  nx : ∀ (V1 : Hp) (os1 : Os) (H1 : Hp) (σ1 : L2.St) (env1 : DEnv), Same V0 V1 → Rel X.K F V1 os1 H1 → SR X.K V1 σ1 env1 → K.nx env1 os1 → D.nx σ1 H1
  rt : ∀ (V1 : Hp) (os1 : Os) (H1 : Hp) (v : V) (w : EV.D), Same V0 V1 → Rel X.K F V1 os1 H1 → Rp X.K V1 v w → K.rt w os1 → D.rt v H1
  bk : ∀ (V1 : Hp) (os1 : Os) (H1 : Hp) (σ1 : L2.St) (env1 : DEnv), Same V0 V1 → Rel X.K F V1 os1 H1 → SR X.K V1 σ1 env1 → K.bk env1 os1 → D.bk σ1 H1
  ct : ∀ (V1 : Hp) (os1 : Os) (H1 : Hp) (σ1 : L2.St) (env1 : DEnv), Same V0 V1 → Rel X.K F V1 os1 H1 → SR X.K V1 σ1 env1 → K.ct env1 os1 → D.ct σ1 H1
  tk : Takes X W
  ex : ∀ (V1 : Hp) (os1 : Os) (H1 : Hp) (σ1 : L2.St) (env1 : DEnv) (cls : Value) (d : Option Addr) (x : Exn), Same V0 V1 → Rel X.K F V1 os1 H1 → SR X.K V1 σ1 env1 → ExnR X.K V1 cls d x → K.ex x env1 os1 → W cls d σ1 H1
theorem EndsOk.mono {X : Cx} {F V0 V1 : Hp} {K : KS} {D : Ends} {W : WX} (h : EndsOk X F V0 K D W) (s : Same V0 V1) : EndsOk X F V1 K D W :=
  ⟨fun V2 o H σ e s2 => h.nx V2 o H σ e (s.trans s2), fun V2 o H v w s2 => h.rt V2 o H v w (s.trans s2), fun V2 o H σ e s2 => h.bk V2 o H σ e (s.trans s2), fun V2 o H σ e s2 => h.ct V2 o H σ e (s.trans s2), h.tk,
    fun V2 o H σ e c d x s2 => h.ex V2 o H σ e c d x (s.trans s2)⟩
theorem EndsOk.xk {X : Cx} {F V0 : Hp} {K : KS} {D : Ends} {W : WX} (h : EndsOk X F V0 K D W) {σ : L2.St} {env : DEnv} (sr : SR X.K V0 σ env) : XkOk X F V0 σ (fun x os => K.ex x env os) W :=
  ⟨h.tk, fun V1 os1 H1 cls d x s r e q => h.ex V1 os1 H1 σ env cls d x s r (sr.mono s) e q⟩
def JS1 (X : Cx) (st : Stmt) (env : DEnv) (os : Os) (K : KS) : Prop :=
  ∀ (F V0 H : Hp) (σ : L2.St) (D : Ends) (W : WX), Rel X.K F V0 os H → SR X.K V0 σ env → EndsOk X F V0 K D W → wS1 X st D σ H
def JSs (X : Cx) (sts : List Stmt) (env : DEnv) (os : Os) (K : KS) : Prop :=
  ∀ (F V0 H : Hp) (σ : L2.St) (D : Ends) (W : WX), Rel X.K F V0 os H → SR X.K V0 σ env → EndsOk X F V0 K D W → wSs X sts D σ H
def JG (X : Cx) (tg : Expr) (w : D) (env : DEnv) (os : Os) (kg : DEnv → Os → Prop) : Prop :=
  ∀ (F V0 H : Hp) (σ : L2.St) (v : V) (Q : L2.St → Hp → Prop) (W : WX), Rel X.K F V0 os H → SR X.K V0 σ env → Rp X.K V0 v w → Takes X W →
    (∀ (V1 : Hp) (os1 : Os) (H1 : Hp) (σ1 : L2.St) (env1 : DEnv), Same V0 V1 → Rel X.K F V1 os1 H1 → SR X.K V1 σ1 env1 → kg env1 os1 → Q σ1 H1) → wG X tg v σ H Q
abbrev TrS := (DEnv → Os → Prop) → KR → DEnv → Os → Prop
abbrev TrG := D → DEnv → Os → (DEnv → Os → Prop) → Prop
def CmS (X : Cx) (st : Stmt) (t : TrS) : Prop := ∀ N R env os, t N R env os → JS1 X st env os ⟨N, R⟩
def CmSs (X : Cx) (sts : List Stmt) (t : TrS) : Prop := ∀ N R env os, t N R env os → JSs X sts env os ⟨N, R⟩
def CmG (X : Cx) (tg : Expr) (t : TrG) : Prop := ∀ w env os kg, t w env os kg → JG X tg w env os kg
theorem XkOk.no {X : Cx} {F V0 : Hp} {σ : L2.St} {W : WX} (t : Takes X W) : XkOk X F V0 σ (fun _ _ => False) W := ⟨t, fun _ _ _ _ _ _ _ _ _ z => z.elim⟩
/-- what is raised within a statement -/
abbrev KR.xk (R : KR) (env : DEnv) : Kx := fun x os => R.ex x env os
/-- a block -/
def sNo : TrS := fun N _ env os => N env os
def sCo (t u : TrS) : TrS := fun N R env os => t (fun e o => u N R e o) R env os
section
variable {X : Cx} {pos : Pos} {e : Expr} {st : Stmt} {sts : List Stmt} {te to : TrE} {t : TrS} {ts : List TrS}
theorem cs_nil : CmSs X [] sNo := fun N R env os q F V0 H σ D W r sr ek => wSs_of pss_nil (ek.nx V0 os H σ env (Same.refl _) r sr q)
theorem cs_one (h : CmS X st t) : CmSs X [st] t := fun N R env os q F V0 H σ D W r sr ek => wSs_of (pss_one wS1_ps) (h _ _ _ _ q F V0 H σ D W r sr ek)
theorem cs_cons {u : TrS} (h : CmS X st t) (h2 : CmSs X sts u) : CmSs X (st :: sts) (sCo t u) := by
  intro N R env os q F V0 H σ D W r sr ek
  refine wSs_of (pss_cons wS1_ps wSs_pss) ?_
  refine h _ _ _ _ q F V0 H σ { D with nx := wSs X sts D } W r sr ⟨fun V1 os1 H1 σ1 env1 s1 r1 sr1 q => ?_, ek.rt, ek.bk, ek.ct, ek.tk, ek.ex⟩
  exact h2 _ _ _ _ q F V1 H1 σ1 D W r1 sr1 (ek.mono s1)
def sPass : TrS := fun N R env os => N env os
def sBrk : TrS := fun N R env os => R.bk env os
def sCnt : TrS := fun N R env os => R.ct env os
theorem c1_pass : CmS X (.Pass pos) sPass := fun N R env os q F V0 H σ D W r sr ek => wS1_of ps_pass (ek.nx V0 os H σ env (Same.refl _) r sr q)
theorem c1_brk : CmS X (.Break pos) sBrk := fun N R env os q F V0 H σ D W r sr ek => wS1_of ps_break (ek.bk V0 os H σ env (Same.refl _) r sr q)
theorem c1_cnt : CmS X (.Continue pos) sCnt := fun N R env os q F V0 H σ D W r sr ek => wS1_of ps_continue (ek.ct V0 os H σ env (Same.refl _) r sr q)
def sRet (te : TrE) : TrS := fun N R env os => te (R.xk env) env os fun w os1 => R.rt w os1
def sRetN : TrS := fun N R _ os => R.rt .non os
theorem c1_ret (h : Cm X e te) : CmS X (.Return (some e) pos) (sRet te) := by
  intro N R env os q F V0 H σ D W r sr ek
  refine wS1_of (ps_ret wE_pe) ?_
  exact h _ _ _ _ q F V0 H σ _ W r sr (ek.xk sr) fun V1 os1 H1 v w s1 r1 rv q => ek.rt V1 os1 H1 v w s1 r1 rv q
theorem c1_retN : CmS X (.Return none pos) sRetN := fun N R env os q F V0 H σ D W r sr ek => wS1_of ps_retN (ek.rt V0 os H .non .non (Same.refl _) r rwN q)
def sExpr (te : TrE) : TrS := fun N R env os => te (R.xk env) env os fun _ os1 => N env os1
theorem c1_expr (h : Cm X e te) (hs : swapsWith e none pos.line X.env = pure false) : CmS X (.Expr e pos) (sExpr te) := by
  intro N R env os q F V0 H σ D W r sr ek
  refine wS1_of (ps_expr wE_pe hs) ?_
  exact h _ _ _ _ q F V0 H σ _ W r sr (ek.xk sr) fun V1 os1 H1 v w s1 r1 rv q => ek.nx V1 os1 H1 σ env s1 r1 (sr.mono s1) q
def sIf (c : TrT) (p q : TrS) : TrS := fun N R env os => c (R.xk env) env os fun b os1 => (b = true → p N R env os1) ∧ (b = false → q N R env os1)
/-- both ways meet in J -/
def sIfJ (c : TrT) (p q : TrS) : TrS := fun N R env os => ∃ J : DEnv → Os → Prop, (c (R.xk env) env os fun b os1 => (b = true → p J R env os1) ∧ (b = false → q J R env os1)) ∧ ∀ e o, J e o → N e o
theorem c1_if {c : Expr} {p q : List Stmt} {tc : TrT} {tp tq : TrS} (h : CmT X c tc) (h1 : CmSs X p tp) (h2 : CmSs X q tq) : CmS X (.If c p q pos) (sIf tc tp tq) := by
  intro N R env os q F V0 H σ D W r sr ek
  refine wS1_of (ps_if wTt_pt wSs_pss wSs_pss) ?_
  refine h _ _ _ _ q F V0 H σ _ W r sr (ek.xk sr) fun V1 os1 H1 b s1 r1 q => ?_
  cases b with
  | true => exact iteT (h1 _ _ _ _ (q.1 rfl) F V1 H1 σ D W r1 (sr.mono s1) (ek.mono s1))
  | false => exact iteF (h2 _ _ _ _ (q.2 rfl) F V1 H1 σ D W r1 (sr.mono s1) (ek.mono s1))
theorem c1_ifJ {c : Expr} {p q : List Stmt} {tc : TrT} {tp tq : TrS} (h : CmT X c tc) (h1 : CmSs X p tp) (h2 : CmSs X q tq) : CmS X (.If c p q pos) (sIfJ tc tp tq) := by
  intro N R env os ⟨J, q, hJ⟩ F V0 H σ D W r sr ek
  exact c1_if h h1 h2 J R env os q F V0 H σ D W r sr ⟨fun V1 o1 H1 σ1 e1 a b c z => ek.nx V1 o1 H1 σ1 e1 a b c (hJ _ _ z), ek.rt, ek.bk, ek.ct, ek.tk, ek.ex⟩
/-- name = e -/
def sSet (i : Nat) (te : TrE) : TrS := fun N R env os => te (R.xk env) env os fun w os1 => N (setE env i (some w)) os1
theorem sr_setE {K : PySem.W.Frag} {V0 : Hp} {σ : L2.St} {env : DEnv} (h : SR K V0 σ env) {v : V} {w : D} (r : Rp K V0 v w) (i : Nat) : SR K V0 (σ.set i (some v)) (setE env i (some w)) := by
  rw [setE_eq]; exact h.set r i
theorem c1_set {i : Nat} {x : Str} {pos' : Pos} (hN : X.N.Nodup) (hi : X.N[i]? = some x) (hx : Loc X.env.scope x) (h : Cm X e te) (hs : swapsWith e (some (.Name x pos')) pos.line X.env = pure false)
    (hf : X.fn x = true ∨ X.env.scope.names.lookup x = some .local) : CmS X (.Assign [.Name x pos'] e pos) (sSet i te) := by
  intro N R env os q F V0 H σ D W r sr ek
  refine wS1_of (ps_set hN hi hx wE_pe hs hf) ?_
  exact h _ _ _ _ q F V0 H σ _ W r sr (ek.xk sr) fun V1 os1 H1 v w s1 r1 rv q => ek.nx V1 os1 H1 _ _ s1 r1 (sr_setE (sr.mono s1) rv i) q
/-- name op= e -/
def sAug (i : Nat) (o : TrO) (te : TrE) : TrS := fun N R env os => match getE env i with
  | some x => te (R.xk env) env os fun y os1 => o x y os1 fun z os2 => N (setE env i (some z)) os2
  | none => False

/-! ### targets -/
variable {tg : TrG}
def gName (i : Nat) : TrG := fun w env os kg => kg (setE env i (some w)) os
theorem cg_name {i : Nat} {x : Str} (hN : X.N.Nodup) (hi : X.N[i]? = some x) (hx : Loc X.env.scope x) (hf : X.fn x = true ∨ X.env.scope.names.lookup x = some .local) : CmG X (.Name x pos) (gName i) :=
  fun w env os kg q F V0 H σ v Q W r sr rv tk c => wG_of (pg_name hN hi hx hf) (c V0 os H _ _ (Same.refl _) r (sr_setE sr rv i) q)
def JGs (X : Cx) (tgs : List Expr) (ws : List D) (env : DEnv) (os : Os) (kg : DEnv → Os → Prop) : Prop :=
  ∀ (F V0 H : Hp) (σ : L2.St) (vs : List V) (Q : L2.St → Hp → Prop) (W : WX), Rel X.K F V0 os H → SR X.K V0 σ env → RpA X.K V0 vs ws → Takes X W →
    (∀ (V1 : Hp) (os1 : Os) (H1 : Hp) (σ1 : L2.St) (env1 : DEnv), Same V0 V1 → Rel X.K F V1 os1 H1 → SR X.K V1 σ1 env1 → kg env1 os1 → Q σ1 H1) → wGs X tgs vs σ H Q
abbrev TrGs := List D → DEnv → Os → (DEnv → Os → Prop) → Prop
def CmGs (X : Cx) (tgs : List Expr) (t : TrGs) (n : Nat) : Prop := tgs.length = n ∧ ∀ ws env os kg, ws.length = n → t ws env os kg → JGs X tgs ws env os kg
def gsN : TrGs := fun _ env os kg => kg env os
def gsC (g : TrG) (gs : TrGs) : TrGs := fun ws env os kg => match ws with
  | w :: ws => g w env os fun env1 os1 => gs ws env1 os1 kg
  | [] => False
theorem cgs_nil : CmGs X [] gsN 0 := ⟨rfl, fun ws env os kg hl q F V0 H σ vs Q W r sr rs tk c => by
  cases ws with
  | nil =>
    cases rs
    exact wGs_of pgs_nil ⟨rfl, c V0 os H σ env (Same.refl _) r sr q⟩
  | cons _ _ => cases hl⟩
theorem cgs_cons {tge : Expr} {tgs : List Expr} {gs : TrGs} {n : Nat} (h : CmG X tge tg) (h2 : CmGs X tgs gs n)
    (hs : (assignEach (tge :: tgs) X.env).map (·.2) = assign tge X.env :: (assignEach tgs X.env).map (·.2)) : CmGs X (tge :: tgs) (gsC tg gs) (n + 1) :=
  ⟨congrArg (· + 1) h2.1, fun ws env os kg hl q F V0 H σ vs Q W r sr rs tk c => by
    cases ws with
    | nil => cases hl
    | cons w ws =>
      cases rs with
      | cons rv rs =>
        refine wGs_of (pgs_cons wG_pg wGs_pgs hs) ⟨_, _, rfl, ?_⟩
        refine h _ _ _ _ q F V0 H σ _ _ W r sr rv tk fun V1 os1 H1 σ1 env1 s1 r1 sr1 q => ?_
        exact h2.2 _ _ _ _ (by simpa using hl) q F V1 H1 σ1 _ Q W r1 sr1 (RpA.mono s1 rs) tk fun V2 os2 H2 σ2 env2 s2 r2 sr2 q2 => c V2 os2 H2 σ2 env2 (s1.trans s2) r2 sr2 q2⟩
/-- (a, b, ..) = a tuple, a list of data -/
def gTup (n : Nat) (gs : TrGs) : TrG := fun w env os kg => match w with
  | .tup ds => ds.length = n ∧ gs ds env os kg
  | .lst ds => ds.length = n ∧ gs ds env os kg
  | _ => False
theorem cg_tup {es : List Expr} {m : Nat} {gs : TrGs} {n : Nat} (hc : X.calm = true) (h : CmGs X es gs n)
    (hn : (assignEach es X.env).length = n) (hst : (assignEach es X.env).findIdx? (·.1) = none) : CmG X (.Tuple es m pos) (gTup n gs) := by
  intro w env os kg q F V0 H σ v Q W r sr rv tk c
  unfold gTup at q
  split at q
  · obtain ⟨hl, q⟩ := q
    obtain ⟨p, xs, rfl, h1, h2⟩ := rp_tup rv
    refine wG_of (pg_tup (n := n) hc wGs_pgs hn hst) ⟨p, xs, rfl, same_sqT r.vi h1, by rw [h2.length]; exact hl, ?_⟩
    exact h.2 _ _ _ _ hl q F V0 H σ xs Q W r sr h2 tk c
  · obtain ⟨hl, q⟩ := q
    obtain ⟨p, xs, rfl, h1, h2⟩ := rp_lst rv
    refine wG_of (pg_lst (n := n) hc wGs_pgs hn hst) ⟨p, xs, rfl, r.vi.seq h1, by rw [h2.length]; exact hl, ?_⟩
    exact h.2 _ _ _ _ hl q F V0 H σ xs Q W r sr h2 tk c
  · exact q.elim
/-- target = e -/
def sAsg (g : TrG) (te : TrE) : TrS := fun N R env os => te (R.xk env) env os fun w os1 => g w env os1 N
theorem c1_asg {tge : Expr} (hg : CmG X tge tg) (h : Cm X e te) (hs : swapsWithSole [tge] e pos.line X.env = pure false) (hw : swappedStores [tge] e X.env = pure none)
    (h1 : (assignEach [tge] X.env).map (·.2) = [assign tge X.env]) : CmS X (.Assign [tge] e pos) (sAsg tg te) := by
  intro N R env os q F V0 H σ D W r sr ek
  refine wS1_of (ps_asg wE_pe wG_pg hs hw h1) ?_
  refine h _ _ _ _ q F V0 H σ _ W r sr (ek.xk sr) fun V1 os1 H1 v w s1 r1 rv q => ?_
  exact hg _ _ _ _ q F V1 H1 σ v _ W r1 (sr.mono s1) rv ek.tk fun V2 os2 H2 σ2 env2 s2 r2 sr2 q2 => ek.nx V2 os2 H2 σ2 env2 (s1.trans s2) r2 sr2 q2
def kx0 : Kx := fun _ _ => False
/-- o[i] = .., an owned list -/
def gSub (to ti : TrE) : TrG := fun w env os kg => to kx0 env os fun x os1 => ti kx0 env os1 fun y os2 => match x with
  | .ref p => (match y with
    | .int i => ∃ (n : Nat) (ws : List D) (j : Nat), os2[n]? = some (p, .lst ws) ∧ ixN ws.length i = some j ∧ kg env (os2.set n (p, .lst (ws.set j w)))
    | _ => False)
  | _ => False
theorem cg_sub {o ix : Expr} {ti : TrE} (h : Cm X o to) (h2 : Cm X ix ti)
    (ha : ∀ v, assign (.Subscript o ix pos) X.env v = (do
      let ov ← holding [v] (eval o X.env)
      let iv ← holding [v, ov] (eval ix X.env)
      standAt pos
      holding [v, ov, iv] (setItem ov iv v)
      release [v, ov, iv] [])) : CmG X (.Subscript o ix pos) (gSub to ti) := by
  intro w env os kg q F V0 H σ v Q W r sr rv tk c
  refine wG_of (pg_sub wE_pe wE_pe set_list ha) ?_
  refine h _ _ _ _ q F V0 H σ _ W r sr (XkOk.no tk) fun V1 os1 H1 ov x s1 r1 ro q => ?_
  refine h2 _ _ _ _ q F V1 H1 σ _ W r1 (sr.mono s1) (XkOk.no tk) fun V2 os2 H2 iv y s2 r2 ri q => ?_
  split at q
  · split at q
    · obtain ⟨n, ws, j, ho, hj, q⟩ := q
      have e := (Rp.mono s2 ro).toRef
      subst e
      cases ri
      obtain ⟨vs, h3, h4, _⟩ := own_ty r2 ho
      refine ⟨_, vs, _, j, rfl, rfl, h3, by rw [h4.length]; exact hj, ?_⟩
      have s := s1.trans s2
      exact c V2 _ _ σ env s (r2.mut ho (oo' := .lst (ws.set j w)) ⟨vs.set j v, rfl, RpA.set (rv.mono s) j h4⟩) (sr.mono s) q
    · exact q.elim
  · exact q.elim
end

/-! ### iteration -/
/-- an owned list that a loop reads stays as it is -/
abbrev Gd := Option (Addr × List D)
def gOk : Gd → Os → Prop
  | none, _ => True
  | some (p, all), os => ∃ n : Nat, os[n]? = some (p, OO.lst all)
def gK (gd : Gd) (os : Os) (k : Prop) : Prop := match gd with
  | none => k
  | some (p, all) => (∃ n : Nat, os[n]? = some (p, OO.lst all)) ∧ k
theorem gK_ok {gd : Gd} {os : Os} {k : Prop} (h : gK gd os k) : gOk gd os ∧ k := by
  cases gd with
  | none => exact ⟨trivial, h⟩
  | some z => exact h
theorem gK_mk {gd : Gd} {os : Os} {k : Prop} (h : gOk gd os) (q : k) : gK gd os k := by
  cases gd with
  | none => exact q
  | some z => exact ⟨h, q⟩
/-- the iterator gives ws, whatever is made meanwhile -/
structure GI (K : PySem.W.Frag) (V1 : Hp) (J : It) (ws : List D) (gd : Gd) : Prop where
  go : ∀ (i : Nat) (F V2 : Hp) (os : Os) (H : Hp), Same V1 V2 → Rel K F V2 os H → gOk gd os → i < ws.length → J.go i H
  stop : ∀ (i : Nat) (F V2 : Hp) (os : Os) (H : Hp), Same V1 V2 → Rel K F V2 os H → gOk gd os → ws.length ≤ i → J.stop i H
  yld : ∀ (i : Nat) (F V2 : Hp) (os : Os) (H : Hp) (x : V) (H' : Hp) (w : D), Same V1 V2 → Rel K F V2 os H → gOk gd os → J.yld i H x H' → ws[i]? = some w → ∃ V3, Same V2 V3 ∧ Rel K F V3 os H' ∧ Rp K V3 x w
@[irreducible] def wPI (X : Cx) (tg iter : Expr) : TI := fun σ H R => ∀ (pins : List (Addr × Obj)) (s : Shared), Inv X pins σ H s →
  wpAny (model X.prog X.w) X.A (eval iter X.env) (fun v s1 => wpAny (model X.prog X.w) X.A (pyIter v) (PIE X pins σ tg R) X.xe s1) X.xe s
theorem wPI_pi {X : Cx} {tg iter : Expr} : PI X tg iter (wPI X tg iter) := by unfold wPI; exact ⟨fun pins s _ _ _ I h => h pins s I⟩
theorem wPI_of {X : Cx} {tg iter : Expr} {t : TI} (h : PI X tg iter t) {σ : L2.St} {H : Hp} {R : It → Hp → Prop} (q : t σ H R) : wPI X tg iter σ H R := by unfold wPI; exact fun pins s I => h.run pins s σ H R I q
def JI (X : Cx) (kx : Kx) (tg iter : Expr) (env : DEnv) (os : Os) (ki : List D → Gd → Os → Prop) : Prop :=
  ∀ (F V0 H : Hp) (σ : L2.St) (R : It → Hp → Prop) (W : WX), Rel X.K F V0 os H → SR X.K V0 σ env → XkOk X F V0 σ kx W →
    (∀ (V1 : Hp) (os1 : Os) (H1 : Hp) (J : It) (ws : List D) (gd : Gd), Same V0 V1 → Rel X.K F V1 os1 H1 → GI X.K V1 J ws gd → ki ws gd os1 → R J H1) → wPI X tg iter σ H R
abbrev TrI := Kx → DEnv → Os → (List D → Gd → Os → Prop) → Prop
def CmI (X : Cx) (tg iter : Expr) (t : TrI) : Prop := ∀ kx env os ki, t kx env os ki → JI X kx tg iter env os ki
section
variable {K : PySem.W.Frag} {V1 : Hp} {a : Addr} {xs : List V} {ds : List D}
theorem gi_list (h : SqL K V1 a xs) (r : RpA K V1 xs ds) : GI K V1 (Itl K a) ds none := by
  have hl := r.length
  refine ⟨fun i F V2 os H s2 r2 _ hi => ?_, fun i F V2 os H s2 r2 _ hi => ⟨xs, (s2.trans r2.vi).seq h, by omega⟩, fun i F V2 os H x H' w s2 r2 _ y e => ?_⟩
  · exact ⟨xs, xs[i]'(by omega), (s2.trans r2.vi).seq h, by simp [hl, hi]⟩
  · obtain ⟨rfl, y⟩ := y
    have ex := y xs ((s2.trans r2.vi).seq h)
    obtain ⟨d, ed, rd⟩ := r.getV ex
    rw [ed] at e
    cases e
    exact ⟨V2, Same.refl _, r2, Rp.mono s2 rd⟩
theorem gi_own {p : Addr} : GI K V1 (Itl K p) ds (some (p, ds)) := by
  have key : ∀ (F V2 : Hp) (os : Os) (H : Hp), Rel K F V2 os H → gOk (some (p, ds)) os → ∃ vs, SqL K H p vs ∧ RpA K V2 vs ds := fun F V2 os H r2 ⟨n, ho⟩ => by
    obtain ⟨_, _, ho', h3, vs, rfl, h4⟩ := r2.own _ (List.mem_of_getElem? ho)
    exact ⟨vs, SqL.of h3, h4⟩
  refine ⟨fun i F V2 os H s2 r2 g hi => ?_, fun i F V2 os H s2 r2 g hi => ?_, fun i F V2 os H x H' w s2 r2 g y e => ?_⟩
  · obtain ⟨vs, h, ra⟩ := key F V2 os H r2 g
    have hl := ra.length
    exact ⟨vs, vs[i]'(by omega), h, by simp [hl, hi]⟩
  · obtain ⟨vs, h, ra⟩ := key F V2 os H r2 g
    have hl := ra.length
    exact ⟨vs, h, by omega⟩
  · obtain ⟨vs, h, ra⟩ := key F V2 os H r2 g
    obtain ⟨rfl, y⟩ := y
    have ex := y vs h
    obtain ⟨d, ed, rd⟩ := ra.getV ex
    rw [ed] at e
    cases e
    exact ⟨V2, Same.refl _, r2, rd⟩
theorem gi_tup (h : SqT K V1 a xs) (r : RpA K V1 xs ds) : GI K V1 (Itt K a) ds none := by
  have hl := r.length
  refine ⟨fun i F V2 os H s2 r2 _ hi => ?_, fun i F V2 os H s2 r2 _ hi => ⟨xs, same_sqT (s2.trans r2.vi) h, by omega⟩, fun i F V2 os H x H' w s2 r2 _ y e => ?_⟩
  · exact ⟨xs, xs[i]'(by omega), same_sqT (s2.trans r2.vi) h, by simp [hl, hi]⟩
  · obtain ⟨rfl, y⟩ := y
    have ex := y xs (same_sqT (s2.trans r2.vi) h)
    obtain ⟨d, ed, rd⟩ := r.getV ex
    rw [ed] at e
    cases e
    exact ⟨V2, Same.refl _, r2, Rp.mono s2 rd⟩
/-- lo, lo + c, .. -/
def rng : Int → Int → Nat → List D
  | _, _, 0 => []
  | lo, c, n + 1 => .int lo :: rng (lo + c) c n
theorem rng_len : ∀ (lo c : Int) (n : Nat), (rng lo c n).length = n
  | _, _, 0 => rfl
  | lo, c, n + 1 => congrArg (· + 1) (rng_len (lo + c) c n)
theorem rng_get : ∀ {n : Nat} {lo c : Int} {i : Nat}, i < n → (rng lo c n)[i]? = some (.int (lo + (i : Int) * c))
  | n + 1, lo, c, 0, _ => by simp [rng]
  | n + 1, lo, c, i + 1, h => by
    have := rng_get (n := n) (lo := lo + c) (c := c) (i := i) (by omega)
    rw [rng, List.getElem?_cons_succ, this]
    have : lo + c + (i : Int) * c = lo + ((i + 1 : Nat) : Int) * c := by
      rw [Int.natCast_add, Int.add_mul]; simp; omega
    rw [this]
theorem rng_at {n : Nat} {lo c : Int} {i : Nat} {w : D} (h : (rng lo c n)[i]? = some w) : w = .int (lo + (i : Int) * c) ∧ i < n := by
  have hi : i < n := by
    have := (List.getElem?_eq_some_iff.mp h).1
    rw [rng_len] at this; exact this
  rw [rng_get hi] at h
  exact ⟨(Option.some.inj h).symm, hi⟩
theorem gi_rng (lo : Int) (n : Nat) : GI K V1 (Itr lo n) (rng lo 1 n) none := by
  refine ⟨fun i F V2 os H s2 r2 _ hi => by rw [rng_len] at hi; exact hi, fun i F V2 os H s2 r2 _ hi => by rw [rng_len] at hi; exact hi, fun i F V2 os H x H' w s2 r2 _ y e => ?_⟩
  obtain ⟨rfl, rfl⟩ := y
  obtain ⟨rfl, _⟩ := rng_at e
  rw [Int.mul_one]
  exact ⟨V2, Same.refl _, r2, rwI⟩
theorem gi_rngC (lo c : Int) (n : Nat) : GI K V1 (Itc lo c n) (rng lo c n) none := by
  refine ⟨fun i F V2 os H s2 r2 _ hi => by rw [rng_len] at hi; exact hi, fun i F V2 os H s2 r2 _ hi => by rw [rng_len] at hi; exact hi, fun i F V2 os H x H' w s2 r2 _ y e => ?_⟩
  obtain ⟨rfl, rfl⟩ := y
  obtain ⟨rfl, _⟩ := rng_at e
  exact ⟨V2, Same.refl _, r2, rwI⟩
/-- (i, x), .. -/
def enumW : Int → List D → List D
  | _, [] => []
  | i, d :: ds => .tup [.int i, d] :: enumW (i + 1) ds
theorem enumW_get : ∀ {ds : List D} {lo : Int} {i : Nat} {w : D}, (enumW lo ds)[i]? = some w → ∃ d, ds[i]? = some d ∧ w = .tup [.int (lo + (i : Nat)), d]
  | [], _, _, _, h => by simp [enumW] at h
  | d :: ds, lo, 0, w, h => by
    rw [enumW] at h
    exact ⟨d, rfl, by rw [← Option.some.inj h]; simp⟩
  | d :: ds, lo, i + 1, w, h => by
    rw [enumW, List.getElem?_cons_succ] at h
    obtain ⟨d', h1, h2⟩ := enumW_get h
    refine ⟨d', h1, ?_⟩
    rw [h2]
    have : lo + 1 + (i : Int) = lo + ((i + 1 : Nat) : Int) := by omega
    rw [this]
theorem enumW_len : ∀ (lo : Int) (ds : List D), (enumW lo ds).length = ds.length
  | _, [] => rfl
  | lo, _ :: ds => congrArg (· + 1) (enumW_len (lo + 1) ds)
theorem gi_enum (h : SqL K V1 a xs) (r : RpA K V1 xs ds) : GI K V1 (Ite K a) (enumW 0 ds) none := by
  have hl := r.length
  refine ⟨fun i F V2 os H s2 r2 _ hi => ?_, fun i F V2 os H s2 r2 _ hi => ⟨xs, (s2.trans r2.vi).seq h, by rw [enumW_len] at hi; omega⟩, fun i F V2 os H x H' w s2 r2 _ y e => ?_⟩
  · rw [enumW_len] at hi
    exact ⟨xs, xs[i]'(by omega), (s2.trans r2.vi).seq h, by simp [hl, hi]⟩
  · obtain ⟨T, v, rfl, hT, rfl, y⟩ := y
    have ex := y xs ((s2.trans r2.vi).seq h)
    obtain ⟨d, ed, rd⟩ := r.getV ex
    obtain ⟨d', ed', rfl⟩ := enumW_get e
    rw [ed] at ed'; cases ed'
    obtain ⟨s3, r3, rp⟩ := rel_newT (vs := [.int (i : Nat), v]) (ds := [.int (i : Nat), d]) r2 hT (.cons (.int _) (.cons (Rp.mono s2 rd) .nil))
    rw [Int.zero_add]
    exact ⟨_, s3, r3, rp⟩
def zipW : List D → List D → List D
  | d :: ds, e :: es => .tup [d, e] :: zipW ds es
  | _, _ => []
theorem zipW_get : ∀ {ds es : List D} {i : Nat} {w : D}, (zipW ds es)[i]? = some w → ∃ d e, ds[i]? = some d ∧ es[i]? = some e ∧ w = .tup [d, e]
  | [], _, _, _, h => by simp [zipW] at h
  | _ :: _, [], _, _, h => by simp [zipW] at h
  | d :: ds, e :: es, 0, w, h => ⟨d, e, rfl, rfl, (Option.some.inj h).symm⟩
  | d :: ds, e :: es, i + 1, w, h => by
    rw [zipW, List.getElem?_cons_succ] at h
    have h2 := zipW_get (ds := ds) (es := es) (i := i) h
    exact h2
theorem zipW_len : ∀ ds es : List D, (zipW ds es).length = min ds.length es.length
  | [], _ => by simp [zipW]
  | _ :: _, [] => by simp [zipW]
  | _ :: ds, _ :: es => by rw [zipW, List.length_cons, zipW_len ds es, List.length_cons, List.length_cons]; omega
theorem gi_zip {b : Addr} {ys : List V} {es : List D} (h : SqL K V1 a xs) (r : RpA K V1 xs ds) (h' : SqL K V1 b ys) (r' : RpA K V1 ys es) : GI K V1 (Itz K a b) (zipW ds es) none := by
  have hl := r.length
  have hl' := r'.length
  have hz := zipW_len ds es
  refine ⟨fun i F V2 os H s2 r2 _ hi => ?_, fun i F V2 os H s2 r2 _ hi => ⟨xs, ys, (s2.trans r2.vi).seq h, (s2.trans r2.vi).seq h', by rw [hz] at hi; omega⟩, fun i F V2 os H x H' w s2 r2 _ y e => ?_⟩
  · rw [hz] at hi
    exact ⟨xs, ys, xs[i]'(by omega), ys[i]'(by omega), (s2.trans r2.vi).seq h, (s2.trans r2.vi).seq h', by simp, by simp⟩
  · obtain ⟨T, v, v', rfl, hT, rfl, y, y'⟩ := y
    obtain ⟨d, ed, rd⟩ := r.getV (y xs ((s2.trans r2.vi).seq h))
    obtain ⟨d2, ed2, rd2⟩ := r'.getV (y' ys ((s2.trans r2.vi).seq h'))
    obtain ⟨d', e', f1, f2, rfl⟩ := zipW_get e
    rw [ed] at f1; cases f1
    rw [ed2] at f2; cases f2
    obtain ⟨s3, r3, rp⟩ := rel_newT (vs := [v, v']) (ds := [d, d2]) r2 hT (.cons (Rp.mono s2 rd) (.cons (Rp.mono s2 rd2) .nil))
    exact ⟨_, s3, r3, rp⟩
end
section
variable {X : Cx} {tge e a b c3 : Expr} {p pos : Pos} {te ta tb tc : TrE}
/-- over a list, a tuple, an owned list -/
def iSeq (te : TrE) : TrI := fun kx env os ki => te kx env os fun w os1 => match w with
  | .lst ds => ki ds none os1
  | .tup ds => ki ds none os1
  | .ref p => ∃ (n : Nat) (ws : List D), os1[n]? = some (p, OO.lst ws) ∧ ki ws (some (p, ws)) os1
  | _ => False
theorem it_list {pins : List (Addr × Obj)} {σ : L2.St} {H : Hp} {s : Shared} {u : Addr} {xs : List V} {R : It → Hp → Prop} {E : Value → Shared → Prop} (I : Inv X pins σ H s) (hq : SqL X.K H u xs) (q : R (Itl X.K u) H) : wpAny (model X.prog X.w) X.A (pyIter (.ref u)) (PIE X pins σ tge R) E s := by
  obtain ⟨its, rv, pl, hz⟩ := I.list hq
  have fresh := I.fpOk (b := s.heap.objs.size) (Nat.le_refl _) (I.hok.fresh (Nat.le_refl _))
  refine wpAny_pyIter_list pl.isList ⟨s.heap.objs.size, [s.heap.objs.size], _, _, H, rfl, ?_, turn_list u _, ⟨_, Heap.get?_push_size _ rfl, rfl, rfl⟩, ?_, q⟩
  · exact I.kept (t' := s.toks) fun b o => Heap.get?_push_of_some _
  · intro b hb
    rw [List.mem_singleton] at hb
    exact hb ▸ fresh
theorem it_tup {pins : List (Addr × Obj)} {σ : L2.St} {H : Hp} {s : Shared} {u : Addr} {xs : List V} {R : It → Hp → Prop} {E : Value → Shared → Prop} (I : Inv X pins σ H s) (hq : SqT X.K H u xs) (q : R (Itt X.K u) H) : wpAny (model X.prog X.w) X.A (pyIter (.ref u)) (PIE X pins σ tge R) E s := by
  obtain ⟨its, rv, pl, hz⟩ := I.tuple hq
  have fresh := I.fpOk (b := s.heap.objs.size) (Nat.le_refl _) (I.hok.fresh (Nat.le_refl _))
  refine wpAny_pyIter_tuple (show s.heap.IsTuple u its.toArray from pl) ⟨s.heap.objs.size, [s.heap.objs.size], _, _, H, rfl, ?_, turn_tuple u _, ⟨_, Heap.get?_push_size _ rfl, rfl, rfl⟩, ?_, q⟩
  · exact I.kept (t' := s.toks) fun b o => Heap.get?_push_of_some _
  · intro b hb
    rw [List.mem_singleton] at hb
    exact hb ▸ fresh
theorem ci_seq (h : Cm X e te) : CmI X tge e (iSeq te) := by
  intro kx env os ki q F V0 H σ R W r sr ek c
  have hPI : PI X tge e (fun σ H R => wE X e σ H fun x H1 => ∃ (u : Addr) (xs : List V), x = .ref u ∧ ((SqL X.K H1 u xs ∧ R (Itl X.K u) H1) ∨ (SqT X.K H1 u xs ∧ R (Itt X.K u) H1))) := ⟨fun pins s σ H R I h => by
    refine thn (wE_pe.run pins s σ H _ I h) fun v s1 ⟨x, H1, I1, r1, u, xs, e1, q⟩ => ?_
    subst e1
    obtain rfl : v = Value.ref u := r1
    rcases q with ⟨hq, q⟩ | ⟨hq, q⟩
    · exact it_list I1 hq q
    · exact it_tup I1 hq q⟩
  refine wPI_of hPI ?_
  refine h _ _ _ _ q F V0 H σ _ W r sr ek fun V1 os1 H1 v w s1 r1 rv q => ?_
  split at q
  · obtain ⟨p, xs, rfl, h1, h2⟩ := rp_lst rv
    exact ⟨p, xs, rfl, .inl ⟨r1.vi.seq h1, c V1 os1 H1 _ _ _ s1 r1 (gi_list h1 h2) q⟩⟩
  · obtain ⟨p, xs, rfl, h1, h2⟩ := rp_tup rv
    exact ⟨p, xs, rfl, .inr ⟨same_sqT r1.vi h1, c V1 os1 H1 _ _ _ s1 r1 (gi_tup h1 h2) q⟩⟩
  · obtain ⟨n, ws, ho, q⟩ := q
    obtain rfl := rv.toRef
    obtain ⟨_, _, ho', h3, vs, rfl, h4⟩ := r1.own _ (List.mem_of_getElem? ho)
    exact ⟨_, vs, rfl, .inl ⟨SqL.of h3, c V1 os1 H1 _ _ _ s1 r1 gi_own q⟩⟩
  · exact q.elim
def iR1 (ta : TrE) : TrI := fun kx env os ki => ta kx env os fun w os1 => match w with
  | .int j => -(2 ^ 62) ≤ j ∧ j < 2 ^ 62 ∧ ki (rng 0 1 j.toNat) none os1
  | _ => False
theorem ci_range1 (hg : Gl X "range") (hm : X.mg "range" = none) (h : Cm X a ta) (hs : starEach [a] X.env = [(false, eval a X.env)]) : CmI X tge (.Call (.Name "range" p) [a] [] pos) (iR1 ta) := by
  intro kx env os ki q F V0 H σ R W r sr ek c
  refine wPI_of (pi_range1 hg hm (pa_cons wE_pe pa_nil hs) hs) ?_
  refine h _ _ _ _ q F V0 H σ _ W r sr ek fun V1 os1 H1 v w s1 r1 rv q => ?_
  split at q
  · cases rv
    exact ⟨_, rfl, q.1, q.2.1, c V1 os1 H1 _ _ _ s1 r1 (gi_rng 0 _) q.2.2⟩
  · exact q.elim
def iR2 (ta tb : TrE) : TrI := fun kx env os ki => ta kx env os fun w os1 => tb kx env os1 fun u os2 => match w with
  | .int i => (match u with
    | .int j => (-(2 ^ 62) ≤ i ∧ i < 2 ^ 62 ∧ -(2 ^ 62) ≤ j ∧ j < 2 ^ 62) ∧ ki (rng i 1 (j - i).toNat) none os2
    | _ => False)
  | _ => False
theorem ci_range2 (hg : Gl X "range") (hm : X.mg "range" = none) (h : Cm X a ta) (h2 : Cm X b tb) (hs : starEach [a, b] X.env = [(false, eval a X.env), (false, eval b X.env)]) (hs2 : starEach [b] X.env = [(false, eval b X.env)]) :
    CmI X tge (.Call (.Name "range" p) [a, b] [] pos) (iR2 ta tb) := by
  intro kx env os ki q F V0 H σ R W r sr ek c
  refine wPI_of (pi_range2 hg hm (pa_cons wE_pe (pa_cons wE_pe pa_nil hs2) (by rw [hs, hs2])) hs hs2) ?_
  refine h _ _ _ _ q F V0 H σ _ W r sr ek fun V1 os1 H1 v w s1 r1 rv q => ?_
  refine h2 _ _ _ _ q F V1 H1 σ _ W r1 (sr.mono s1) (ek.mono s1) fun V2 os2 H2 u y s2 r2 ru q => ?_
  split at q
  · split at q
    · cases rv; cases ru
      exact ⟨_, _, rfl, q.1, c V2 os2 H2 _ _ _ (s1.trans s2) r2 (gi_rng _ _) q.2⟩
    · exact q.elim
  · exact q.elim
/-- enumerate(a list) -/
def iEnum (te : TrE) : TrI := fun kx env os ki => te kx env os fun w os1 => match w with
  | .lst ds => ki (enumW 0 ds) none os1
  | _ => False
theorem ci_enum {elts : List Expr} {kk : Nat} {tpos : Pos} (hg : Gl X "enumerate") (hm : X.mg "enumerate" = none) (h : Cm X e te) (hs : starEach [e] X.env = [(false, eval e X.env)]) :
    CmI X (.Tuple elts kk tpos) (.Call (.Name "enumerate" p) [e] [] pos) (iEnum te) := by
  intro kx env os ki q F V0 H σ R W r sr ek c
  refine wPI_of (pi_enum hg hm (pa_cons wE_pe pa_nil hs) hs) ?_
  refine h _ _ _ _ q F V0 H σ _ W r sr ek fun V1 os1 H1 v w s1 r1 rv q => ?_
  split at q
  · obtain ⟨p, xs, rfl, h1, h2⟩ := rp_lst rv
    exact ⟨p, xs, rfl, r1.vi.seq h1, c V1 os1 H1 _ _ _ s1 r1 (gi_enum h1 h2) q⟩
  · exact q.elim
def iZip (ta tb : TrE) : TrI := fun kx env os ki => ta kx env os fun w os1 => tb kx env os1 fun u os2 => match w with
  | .lst ds => (match u with
    | .lst es => ki (zipW ds es) none os2
    | _ => False)
  | _ => False
theorem ci_zip {elts : List Expr} {kk : Nat} {tpos : Pos} (hg : Gl X "zip") (hm : X.mg "zip" = none) (h : Cm X a ta) (h2 : Cm X b tb)
    (hs : starEach [a, b] X.env = (false, eval a X.env) :: starEach [b] X.env) (hs2 : starEach [b] X.env = [(false, eval b X.env)]) (hpl : (backTo pos (starEach [b] X.env)).any (·.1) = false) :
    CmI X (.Tuple elts kk tpos) (.Call (.Name "zip" p) [a, b] [] pos) (iZip ta tb) := by
  intro kx env os ki q F V0 H σ R W r sr ek c
  refine wPI_of (pi_zip hg hm (pa_cons wE_pe (pa_cons wE_pe pa_nil hs2) hs) hs hpl) ?_
  refine h _ _ _ _ q F V0 H σ _ W r sr ek fun V1 os1 H1 v w s1 r1 rv q => ?_
  refine h2 _ _ _ _ q F V1 H1 σ _ W r1 (sr.mono s1) (ek.mono s1) fun V2 os2 H2 u y s2 r2 ru q => ?_
  split at q
  · split at q
    · obtain ⟨p, xs, rfl, h1, h2⟩ := rp_lst rv
      obtain ⟨p', ys, rfl, h3, h4⟩ := rp_lst ru
      exact ⟨p, p', xs, ys, rfl, (s2.trans r2.vi).seq h1, r2.vi.seq h3, c V2 os2 H2 _ _ _ (s1.trans s2) r2 (gi_zip (s2.seq h1) (RpA.mono s2 h2) h3 h4) q⟩
    · exact q.elim
  · exact q.elim
end

/-! ### less is told, in another order -/
def WkO (os os2 : Os) : Prop := ∃ or : Os, os.Perm (os2 ++ or)
theorem WkO.refl (os : Os) : WkO os os := ⟨[], by rw [List.append_nil]⟩
theorem WkO.perm {os os2 : Os} (h : os.Perm os2) : WkO os os2 := ⟨[], by rw [List.append_nil]; exact h⟩
theorem WkO.trans {a b c : Os} (h : WkO a b) (h2 : WkO b c) : WkO a c := by
  obtain ⟨r, h⟩ := h
  obtain ⟨r2, h2⟩ := h2
  exact ⟨r2 ++ r, h.trans (by rw [← List.append_assoc]; exact h2.append_right r)⟩
theorem WkO.drop1 {x : Addr × OO} {os : Os} : WkO (x :: os) os := ⟨[x], List.perm_append_comm (l₁ := [x]) (l₂ := os)⟩
theorem WkO.left {a b : Os} : WkO (a ++ b) a := ⟨b, .refl _⟩
theorem WkO.right {a b : Os} : WkO (a ++ b) b := ⟨a, List.perm_append_comm⟩
theorem WkO.cons {x : Addr × OO} {a b : Os} (h : WkO a b) : WkO (x :: a) (x :: b) := let ⟨r, h⟩ := h; ⟨r, h.cons x⟩
theorem WkO.append {a b c d : Os} (h : WkO a b) (h2 : WkO c d) : WkO (a ++ c) (b ++ d) := by
  obtain ⟨r, h⟩ := h
  obtain ⟨r2, h2⟩ := h2
  refine ⟨r ++ r2, (h.append h2).trans ?_⟩
  rw [List.append_assoc, List.append_assoc]
  refine List.Perm.append_left b ?_
  rw [← List.append_assoc, ← List.append_assoc]
  exact List.perm_append_comm.append_right r2
theorem WkO.sub {a b : Os} (h : b.Sublist a) : WkO a b := by
  induction h with
  | slnil => exact .refl _
  | cons x _ ih => exact WkO.trans .drop1 ih
  | cons_cons x _ ih => exact .cons ih
theorem Rel.wk {K : PySem.W.Frag} {F V0 H : Hp} {os os2 : Os} (r : Rel K F V0 os H) (h : WkO os os2) : Rel K F V0 os2 H := let ⟨_, h⟩ := h; (r.perm h).drop (List.sublist_append_left _ _)
def wkX (os : Os) (k : Os → Prop) : Prop := ∃ os2, WkO os os2 ∧ k os2
theorem wkX_id {os : Os} {k : Os → Prop} (h : k os) : wkX os k := ⟨os, .refl os, h⟩

/-! ### for -/
/-- what a loop's body ends in -/
abbrev KR.loop (R : KR) (again behind : DEnv → Os → Prop) : KR := { rt := R.rt, bk := behind, ct := again, ex := R.ex }
def forW (g : TrG) (body : TrS) (N : DEnv → Os → Prop) (R : KR) (gd : Gd) : List D → DEnv → Os → Prop
  | [], env, os => wkX os fun os => gK gd os (N env os)
  | w :: ws, env, os => wkX os fun os => gK gd os (g w env os fun env1 os1 => body (forW g body N R gd ws) (R.loop (forW g body N R gd ws) N) env1 os1)
/-- the same, not to be unfolded by a walk -/
@[irreducible] def forX (g : TrG) (body : TrS) (N : DEnv → Os → Prop) (R : KR) (gd : Gd) (ws : List D) (env : DEnv) (os : Os) : Prop := forW g body N R gd ws env os
theorem forX_eq {g : TrG} {body : TrS} {N : DEnv → Os → Prop} {R : KR} {gd : Gd} {ws : List D} {env : DEnv} {os : Os} : forX g body N R gd ws env os = forW g body N R gd ws env os := by unfold forX; rfl
def sFor (g : TrG) (ti : TrI) (body : TrS) : TrS := fun N R env os => ti (R.xk env) env os fun ws gd os1 => forX g body N R gd ws env os1
theorem c1_for {X : Cx} {tge iter : Expr} {body : List Stmt} {pos : Pos} {g : TrG} {ti : TrI} {tb : TrS} (hg : CmG X tge g) (h : CmI X tge iter ti) (hb : CmSs X body tb) (hc : X.calm = true) (hp : PassesOwn (model X.prog X.w) X.A X.env X.xe)
    (hs : ∀ x, foldedSetIterable iter X.env x = pure x) : CmS X (.For tge iter body [] pos) (sFor g ti tb) := by
  intro N R env os q F V0 H σ D W r sr ek
  refine wS1_of (ps_for hp hc wPI_pi wG_pg wSs_pss hs) ?_
  refine h _ _ _ _ q F V0 H σ _ W r sr (ek.xk sr) fun V1 os1 H1 J ws gd s1 r1 gi q => ?_
  rw [forX_eq] at q
  refine ⟨fun i m σ2 H2 => m = ws.length - i ∧ i ≤ ws.length ∧ ∃ (V2 : Hp) (os2 : Os) (env2 : DEnv), Same V1 V2 ∧ Rel X.K F V2 os2 H2 ∧ SR X.K V2 σ2 env2 ∧ forW g tb N R gd (ws.drop i) env2 os2,
    ⟨ws.length, rfl, Nat.zero_le _, V1, os1, env, Same.refl _, r1, sr.mono s1, q⟩, ?_⟩
  rintro i m σ2 H2 ⟨rfl, hi, V2, os0, env2, s2, r0, sr2, q2⟩
  by_cases hlt : i < ws.length
  · rw [List.drop_eq_getElem_cons hlt] at q2
    obtain ⟨os2, hwk, q2⟩ := q2
    have r2 := r0.wk hwk
    obtain ⟨hG, q2⟩ := gK_ok q2
    refine .inr ⟨gi.go i F V2 os2 H2 s2 r2 hG hlt, fun σ3 H3 => ∃ (V3 : Hp) (os3 : Os) (env3 : DEnv), Same V1 V3 ∧ Rel X.K F V3 os3 H3 ∧ SR X.K V3 σ3 env3 ∧ forW g tb N R gd (ws.drop (i + 1)) env3 os3,
      fun σ3 H3 q3 => ⟨ws.length - (i + 1), by omega, rfl, hlt, q3⟩, fun x H' y => ?_⟩
    obtain ⟨V3, s3, r3, rw3⟩ := gi.yld i F V2 os2 H2 x H' ws[i] s2 r2 hG y (List.getElem?_eq_getElem hlt)
    refine hg _ _ _ _ q2 F V3 H' σ2 x _ W r3 (sr2.mono s3) rw3 ek.tk fun V4 os4 H4 σ4 env4 s4 r4 sr4 q4 => ?_
    have s14 := (s2.trans s3).trans s4
    refine hb _ _ _ _ q4 F V4 H4 σ4 _ W r4 sr4 ⟨fun V5 os5 H5 σ5 env5 s5 r5 sr5 q5 => ⟨V5, os5, env5, s14.trans s5, r5, sr5, q5⟩, fun V5 os5 H5 v w s5 r5 rv q5 => ?_, fun V5 os5 H5 σ5 env5 s5 r5 sr5 q5 => ?_, fun V5 os5 H5 σ5 env5 s5 r5 sr5 q5 => ⟨V5, os5, env5, s14.trans s5, r5, sr5, q5⟩, ek.tk,
      fun V5 os5 H5 σ5 env5 cls d x s5 r5 sr5 ex q5 => ek.ex V5 os5 H5 σ5 env5 cls d x ((s1.trans s14).trans s5) r5 sr5 ex q5⟩
    · exact ek.rt V5 os5 H5 v w ((s1.trans s14).trans s5) r5 rv q5
    · exact ek.nx V5 os5 H5 σ5 env5 ((s1.trans s14).trans s5) r5 sr5 q5
  · have e : i = ws.length := by omega
    subst e
    rw [List.drop_length] at q2
    obtain ⟨os2, hwk, q2⟩ := q2
    have r2 := r0.wk hwk
    obtain ⟨hG, q2⟩ := gK_ok q2
    exact .inl ⟨gi.stop _ F V2 os2 H2 s2 r2 hG (Nat.le_refl _), ek.nx V2 os2 H2 σ2 env2 (s1.trans s2) r2 sr2 q2⟩
/-- by an invariant over the turn: whatever goes on behind the turn -/
theorem forX_inv {g : TrG} {body : TrS} {N : DEnv → Os → Prop} {R : KR} {gd : Gd} {ws : List D} {env : DEnv} {os : Os} (I : Nat → DEnv → Os → Prop) (h0 : I 0 env os)
    (hs : ∀ (i : Nat) (w : D) (env : DEnv) (os : Os) (M : DEnv → Os → Prop), ws[i]? = some w → I i env os → (∀ e o o2, WkO o o2 → I (i + 1) e o2 → M e o) → g w env os fun env1 os1 => body M (R.loop M N) env1 os1)
    (hd : ∀ env os, I ws.length env os → N env os) (hG : ∀ i env os, I i env os → gOk gd os) : forX g body N R gd ws env os := by
  rw [forX_eq]
  have gen : ∀ (m i : Nat) (env : DEnv) (os os2 : Os), m = ws.length - i → i ≤ ws.length → WkO os os2 → I i env os2 → forW g body N R gd (ws.drop i) env os := by
    intro m
    induction m with
    | zero =>
      intro i env os os2 hm hi hw h
      have e : i = ws.length := by omega
      subst e
      rw [List.drop_length]
      exact ⟨os2, hw, gK_mk (hG _ env os2 h) (hd env os2 h)⟩
    | succ m ih =>
      intro i env os os2 hm hi hw h
      have hlt : i < ws.length := by omega
      rw [List.drop_eq_getElem_cons hlt]
      exact ⟨os2, hw, gK_mk (hG i env os2 h) (hs i ws[i] env os2 _ (List.getElem?_eq_getElem hlt) h fun e o o2 hw2 z => ih (i + 1) e o o2 (by omega) hlt hw2 z)⟩
  exact gen _ 0 env os os rfl (Nat.zero_le _) (.refl _) h0

theorem forX_nil {g : TrG} {body : TrS} {N : DEnv → Os → Prop} {R : KR} {env : DEnv} {os : Os} (h : N env os) : forX g body N R none [] env os := by rw [forX_eq]; exact wkX_id h
theorem forX_cons {g : TrG} {body : TrS} {N : DEnv → Os → Prop} {R : KR} {w : D} {ws : List D} {env : DEnv} {os : Os} (h : g w env os fun env1 os1 => body (forX g body N R none ws) (R.loop (forX g body N R none ws) N) env1 os1) : forX g body N R none (w :: ws) env os := by
  have e : forX g body N R none ws = forW g body N R none ws := by funext a b; exact forX_eq
  rw [forX_eq]
  rw [e] at h
  exact wkX_id h

/-! ### while -/
def whileW (c : TrT) (body : TrS) (N : DEnv → Os → Prop) (R : KR) : Nat → DEnv → Os → Prop
  | 0, _, _ => False
  | n + 1, env, os => wkX os fun os => c (R.xk env) env os fun b os1 => (b = true → body (whileW c body N R n) (R.loop (whileW c body N R n) N) env os1) ∧ (b = false → N env os1)
@[irreducible] def whileX (c : TrT) (body : TrS) (N : DEnv → Os → Prop) (R : KR) (env : DEnv) (os : Os) : Prop := ∃ n, whileW c body N R n env os
def sWhile (c : TrT) (body : TrS) : TrS := fun N R env os => whileX c body N R env os
theorem c1_while {X : Cx} {c : Expr} {body : List Stmt} {pos : Pos} {tc : TrT} {tb : TrS} (hc : CmT X c tc) (hb : CmSs X body tb) (hp : PassesOwn (model X.prog X.w) X.A X.env X.xe) : CmS X (.While c body [] pos) (sWhile tc tb) := by
  intro N R env os q F V0 H σ D W r sr ek
  unfold sWhile whileX at q
  obtain ⟨n0, q⟩ := q
  refine wS1_of (ps_while hp wTt_pt wSs_pss) ?_
  refine ⟨fun m σ1 H1 => ∃ (V1 : Hp) (os1 : Os) (env1 : DEnv), Same V0 V1 ∧ Rel X.K F V1 os1 H1 ∧ SR X.K V1 σ1 env1 ∧ whileW tc tb N R m env1 os1, ⟨n0, V0, os, env, Same.refl _, r, sr, q⟩, ?_⟩
  rintro m σ1 H1 ⟨V1, os0, env1, s1, r0, sr1, q⟩
  cases m with
  | zero => exact q.elim
  | succ m =>
    obtain ⟨os1, hwk, q⟩ := q
    have r1 := r0.wk hwk
    refine hc _ _ _ _ q F V1 H1 σ1 _ W r1 sr1 ((ek.mono s1).xk sr1) fun V2 os2 H2 b s2 r2 q2 => ?_
    cases b with
    | false => exact iteF (ek.nx V2 os2 H2 σ1 env1 (s1.trans s2) r2 (sr1.mono s2) (q2.2 rfl))
    | true =>
      refine iteT ⟨fun σ3 H3 => ∃ m', m' < m + 1 ∧ ∃ (V3 : Hp) (os3 : Os) (env3 : DEnv), Same V0 V3 ∧ Rel X.K F V3 os3 H3 ∧ SR X.K V3 σ3 env3 ∧ whileW tc tb N R m' env3 os3, fun σ3 H3 z => z, ?_⟩
      have s12 := s1.trans s2
      refine hb _ _ _ _ (q2.1 rfl) F V2 H2 σ1 _ W r2 (sr1.mono s2) ⟨fun V3 os3 H3 σ3 env3 s3 r3 sr3 q3 => ⟨m, Nat.lt_succ_self _, V3, os3, env3, s12.trans s3, r3, sr3, q3⟩, fun V3 os3 H3 v w s3 r3 rv q3 => ek.rt V3 os3 H3 v w (s12.trans s3) r3 rv q3,
        fun V3 os3 H3 σ3 env3 s3 r3 sr3 q3 => ek.nx V3 os3 H3 σ3 env3 (s12.trans s3) r3 sr3 q3, fun V3 os3 H3 σ3 env3 s3 r3 sr3 q3 => ⟨m, Nat.lt_succ_self _, V3, os3, env3, s12.trans s3, r3, sr3, q3⟩, ek.tk,
        fun V3 os3 H3 σ3 env3 cls d x s3 r3 sr3 ex q3 => ek.ex V3 os3 H3 σ3 env3 cls d x (s12.trans s3) r3 sr3 ex q3⟩
/-- by an invariant with a measure -/
theorem whileX_inv {c : TrT} {body : TrS} {N : DEnv → Os → Prop} {R : KR} {env : DEnv} {os : Os} (I : Nat → DEnv → Os → Prop) (m : Nat) (h0 : I m env os)
    (hs : ∀ (m : Nat) (env : DEnv) (os : Os) (M : DEnv → Os → Prop), I m env os → (∀ m' e o o2, m' < m → WkO o o2 → I m' e o2 → M e o) →
      c (R.xk env) env os fun b os1 => (b = true → body M (R.loop M N) env os1) ∧ (b = false → N env os1)) : whileX c body N R env os := by
  unfold whileX
  have gen : ∀ (f m : Nat) (env : DEnv) (os os2 : Os), m < f → WkO os os2 → I m env os2 → whileW c body N R f env os := by
    intro f
    induction f with
    | zero => intro m env os os2 h; omega
    | succ f ih => intro m env os os2 h hw hI; exact ⟨os2, hw, hs m env os2 _ hI fun m' e o o2 hm hw2 hI' => ih m' e o o2 (by omega) hw2 hI'⟩
  exact ⟨m + 1, gen _ m env os os (Nat.lt_succ_self _) (.refl _) h0⟩
end EV

set_option Elab.async false
set_option linter.all false
set_option maxRecDepth 100000
/-! E5: name op= e, list comprehensions. -/
namespace EV
open PySem PySem.Spec PyProof.Rows L2
section
variable {X : Cx} {pos : Pos} {e : Expr} {te : TrE}
theorem c1_augAdd {i : Nat} {x : Str} {pos' : Pos} (hN : X.N.Nodup) (hi : X.N[i]? = some x) (hx : Loc X.env.scope x) (h : Cm X e te) (hf : X.fn x = true ∨ X.env.scope.names.lookup x = some .local) : CmS X (.AugAssign (.Name x pos') .Add e pos) (sAug i (oI0 fun i j => i + j) te) := by
  intro N R env os q F V0 H σ D W r sr ek
  refine wS1_of (ps_aug hN hi hx wE_pe ip_add hf) ?_
  unfold sAug at q
  split at q
  · rename_i w he
    obtain ⟨v, e1, r1⟩ := sr.2 i w (getE_eq _ _ _ he)
    refine ⟨v, e1, ?_⟩
    refine h _ _ _ _ q F V0 H σ _ W r sr (ek.xk sr) fun V1 os1 H1 u y s1 r2 ru q => ?_
    unfold oI0 at q
    split at q
    · cases r1; cases ru
      exact ⟨_, _, rfl, rfl, ek.nx V1 os1 H1 _ _ s1 r2 (sr_setE (sr.mono s1) rwI i) q⟩
    · exact q.elim
  · exact q.elim
theorem c1_augSub {i : Nat} {x : Str} {pos' : Pos} (hN : X.N.Nodup) (hi : X.N[i]? = some x) (hx : Loc X.env.scope x) (h : Cm X e te) (hf : X.fn x = true ∨ X.env.scope.names.lookup x = some .local) : CmS X (.AugAssign (.Name x pos') .Sub e pos) (sAug i (oI0 fun i j => i - j) te) := by
  intro N R env os q F V0 H σ D W r sr ek
  refine wS1_of (ps_aug hN hi hx wE_pe ip_sub hf) ?_
  unfold sAug at q
  split at q
  · rename_i w he
    obtain ⟨v, e1, r1⟩ := sr.2 i w (getE_eq _ _ _ he)
    refine ⟨v, e1, ?_⟩
    refine h _ _ _ _ q F V0 H σ _ W r sr (ek.xk sr) fun V1 os1 H1 u y s1 r2 ru q => ?_
    unfold oI0 at q
    split at q
    · cases r1; cases ru
      exact ⟨_, _, rfl, rfl, ek.nx V1 os1 H1 _ _ s1 r2 (sr_setE (sr.mono s1) rwI i) q⟩
    · exact q.elim
  · exact q.elim
end

/-! ### list comprehensions -/
@[irreducible] def wTs (X : Cx) (ifs : List Expr) : TT := fun σ H Q => ∀ (pins : List (Addr × Obj)) (s : Shared), Inv X pins σ H s →
    wpAny (model X.prog X.w) X.A (forIn ifs true fun c r => if r = true then do let ok ← isTrue c X.env (eval c X.env); pure (ForInStep.yield ok) else pure (ForInStep.yield r)) (TP X pins σ Q) X.xe s
def CmTs (X : Cx) (ifs : List Expr) (t : TrT) : Prop := ∀ env os k, t kx0 env os k → ∀ (F V0 H : Hp) (σ : L2.St) (Q : Bool → Hp → Prop), Rel X.K F V0 os H → SR X.K V0 σ env →
    (∀ (V1 : Hp) (os1 : Os) (H1 : Hp) (b : Bool), Same V0 V1 → Rel X.K F V1 os1 H1 → k b os1 → Q b H1) → wTs X ifs σ H Q
/-- no test -/
def tYes : TrT := fun _ _ os k => k true os
theorem wTs_pts {X : Cx} {ifs : List Expr} : PTs X ifs (wTs X ifs) := by unfold wTs; exact ⟨fun pins s _ _ _ I h => h pins s I⟩
theorem wTs_of {X : Cx} {ifs : List Expr} {t : TT} (h : PTs X ifs t) {σ : L2.St} {H : Hp} {Q : Bool → Hp → Prop} (q : t σ H Q) : wTs X ifs σ H Q := by unfold wTs; exact fun pins s I => h.run pins s σ H Q I q
theorem cts_nil {X : Cx} : CmTs X [] tYes := fun env os k q F V0 H σ Q r sr c => wTs_of pts_nil (c V0 os H true (Same.refl _) r q)
theorem cts_one {X : Cx} {e : Expr} {t : TrT} (h : CmT X e t) : CmTs X [e] t := fun env os k q F V0 H σ Q r sr c => wTs_of (pts_one wTt_pt) (h _ _ _ _ q F V0 H σ Q _ r sr XkOk.none c)
def wipeE (env : DEnv) : List Nat → DEnv
  | [] => env
  | v :: vs => setE (wipeE env vs) v none
theorem set_none {K : PySem.W.Frag} {V0 : Hp} {σ : L2.St} {env : DEnv} (h : SR K V0 σ env) (i : Nat) : SR K V0 (σ.set i none) (setE env i none) := by
  rw [setE_eq]
  refine ⟨by rw [List.length_set, List.length_set]; exact h.1, fun j u q => ?_⟩
  by_cases e : i = j
  · subst e
    have hi : i < env.length := by
      have := (List.getElem?_eq_some_iff.mp q).1
      rw [List.length_set] at this; exact this
    rw [List.getElem?_set_self hi] at q
    cases q
  · rw [List.getElem?_set_ne e] at q ⊢
    exact h.2 j u q
theorem sr_wipe {K : PySem.W.Frag} {V0 : Hp} {σ : L2.St} {env : DEnv} (h : SR K V0 σ env) : ∀ vs : List Nat, SR K V0 (L2.wipe σ vs) (wipeE env vs)
  | [] => h
  | v :: vs => set_none (sr_wipe h vs) v
theorem wipe_set {σ : L2.St} {i : Nat} {x : Option V} : ∀ {vs : List Nat}, i ∈ vs → L2.wipe (σ.set i x) vs = L2.wipe σ vs
  | [], h => by cases h
  | v :: vs, h => by
    unfold L2.wipe
    by_cases hv : i ∈ vs
    · rw [wipe_set hv]
    · have e : i = v := by
        rcases List.mem_cons.mp h with e | e
        · exact e
        · exact absurd e hv
      subst e
      have gen : ∀ us : List Nat, i ∉ us → L2.wipe (σ.set i x) us = (L2.wipe σ us).set i x := by
        intro us
        induction us with
        | nil => intro _; rfl
        | cons u us ih =>
          intro hu
          unfold L2.wipe
          rw [ih fun z => hu (List.mem_cons_of_mem _ z), List.set_comm]
          intro e; exact hu (by rw [e]; exact List.mem_cons_self)
      rw [gen vs hv, List.set_set]
theorem wipe_idem {σ : L2.St} {i : Nat} {x : Option V} {vs : List Nat} (h : i ∈ vs) : L2.wipe ((L2.wipe σ vs).set i x) vs = L2.wipe (L2.wipe σ vs) vs := wipe_set h
theorem wipe_wipe {σ : L2.St} (vs : List Nat) : L2.wipe (L2.wipe σ vs) vs = L2.wipe σ vs := by
  refine List.ext_getElem? fun j => ?_
  by_cases hj : j ∈ vs
  · have gen : ∀ (τ : L2.St) (us : List Nat), j ∈ us → (L2.wipe τ us)[j]? = τ[j]?.map fun _ => none := by
      intro τ us
      induction us with
      | nil => intro h; cases h
      | cons u us ih =>
        intro h
        unfold L2.wipe
        by_cases e : u = j
        · subst e
          rw [List.getElem?_set_self', ]
          by_cases hu : u ∈ us
          · rw [ih hu]; cases τ[u]? <;> rfl
          · rw [L2.wipe_out hu]; cases τ[u]? <;> rfl
        · rw [List.getElem?_set_ne e]
          refine ih ?_
          rcases List.mem_cons.mp h with z | z
          · exact absurd z.symm e
          · exact z
    rw [gen _ vs hj, gen _ vs hj]
    cases σ[j]? <;> rfl
  · rw [L2.wipe_out hj, L2.wipe_out hj]


/-- the block's context -/
abbrev Bk (X : Cx) (scope : Scope) (s : Shared) (H : Hp) (C : Addr) (cl : List (Str × Addr)) (fp : List Addr) : Cx := X.blk s H scope (compEnvC scope cl C X.env) fp
/-- how an item is bound -/
abbrev TrB := D → DEnv → (DEnv → Prop) → Prop
def BindOk (K : PySem.W.Frag) (vs : List Nat) (g : TG) (b : TrB) : Prop := ∀ (F V3 H' : Hp) (os : Os) (σ : L2.St) (env : DEnv) (x : V) (w : D) (kk : DEnv → Prop) (Q : L2.St → Hp → Prop),
  Rel K F V3 os H' → Rp K V3 x w → SR K V3 (L2.wipe σ vs) env → b w env kk → (∀ σ2 env2, SR K V3 σ2 env2 → L2.wipe σ2 vs = L2.wipe σ vs → kk env2 → Q σ2 H') → g x (L2.wipe σ vs) H' Q
def b1 (i : Nat) : TrB := fun w env k => k (setE env i (some w))
def b2 (i j : Nat) : TrB := fun w env k => match w with
  | .tup [d1, d2] => k (setE (setE env i (some d1)) j (some d2))
  | _ => False
theorem bind1 {K : PySem.W.Frag} {vs : List Nat} {i : Nat} (hm : i ∈ vs) : BindOk K vs (L2.gName i) (b1 i) :=
  fun F V3 H' os σ env x w kk Q r rx sr q c => c _ _ (sr_setE sr rx i) (by rw [wipe_set hm, wipe_wipe]) q
theorem bind2 {K : PySem.W.Frag} {vs : List Nat} {i j : Nat} (hm : i ∈ vs) (hm2 : j ∈ vs) : BindOk K vs (L2.gTup K 2 (L2.gCons (L2.gName i) (L2.gCons (L2.gName j) L2.gNil))) (b2 i j) := by
  intro F V3 H' os σ env x w kk Q r rx sr q c
  unfold b2 at q
  split at q
  · obtain ⟨p, xs, rfl, h1, h2⟩ := rp_tup rx
    obtain ⟨v1, v2, rfl, w1, w2⟩ := h2.two
    exact ⟨p, [v1, v2], rfl, same_sqT r.vi h1, rfl, v1, [v2], rfl, v2, [], rfl, rfl, c _ _ (sr_setE (sr_setE sr w1 i) w2 j) (by rw [wipe_set hm2, wipe_set hm, wipe_wipe]) q⟩
  · exact q.elim
/-- the turns over ws, acc made so far -/
def lcW (b : TrB) (t : TrT) (te : TrE) (env : DEnv) (k : List D → Os → Prop) (gd : Gd) : List D → List D → Os → Prop
  | [], acc, os => wkX os fun os => gK gd os (k acc os)
  | w :: ws, acc, os => wkX os fun os => gK gd os (b w env fun env1 => t kx0 env1 os fun bo os1 => (bo = true → te kx0 env1 os1 fun y os2 => lcW b t te env k gd ws (acc ++ [y]) os2) ∧ (bo = false → lcW b t te env k gd ws acc os1))
def lcK (own : Bool) (k : D → Os → Prop) : List D → Os → Prop := fun ds os => if own then ∀ p, k (.ref p) ((p, .lst ds) :: os) else k (.lst ds) os
theorem tlc_of {X : Cx} {kx : Kx} {env : DEnv} {os : Os} {k : D → Os → Prop} {own0 : Bool} {elt iter tg : Expr} {ifs : List Expr} {scope : Scope} {vs : List Nat} {g : TG} {bn : TrB} {tt : TrT} {te : TrE} {ti : TrI}
    (hb : BindOk X.K vs g bn) (hi : CmI X tg iter ti) (ht : ∀ s H C cl fp, CmTs (Bk X scope s H C cl fp) ifs tt) (he : ∀ s H C cl fp, Cm (Bk X scope s H C cl fp) elt te)
    (h : ti kx env os fun ws gd os1 => ws.length ≤ sizeLine ∧ lcW bn tt te (wipeE env vs) (lcK own0 k) gd ws [] os1) {F V0 H : Hp} {σ : L2.St} {Q : VK} {W : WX} (r : Rel X.K F V0 os H) (sr : SR X.K V0 σ env) (ek : XkOk X F V0 σ kx W)
    (c : ∀ (V1 : Hp) (os1 : Os) (H1 : Hp) (v : V) (w : D), Same V0 V1 → Rel X.K F V1 os1 H1 → Rp X.K V1 v w → k w os1 → Q v H1) :
    tLc (wPI X tg iter) g (fun σ H Q => ∀ s0 H0 C cl fp, wTs (Bk X scope s0 H0 C cl fp) ifs σ H Q) (fun σ H Q => ∀ s0 H0 C cl fp, wE (Bk X scope s0 H0 C cl fp) elt σ H Q) vs σ H Q := by
  refine hi _ _ _ _ h F V0 H σ _ W r sr ek fun V1 os1 H1 J ws gd s1 r1 gi ⟨hz, q⟩ => ?_
  intro L hL
  have hFL := r1.fr.free hL
  have hVL := r1.vi.free hL
  -- the list in the frame
  have put : ∀ (acc : List V) (V2 : Hp) (os2 : Os) (H2 : Hp), Rel X.K F V2 os2 H2 → H2 L = none → Rel X.K (upd F L (.lst acc)) V2 os2 (upd H2 L (.lst acc)) := by
    intro acc V2 os2 H2 r2 hn
    have f2 := r2.fr.free hn
    have v2 := r2.vi.free hn
    refine ⟨fun a o e => ?_, fun a o e => ?_, fun a o e => ?_, fun p hp => ?_, r2.nd⟩
    · by_cases ha : a = L
      · subst ha; rw [upd_same] at e ⊢; exact e
      · rw [upd_ne ha] at e ⊢; exact r2.fr a o e
    · rw [upd_ne (ne_of_none e v2)]
      exact r2.vi a o e
    · by_cases ha : a = L
      · subst ha; exact v2
      · rw [upd_ne ha] at e; exact r2.fv a o e
    · obtain ⟨h1, h2, ho, h3, h4⟩ := r2.own p hp
      have ne := ne_of_none h3 hn
      exact ⟨by rw [upd_ne ne]; exact h1, h2, ho, by rw [upd_ne ne]; exact h3, h4⟩
  have grow : ∀ (acc acc' : List V) (V2 : Hp) (os2 : Os) (H2 : Hp), Rel X.K (upd F L (.lst acc)) V2 os2 H2 → Rel X.K (upd F L (.lst acc')) V2 os2 (upd H2 L (.lst acc')) := by
    intro acc acc' V2 os2 H2 r2
    have v2 : V2 L = none := r2.fv L _ upd_same
    refine ⟨fun a o e => ?_, fun a o e => ?_, fun a o e => ?_, fun p hp => ?_, r2.nd⟩
    · by_cases ha : a = L
      · subst ha; rw [upd_same] at e ⊢; exact e
      · rw [upd_ne ha] at e ⊢; exact r2.fr a o (by rw [upd_ne ha]; exact e)
    · rw [upd_ne (ne_of_none e v2)]
      exact r2.vi a o e
    · by_cases ha : a = L
      · subst ha; exact v2
      · rw [upd_ne ha] at e; exact r2.fv a o (by rw [upd_ne ha]; exact e)
    · obtain ⟨h1, h2, ho, h3, h4⟩ := r2.own p hp
      have ne : p.1 ≠ L := fun z => by rw [z, upd_same] at h1; cases h1
      exact ⟨by rw [upd_ne ne] at h1 ⊢; exact h1, h2, ho, by rw [upd_ne ne]; exact h3, h4⟩
  have done : ∀ (acc : List V) (V2 : Hp) (os2 : Os) (H2 : Hp), Rel X.K (upd F L (.lst acc)) V2 os2 H2 → Same V2 (upd V2 L (.lst acc)) ∧ Rel X.K F (upd V2 L (.lst acc)) os2 H2 := by
    intro acc V2 os2 H2 r2
    have v2 : V2 L = none := r2.fv L _ upd_same
    have sv := same_upd (o := .lst acc) v2
    refine ⟨sv, ⟨fun a o e => r2.fr a o (by rw [upd_ne (ne_of_none e hFL)]; exact e), fun a o e => ?_, fun a o e => ?_, fun p hp => ?_, r2.nd⟩⟩
    · by_cases ha : a = L
      · subst ha; rw [upd_same] at e; exact r2.fr a o (by rw [upd_same]; exact e)
      · rw [upd_ne ha] at e; exact r2.vi a o e
    · have ne := ne_of_none e hFL
      rw [upd_ne ne]
      exact r2.fv a o (by rw [upd_ne ne]; exact e)
    · obtain ⟨h1, h2, ho, h3, h4⟩ := r2.own p hp
      have ne : p.1 ≠ L := fun z => by rw [z, upd_same] at h1; cases h1
      exact ⟨by rw [upd_ne ne] at h1; exact h1, by rw [upd_ne ne]; exact h2, ho, h3, h4.mono sv⟩
  refine ⟨fun j m H2 => m = ws.length - j ∧ j ≤ ws.length ∧ ∃ (V2 : Hp) (os2 : Os) (av : List V) (ad : List D), Same V1 V2 ∧ Rel X.K (upd F L (.lst av)) V2 os2 H2 ∧ RpA X.K V2 av ad ∧ ad.length ≤ j ∧ lcW bn tt te (wipeE env vs) (lcK own0 k) gd (ws.drop j) ad os2,
    ⟨ws.length, rfl, Nat.zero_le _, V1, os1, [], [], Same.refl _, put [] V1 os1 H1 r1 hL, .nil, Nat.le_refl _, q⟩, ?_⟩
  rintro j m H2 ⟨rfl, hj, V2, os0, av, ad, s2, r0, ra2, hl2, q2⟩
  by_cases hlt : j < ws.length
  · rw [List.drop_eq_getElem_cons hlt] at q2
    obtain ⟨os2, hwk, q2⟩ := q2
    have r2 := r0.wk hwk
    obtain ⟨hG, q2⟩ := gK_ok q2
    refine .inr ⟨gi.go j (upd F L (.lst av)) V2 os2 H2 s2 r2 hG hlt, fun H3 => ∃ (V3 : Hp) (os3 : Os) (av3 : List V) (ad3 : List D), Same V1 V3 ∧ Rel X.K (upd F L (.lst av3)) V3 os3 H3 ∧ RpA X.K V3 av3 ad3 ∧ ad3.length ≤ j + 1 ∧ lcW bn tt te (wipeE env vs) (lcK own0 k) gd (ws.drop (j + 1)) ad3 os3,
      fun H3 q3 => ⟨ws.length - (j + 1), by omega, rfl, hlt, q3⟩, fun x' H' y => ?_⟩
    obtain ⟨V3, s3, r3, rw3⟩ := gi.yld j (upd F L (.lst av)) V2 os2 H2 x' H' ws[j] s2 r2 hG y (List.getElem?_eq_getElem hlt)
    refine hb (upd F L (.lst av)) V3 H' os2 σ _ x' ws[j] _ _ r3 rw3 ((sr_wipe (sr.mono s1) _).mono (s2.trans s3)) q2 fun σ2 env2 sr3 hw q2 => ⟨hw, fun s0 H0 C cl fp => ?_⟩
    refine ht s0 H0 C cl fp _ _ _ q2 (upd F L (.lst av)) V3 H' _ _ r3 sr3 fun V4 os4 H4 b s4 r4 q4 => ?_
    cases b with
    | false => exact iteF ⟨V4, os4, av, ad, (s2.trans s3).trans s4, r4, RpA.mono (s3.trans s4) ra2, Nat.le_succ_of_le hl2, q4.2 rfl⟩
    | true =>
      refine iteT fun s0 H0 C cl fp => ?_
      refine he s0 H0 C cl fp _ _ _ _ (q4.1 rfl) (upd F L (.lst av)) V4 H4 _ _ _ r4 (sr3.mono s4) XkOk.none fun V5 os5 H5 y5 w5 s5 r5 rw5 q5 => ?_
      have s35 := (s3.trans s4).trans s5
      have ra5 : RpA X.K V5 (av ++ [y5]) (ad ++ [w5]) := (RpA.mono s35 ra2).append (.cons rw5 .nil)
      refine ⟨av, r5.fr L _ upd_same, ?_, V5, os5, av ++ [y5], ad ++ [w5], s2.trans s35, grow av _ V5 os5 H5 r5, ra5, by rw [List.length_append, List.length_singleton]; omega, q5⟩
      rw [ra2.length]
      omega
  · have e : j = ws.length := by omega
    subst e
    rw [List.drop_length] at q2
    obtain ⟨os2, hwk, q2⟩ := q2
    have r2 := r0.wk hwk
    obtain ⟨hG, q2⟩ := gK_ok q2
    refine .inl ⟨gi.stop _ (upd F L (.lst av)) V2 os2 H2 s2 r2 hG (Nat.le_refl _), ?_⟩
    have q2 : lcK own0 k ad os2 := q2
    unfold lcK at q2
    split at q2
    · have v2 : V2 L = none := r2.fv L _ upd_same
      refine c V2 ((L, .lst ad) :: os2) H2 (.ref L) (.ref L) (s1.trans s2) ⟨fun a o e => r2.fr a o (by rw [upd_ne (ne_of_none e hFL)]; exact e), r2.vi, fun a o e => ?_, fun p hp => ?_, ?_⟩ (.ref L) (q2 L)
      · exact r2.fv a o (by rw [upd_ne (ne_of_none e hFL)]; exact e)
      · rcases List.mem_cons.mp hp with e | hp
        · subst e
          exact ⟨hFL, v2, _, r2.fr L _ upd_same, av, rfl, ra2⟩
        · obtain ⟨h1, h2, ho, h3, h4⟩ := r2.own p hp
          have ne : p.1 ≠ L := fun z => by rw [z, upd_same] at h1; cases h1
          exact ⟨by rw [upd_ne ne] at h1; exact h1, h2, ho, h3, h4⟩
      · rw [List.map_cons, List.nodup_cons]
        refine ⟨fun hm => ?_, r2.nd⟩
        obtain ⟨q, hq, e⟩ := List.mem_map.mp hm
        obtain ⟨h1, _⟩ := r2.own q hq
        have e' : q.1 = L := e
        rw [e', upd_same] at h1
        cases h1
    · obtain ⟨sv, r3⟩ := done av V2 os2 H2 r2
      exact c _ os2 H2 (.ref L) (.lst ad) ((s1.trans s2).trans sv) r3 (.lst (.inl (.inl upd_same)) (RpA.mono sv ra2)) q2
@[irreducible] def lcX (b : TrB) (t : TrT) (te : TrE) (env : DEnv) (k : List D → Os → Prop) (gd : Gd) (ws : List D) (os : Os) : Prop := lcW b t te env k gd ws [] os
theorem lcX_eq {b : TrB} {t : TrT} {te : TrE} {env : DEnv} {k : List D → Os → Prop} {gd : Gd} {ws : List D} {os : Os} : lcX b t te env k gd ws os = lcW b t te env k gd ws [] os := by unfold lcX; rfl
def eLc (own0 : Bool) (vs : List Nat) (b : TrB) (ti : TrI) (tt : TrT) (te : TrE) : TrE := fun kx env os k => ti kx env os fun ws gd os1 => ws.length ≤ sizeLine ∧ lcX b tt te (wipeE env vs) (lcK own0 k) gd ws os1
section
variable {X : Cx} {own0 : Bool} {elt iter tge : Expr} {ifs : List Expr} {scope : Scope} {own : List (Str × Nat)} {pos : Pos} {g : TG} {bn : TrB} {tt : TrT} {te : TrE} {ti : TrI}
theorem cm_lc (hc : X.calm = true) (hN : X.N.Nodup) (ok : BlkOk X.N X.env.scope scope own) (hb : BindOk X.K (own.map (·.2)) g bn)
    (hg : ∀ s H C cl fp, PG (Bk X scope s H C cl fp) tge g) (hi : CmI X tge iter ti) (ht : ∀ s H C cl fp, CmTs (Bk X scope s H C cl fp) ifs tt) (he : ∀ s H C cl fp, Cm (Bk X scope s H C cl fp) elt te)
    (hs : ∀ x, foldedSetIterable iter X.env x = pure x) : Cm X (.ListComp elt [⟨tge, iter, ifs, 0⟩] scope pos) (eLc own0 (own.map (·.2)) bn ti tt te) := by
  intro kx env os k h F V0 H σ Q W r sr ek c
  refine wE_of (pe_lc (X := X) (own := own) (wi := wPI X tge iter) (g := g) (tt := fun σ H Q => ∀ s0 H0 C cl fp, wTs (Bk X scope s0 H0 C cl fp) ifs σ H Q) (te := fun σ H Q => ∀ s0 H0 C cl fp, wE (Bk X scope s0 H0 C cl fp) elt σ H Q) hc hN wPI_pi ok
    hg (fun s0 H0 C cl fp => ⟨fun pins s σ H Q I q => wTs_pts.run pins s σ H Q I (q s0 H0 C cl fp)⟩) (fun s0 H0 C cl fp => ⟨fun pins s σ H Q I q => wE_pe.run pins s σ H Q I (q s0 H0 C cl fp)⟩) hs) ?_
  unfold eLc at h
  simp only [lcX_eq] at h
  exact tlc_of hb hi ht he h r sr ek c
/-- name = [..] on one line -/
theorem c1_setLc {iy : Nat} {y : Str} {py spos : Pos} (hc : X.calm = true) (hN : X.N.Nodup) (ok : BlkOk X.N X.env.scope scope own) (hb : BindOk X.K (own.map (·.2)) g bn)
    (hg : ∀ s H C cl fp, PG (Bk X scope s H C cl fp) tge g) (hi : CmI X tge iter ti) (ht : ∀ s H C cl fp, CmTs (Bk X scope s H C cl fp) ifs tt) (he : ∀ s H C cl fp, Cm (Bk X scope s H C cl fp) elt te)
    (hy : X.N[iy]? = some y) (hyl : X.env.scope.names.lookup y = some .local) (hsw : swapsWith (.ListComp elt [⟨tge, iter, ifs, 0⟩] scope pos) (some (.Name y py)) spos.line X.env = pure true)
    (hs : ∀ x, foldedSetIterable iter X.env x = pure x) : CmS X (.Assign [.Name y py] (.ListComp elt [⟨tge, iter, ifs, 0⟩] scope pos) spos) (sSet iy (eLc own0 (own.map (·.2)) bn ti tt te)) := by
  intro N R env os h F V0 H σ D W r sr ek
  refine wS1_of (ps_setLc (X := X) (i := iy) (own := own) (wi := wPI X tge iter) (g := g) (tt := fun σ H Q => ∀ s0 H0 C cl fp, wTs (Bk X scope s0 H0 C cl fp) ifs σ H Q) (te := fun σ H Q => ∀ s0 H0 C cl fp, wE (Bk X scope s0 H0 C cl fp) elt σ H Q) hc hN hy hyl hsw wPI_pi ok
    hg (fun s0 H0 C cl fp => ⟨fun pins s σ H Q I q => wTs_pts.run pins s σ H Q I (q s0 H0 C cl fp)⟩) (fun s0 H0 C cl fp => ⟨fun pins s σ H Q I q => wE_pe.run pins s σ H Q I (q s0 H0 C cl fp)⟩) hs) ?_
  unfold sSet eLc at h
  simp only [lcX_eq] at h
  refine tlc_of (k := fun w os1 => N (setE env iy (some w)) os1) hb hi ht he h r sr (ek.xk sr) fun V1 os1 H1 v w s1 r1 rv q => ?_
  exact ek.nx V1 os1 H1 _ _ s1 r1 (sr_setE (sr.mono s1) rv iy) q
end
/-! ### reading -/
/-- an item is bound and made by a plain function, nothing owned changes -/
theorem lcW_map {b : TrB} {te : TrE} {env : DEnv} {k : List D → Os → Prop} {gd : Gd} {os : Os} (f : D → D) (hG : gOk gd os) (hm : ∀ w {p q : DEnv → Prop}, (∀ e, p e → q e) → b w env p → b w env q) : ∀ {ws acc : List D}, (∀ w ∈ ws, ∀ kk : D → Os → Prop, kk (f w) os → b w env fun env1 => te kx0 env1 os kk) → k (acc ++ ws.map f) os →
    lcW b tYes te env k gd ws acc os
  | [], acc, _, h => by rw [List.map_nil, List.append_nil] at h; exact wkX_id (gK_mk hG h)
  | w :: ws, acc, hw, h => by
    have ih := lcW_map (b := b) (te := te) (env := env) (k := k) (gd := gd) (os := os) f hG hm (ws := ws) (acc := acc ++ [f w]) (fun w h => hw w (List.mem_cons_of_mem _ h)) (by rw [List.append_assoc]; exact h)
    exact wkX_id <| gK_mk hG (hm w (fun e z => ⟨fun _ => z, fun z => nomatch z⟩) (hw w List.mem_cons_self (fun y os2 => lcW b tYes te env k gd ws (acc ++ [y]) os2) ih))
/-- tested by a plain function, too -/
theorem lcW_filter {b : TrB} {t : TrT} {te : TrE} {env : DEnv} {k : List D → Os → Prop} {gd : Gd} {os : Os} (p : D → Bool) (f : D → D) (hG : gOk gd os) : ∀ {ws acc : List D},
    (∀ w ∈ ws, ∀ (kt : D → Os → Prop) (kf : Os → Prop), (p w = true → kt (f w) os) → (p w = false → kf os) → b w env fun env1 => t kx0 env1 os fun bo os1 => (bo = true → te kx0 env1 os1 kt) ∧ (bo = false → kf os1)) → k (acc ++ (ws.filter p).map f) os →
    lcW b t te env k gd ws acc os
  | [], acc, _, h => by
    rw [List.filter_nil, List.map_nil, List.append_nil] at h
    exact wkX_id (gK_mk hG h)
  | w :: ws, acc, hw, h => by
    refine wkX_id <| gK_mk hG (hw w List.mem_cons_self (fun y os2 => lcW b t te env k gd ws (acc ++ [y]) os2) (fun os1 => lcW b t te env k gd ws acc os1) (fun hp => ?_) (fun hp => ?_))
    · refine lcW_filter p f hG (fun w h => hw w (List.mem_cons_of_mem _ h)) ?_
      rw [List.filter_cons_of_pos hp] at h
      rw [List.append_assoc]
      exact h
    · refine lcW_filter p f hG (fun w h => hw w (List.mem_cons_of_mem _ h)) ?_
      rw [List.filter_cons_of_neg (by rw [hp]; decide)] at h
      exact h
theorem b1_mono {i : Nat} {env : DEnv} (w : D) {p q : DEnv → Prop} (h : ∀ e, p e → q e) (z : b1 i w env p) : b1 i w env q := h _ z
/-- by an invariant over the turn -/
theorem lcW_inv {b : TrB} {t : TrT} {te : TrE} {env : DEnv} {k : List D → Os → Prop} {gd : Gd} {ws : List D} {os : Os} (I : Nat → List D → Os → Prop) (h0 : I 0 [] os)
    (hs : ∀ (j : Nat) (w : D) (acc : List D) (os : Os) (N : List D → Os → Prop), ws[j]? = some w → I j acc os → (∀ a o o2, WkO o o2 → I (j + 1) a o2 → N a o) →
      b w env fun env1 => t kx0 env1 os fun bo os1 => (bo = true → te kx0 env1 os1 fun y os2 => N (acc ++ [y]) os2) ∧ (bo = false → N acc os1))
    (hd : ∀ acc os, I ws.length acc os → k acc os) (hG : ∀ j acc os, I j acc os → gOk gd os) : lcW b t te env k gd ws [] os := by
  have gen : ∀ (m j : Nat) (acc : List D) (os os2 : Os), m = ws.length - j → j ≤ ws.length → WkO os os2 → I j acc os2 → lcW b t te env k gd (ws.drop j) acc os := by
    intro m
    induction m with
    | zero =>
      intro j acc os os2 hm hj hw h
      have e : j = ws.length := by omega
      subst e
      rw [List.drop_length]
      exact ⟨os2, hw, gK_mk (hG _ acc os2 h) (hd acc os2 h)⟩
    | succ m ih =>
      intro j acc os os2 hm hj hw h
      have hlt : j < ws.length := by omega
      rw [List.drop_eq_getElem_cons hlt]
      exact ⟨os2, hw, gK_mk (hG j acc os2 h) (hs j ws[j] acc os2 (fun a o => lcW b t te env k gd (ws.drop (j + 1)) a o) (List.getElem?_eq_getElem hlt) h fun a o o2 hw2 z => ih (j + 1) a o o2 (by omega) hlt hw2 z)⟩
  exact gen _ 0 [] os os rfl (Nat.zero_le _) (.refl _) h0
theorem lcX_map {b : TrB} {te : TrE} {env : DEnv} {k : List D → Os → Prop} {gd : Gd} {ws : List D} {os : Os} (f : D → D) (hG : gOk gd os) (hm : ∀ w {p q : DEnv → Prop}, (∀ e, p e → q e) → b w env p → b w env q) (hw : ∀ w ∈ ws, ∀ kk : D → Os → Prop, kk (f w) os → b w env fun env1 => te kx0 env1 os kk)
    (h : k (ws.map f) os) : lcX b tYes te env k gd ws os := by rw [lcX_eq]; exact lcW_map f hG hm hw h
theorem lcX_filter {b : TrB} {t : TrT} {te : TrE} {env : DEnv} {k : List D → Os → Prop} {gd : Gd} {ws : List D} {os : Os} (p : D → Bool) (f : D → D) (hG : gOk gd os)
    (hw : ∀ w ∈ ws, ∀ (kt : D → Os → Prop) (kf : Os → Prop), (p w = true → kt (f w) os) → (p w = false → kf os) → b w env fun env1 => t kx0 env1 os fun bo os1 => (bo = true → te kx0 env1 os1 kt) ∧ (bo = false → kf os1))
    (h : k ((ws.filter p).map f) os) : lcX b t te env k gd ws os := by rw [lcX_eq]; exact lcW_filter p f hG hw h
theorem lcX_inv {b : TrB} {t : TrT} {te : TrE} {env : DEnv} {k : List D → Os → Prop} {gd : Gd} {ws : List D} {os : Os} (I : Nat → List D → Os → Prop) (h0 : I 0 [] os)
    (hs : ∀ (j : Nat) (w : D) (acc : List D) (os : Os) (N : List D → Os → Prop), ws[j]? = some w → I j acc os → (∀ a o o2, WkO o o2 → I (j + 1) a o2 → N a o) →
      b w env fun env1 => t kx0 env1 os fun bo os1 => (bo = true → te kx0 env1 os1 fun y os2 => N (acc ++ [y]) os2) ∧ (bo = false → N acc os1))
    (hd : ∀ acc os, I ws.length acc os → k acc os) (hG : ∀ j acc os, I j acc os → gOk gd os) : lcX b t te env k gd ws os := by rw [lcX_eq]; exact lcW_inv I h0 hs hd hG
end EV

set_option Elab.async false
set_option linter.all false
set_option maxRecDepth 100000
/-! E6: promises of defs, calls, instances. -/
namespace EV
open PySem PySem.Spec PyProof.Rows L2

/-! ### what a def does -/
abbrev FT := List D → Os → (D → Os → Prop) → Kx → Prop
def spX (K : PySem.W.Frag) (n : Nat) (T : FT) : Sp := fun vs H Q E => vs.length = n ∧ ∃ (F V0 : Hp) (os : Os) (ws : List D) (k0 : D → Os → Prop) (x0 : Kx), Rel K F V0 os H ∧ RpA K V0 vs ws ∧ T ws os k0 x0 ∧
  (∀ (V1 : Hp) (os1 : Os) (H1 : Hp) (v : V) (w : D), Same V0 V1 → Rel K F V1 os1 H1 → Rp K V1 v w → k0 w os1 → Q v H1) ∧
  (∀ (V1 : Hp) (os1 : Os) (H1 : Hp) (cls : Value) (d : Option Addr) (x : Exn), Same V0 V1 → Rel K F V1 os1 H1 → ExnR K V1 cls d x → x0 x os1 → E cls d H1)
def startE : Nat → List D → DEnv
  | 0, _ => []
  | n + 1, [] => none :: startE n []
  | n + 1, w :: ws => some w :: startE n ws
/-- what is not wanted any more goes -/
@[irreducible] def dropX (w : D) (os : Os) (k : D → Os → Prop) : Prop := ∃ os2 : Os, WkO os os2 ∧ k w os2
@[irreducible] def dropE (x : Exn) (os : Os) (k : Kx) : Prop := ∃ os2 : Os, WkO os os2 ∧ k x os2
theorem dropX_wk {w : D} {os os2 : Os} {k : D → Os → Prop} (s : WkO os os2) (h : k w os2) : dropX w os k := by unfold dropX; exact ⟨os2, s, h⟩
theorem dropX_id {w : D} {os : Os} {k : D → Os → Prop} (h : k w os) : dropX w os k := dropX_wk (.refl _) h
theorem dropE_wk {x : Exn} {os os2 : Os} {k : Kx} (s : WkO os os2) (h : k x os2) : dropE x os k := by unfold dropE; exact ⟨os2, s, h⟩
theorem dropE_id {x : Exn} {os : Os} {k : Kx} (h : k x os) : dropE x os k := dropE_wk (.refl _) h
theorem dropX_of {w : D} {os : Os} {k : D → Os → Prop} (h : dropX w os k) : ∃ os2 : Os, WkO os os2 ∧ k w os2 := by unfold dropX at h; exact h
theorem dropE_of {x : Exn} {os : Os} {k : Kx} (h : dropE x os k) : ∃ os2 : Os, WkO os os2 ∧ k x os2 := by unfold dropE at h; exact h
def fnT (m : Nat) (body : TrS) : FT := fun ws os k kx => body (fun _ os1 => dropX .non os1 k) { rt := fun w os1 => dropX w os1 k, ex := fun x _ os1 => dropE x os1 kx } (startE m ws) os
theorem startE_len : ∀ (m : Nat) (ws : List D), ws.length ≤ m → (startE m ws).length = m
  | 0, _, _ => rfl
  | m + 1, [], _ => congrArg (· + 1) (startE_len m [] (Nat.zero_le _))
  | m + 1, _ :: ws, h => congrArg (· + 1) (startE_len m ws (by simpa using h))
theorem startE_get : ∀ (m : Nat) (ws : List D) (i : Nat) (w : D), (startE m ws)[i]? = some (some w) → ws[i]? = some w
  | 0, _, _, _, h => by simp [startE] at h
  | m + 1, [], 0, w, h => by simp [startE] at h
  | m + 1, [], i + 1, w, h => by
    rw [startE, List.getElem?_cons_succ] at h
    have := startE_get m [] i w h
    simp at this
  | m + 1, u :: ws, 0, w, h => by
    rw [startE, List.getElem?_cons_zero] at h
    rw [List.getElem?_cons_zero]
    exact Option.some.inj h
  | m + 1, u :: ws, i + 1, w, h => by
    rw [startE, List.getElem?_cons_succ] at h
    rw [List.getElem?_cons_succ]
    exact startE_get m ws i w h
theorem sr_startE {K : PySem.W.Frag} {V0 : Hp} {N : List Str} {vs : List V} {ws : List D} (r : RpA K V0 vs ws) (hl : ws.length ≤ N.length) : SR K V0 (L2.start N vs) (startE N.length ws) := by
  have hv := r.length
  refine ⟨by unfold L2.start; rw [startE_len _ _ hl]; simp; omega, fun i w e => ?_⟩
  have e1 := startE_get _ _ _ _ e
  obtain ⟨v, ev, rv⟩ := r.get e1
  refine ⟨v, ?_, rv⟩
  have hi : i < vs.length := (List.getElem?_eq_some_iff.mp ev).1
  unfold L2.start
  rw [List.getElem?_append_left (by simpa using hi), List.getElem?_map, ev]
  rfl
section
variable {P : Program} {w : World} {K : PySem.W.Frag} {mg : Str → Option Value} {base : Heap}
/-- the rule for a def -/
theorem okX {x qual : Str} {st : Stmt} {f : Addr} {fd : FuncData} {N ps : List Str} {k n m : Nat} {tb : TrS} (F : Fun K x qual st f fd) (sc : FnScope N ps (defScope st)) (hn : ps.length = n) (hm : N.length = m) (hnm : n ≤ m)
    (h : ∀ (cdv : Value) (A : Around) (outer : List Env) (s : Shared) (H : Hp) (E : XK), Room k (A.deeper (envOfC qual (defScope st) s.heap.objs.size f cdv)) →
      CmSs (cxOf (L2.CX P w) P w K mg base N qual (defScope st) f cdv A outer s H E) (defBody st) tb) : FnOk P w K mg base (L2.CX P w) (k + 1) f fd ps (spX K n (fnT m tb)) := by
  refine F.okX sc (fun vs H Q E h => h.1.trans hn.symm) fun cdv A outer s H vs Q E hr hsp => ?_
  obtain ⟨hl, F0, V0, os, ws, k0, x0, r, ra, hT, c, cx⟩ := hsp
  refine ⟨wSs _ (defBody st), wSs_pss, ?_⟩
  have hw : ws.length ≤ N.length := by rw [← ra.length]; omega
  subst hm
  refine h cdv A outer s H E hr _ _ _ _ hT F0 V0 H _ _ (fun cls d _ H => E cls d H) r (sr_startE ra hw) ⟨fun V1 os1 H1 σ1 env1 s1 r1 sr1 q => ?_, fun V1 os1 H1 v w s1 r1 rv q => ?_, fun _ _ _ _ _ _ _ _ z => z.elim, fun _ _ _ _ _ _ _ _ z => z.elim,
    takes_of rfl rfl rfl rfl, fun V1 os1 H1 σ1 env1 cls d x s1 r1 sr1 ex q => ?_⟩
  · obtain ⟨os2, hs, q⟩ := dropX_of q
    exact c V1 os2 H1 _ _ s1 (r1.wk hs) rwN q
  · obtain ⟨os2, hs, q⟩ := dropX_of q
    exact c V1 os2 H1 v w s1 (r1.wk hs) rv q
  · obtain ⟨os2, hs, q⟩ := dropE_of q
    exact cx V1 os2 H1 cls d x s1 (r1.wk hs) ex q
end
theorem pass_cx {CX : CXT} {P : Program} {w : World} {K : PySem.W.Frag} {mg : Str → Option Value} {base : Heap} {N : List Str} {qual : Str} {scope : Scope} {f : Addr} {cd : Value} {A : Around} {outer : List Env} {s : Shared} {H : Hp} {E : XK} :
    PassesOwn (model (cxOf CX P w K mg base N qual scope f cd A outer s H E).prog (cxOf CX P w K mg base N qual scope f cd A outer s H E).w) (cxOf CX P w K mg base N qual scope f cd A outer s H E).A (cxOf CX P w K mg base N qual scope f cd A outer s H E).env (cxOf CX P w K mg base N qual scope f cd A outer s H E).xe := PassesOwn.leaving
/-- a def by its name -/
structure CalX (P : Program) (w : World) (K : PySem.W.Frag) (mg : Str → Option Value) (base : Heap) (lvl : Nat) (x : Str) (n : Nat) (T : FT) : Prop where
  ex : ∃ (f : Addr) (fd : FuncData) (ps : List Str), FnOk P w K mg base (L2.CX P w) lvl f fd ps (spX K n T) ∧ mg x = some (.ref f) ∧ PySem.W.keepIn K (.ref f) = true ∧ Binds K fd ps []
/-- a method -/
structure CalM (P : Program) (w : World) (K : PySem.W.Frag) (mg : Str → Option Value) (base : Heap) (lvl : Nat) (C : Addr) (m : Str) (n : Nat) (T : FT) : Prop where
  ex : ∃ (f : Addr) (fd : FuncData) (ps : List Str), FnOk P w K mg base (L2.CX P w) lvl f fd ps (spX K n T) ∧ Meth K C m f ∧ Binds K fd ps []
/-- an __init__ -/
structure CalI (P : Program) (w : World) (K : PySem.W.Frag) (mg : Str → Option Value) (base : Heap) (lvl : Nat) (C : Addr) (x : Str) (n : Nat) (T : FT) : Prop where
  ex : ∃ (f : Addr) (fd : FuncData) (ps : List Str), FnOk P w K mg base (L2.CX P w) lvl f fd ps (spX K n T) ∧ Mk K C f ∧ Binds K fd ps [] ∧ mg x = some (.ref C)

/-! ### a part of the owned things goes in -/
def callK (T : FT) (ws : List D) (os : Os) (k : D → Os → Prop) (kx : Kx) : Prop := ∃ (of or : Os) (back : Os → Os), os.Perm (of ++ or) ∧ (∀ o, (o ++ or).Perm (back o)) ∧ T ws of (fun w o => k w (back o)) (fun x o => kx x (back o))
def makeK (T : FT) (C : Addr) (ws : List D) (os : Os) (k : D → Os → Prop) (kx : Kx) : Prop := ∃ (of or : Os) (back : Os → Os), os.Perm (of ++ or) ∧ (∀ o, (o ++ or).Perm (back o)) ∧
  ∀ p, T (.ref p :: ws) ((p, .ins C []) :: of) (fun w o => match w with
    | .non => k (.ref p) (back o)
    | _ => False) (fun x o => kx x (back o))
theorem callK_all {T : FT} {ws : List D} {os : Os} {k : D → Os → Prop} {kx : Kx} (h : T ws os k kx) : callK T ws os k kx := ⟨os, [], id, by rw [List.append_nil], fun o => by rw [List.append_nil]; exact .refl _, h⟩
theorem callK_none {T : FT} {ws : List D} {os : Os} {k : D → Os → Prop} {kx : Kx} (h : T ws [] (fun w o => k w (o ++ os)) (fun x o => kx x (o ++ os))) : callK T ws os k kx := ⟨[], os, fun o => o ++ os, .refl _, fun _ => .refl _, h⟩
theorem makeK_none {T : FT} {C : Addr} {ws : List D} {os : Os} {k : D → Os → Prop} {kx : Kx} (h : ∀ p, T (.ref p :: ws) [(p, .ins C [])] (fun w o => match w with
    | .non => k (.ref p) (o ++ os)
    | _ => False) (fun x o => kx x (o ++ os))) : makeK T C ws os k kx := ⟨[], os, fun o => o ++ os, .refl _, fun _ => .refl _, h⟩
/-- those at some places, one after the other -/
def outAt : Nat → Os → Option ((Addr × OO) × Os)
  | 0, x :: xs => some (x, xs)
  | n + 1, x :: xs => match outAt n xs with
    | some (y, r) => some (y, x :: r)
    | none => none
  | _, [] => none
def outs : List Nat → Os → Option (Os × Os)
  | [], os => some ([], os)
  | n :: ns, os => match outAt n os with
    | some (x, r) => (match outs ns r with
      | some (of, or) => some (x :: of, or)
      | none => none)
    | none => none
def putAt : Nat → (Addr × OO) → Os → Os
  | 0, x, os => x :: os
  | n + 1, x, y :: os => y :: putAt n x os
  | _ + 1, x, [] => [x]
def puts : List Nat → Os → Os → Os
  | n :: ns, x :: o, or => putAt n x (puts ns o or)
  | _, o, or => o ++ or
/-- the last ones go back to their places -/
def backAt (ns : List Nat) (or o : Os) : Os := o.take (o.length - ns.length) ++ puts ns (o.drop (o.length - ns.length)) or
theorem putAt_perm : ∀ (n : Nat) (x : Addr × OO) (os : Os), (x :: os).Perm (putAt n x os)
  | 0, _, _ => .refl _
  | n + 1, x, y :: os => (List.Perm.swap y x os).trans ((putAt_perm n x os).cons y)
  | _ + 1, _, [] => .refl _
theorem puts_perm : ∀ (ns : List Nat) (o or : Os), (o ++ or).Perm (puts ns o or)
  | n :: ns, x :: o, or => ((puts_perm ns o or).cons x).trans (putAt_perm n x _)
  | [], o, or => by cases o <;> exact .refl _
  | n :: ns, [], or => .refl _
theorem backAt_perm (ns : List Nat) (or o : Os) : (o ++ or).Perm (backAt ns or o) := by
  unfold backAt
  have h := puts_perm ns (o.drop (o.length - ns.length)) or
  have e : o ++ or = o.take (o.length - ns.length) ++ (o.drop (o.length - ns.length) ++ or) := by rw [← List.append_assoc, List.take_append_drop]
  rw [e]
  exact h.append_left _
theorem outAt_perm : ∀ {n : Nat} {os : Os} {x : Addr × OO} {r : Os}, outAt n os = some (x, r) → os.Perm (x :: r)
  | 0, y :: ys, x, r, h => by
    have h : some (y, ys) = some (x, r) := h
    cases h; exact .refl _
  | n + 1, y :: ys, x, r, h => by
    unfold outAt at h
    split at h
    · rename_i z r' e
      cases h
      exact ((outAt_perm e).cons y).trans (.swap _ _ _)
    · cases h
  | 0, [], _, _, h => by cases h
  | _ + 1, [], _, _, h => by cases h
theorem outs_perm : ∀ {ns : List Nat} {os of or : Os}, outs ns os = some (of, or) → os.Perm (of ++ or)
  | [], os, of, or, h => by
    have h : some ([], os) = some (of, or) := h
    cases h; exact .refl _
  | n :: ns, os, of, or, h => by
    unfold outs at h
    split at h
    · rename_i x r e
      split at h
      · rename_i of' or' e2
        cases h
        exact (outAt_perm e).trans ((outs_perm e2).cons x)
      · cases h
    · cases h
theorem wk_at {os of or : Os} (ns : List Nat) (h : outs ns os = some (of, or)) : WkO os of := ⟨or, outs_perm h⟩
theorem callK_at {T : FT} {ws : List D} {os of or : Os} {k : D → Os → Prop} {kx : Kx} (ns : List Nat) (h : outs ns os = some (of, or)) (q : T ws of (fun w o => k w (backAt ns or o)) (fun x o => kx x (backAt ns or o))) : callK T ws os k kx :=
  ⟨of, or, backAt ns or, outs_perm h, backAt_perm ns or, q⟩
theorem makeK_at {T : FT} {C : Addr} {ws : List D} {os of or : Os} {k : D → Os → Prop} {kx : Kx} (ns : List Nat) (h : outs ns os = some (of, or)) (q : ∀ p, T (.ref p :: ws) ((p, .ins C []) :: of) (fun w o => match w with
    | .non => k (.ref p) (backAt ns or o)
    | _ => False) (fun x o => kx x (backAt ns or o))) : makeK T C ws os k kx :=
  ⟨of, or, backAt ns or, outs_perm h, backAt_perm ns or, q⟩

@[irreducible] def callX (T : FT) (ws : List D) (os : Os) (k : D → Os → Prop) (kx : Kx) : Prop := callK T ws os k kx
@[irreducible] def makeX (T : FT) (C : Addr) (ws : List D) (os : Os) (k : D → Os → Prop) (kx : Kx) : Prop := makeK T C ws os k kx
section
variable {T : FT} {C : Addr} {ws : List D} {os of or : Os} {k : D → Os → Prop} {kx : Kx}
theorem callX_eq : callX T ws os k kx = callK T ws os k kx := by unfold callX; rfl
theorem makeX_eq : makeX T C ws os k kx = makeK T C ws os k kx := by unfold makeX; rfl
theorem callX_all (h : T ws os k kx) : callX T ws os k kx := by rw [callX_eq]; exact callK_all h
theorem callX_none (h : T ws [] (fun w o => k w (o ++ os)) (fun x o => kx x (o ++ os))) : callX T ws os k kx := by rw [callX_eq]; exact callK_none h
theorem callX_at (ns : List Nat) (h : outs ns os = some (of, or)) (q : T ws of (fun w o => k w (backAt ns or o)) (fun x o => kx x (backAt ns or o))) : callX T ws os k kx := by rw [callX_eq]; exact callK_at ns h q
theorem makeX_none (h : ∀ p, T (.ref p :: ws) [(p, .ins C [])] (fun w o => match w with
    | .non => k (.ref p) (o ++ os)
    | _ => False) (fun x o => kx x (o ++ os))) : makeX T C ws os k kx := by rw [makeX_eq]; exact makeK_none h
theorem makeX_at (ns : List Nat) (h : outs ns os = some (of, or)) (q : ∀ p, T (.ref p :: ws) ((p, .ins C []) :: of) (fun w o => match w with
    | .non => k (.ref p) (backAt ns or o)
    | _ => False) (fun x o => kx x (backAt ns or o))) : makeX T C ws os k kx := by rw [makeX_eq]; exact makeK_at ns h q
end

section
variable {X : Cx} {env : DEnv} {os : Os} {k : D → Os → Prop} {pos p pos' apos : Pos} {a b c e o value : Expr} {es : List Expr} {x m : Str} {lvl n : Nat} {T : FT} {tl : TrA} {to te : TrE} {C : Addr}
/-- the promise at the caller's things -/
theorem sp_of {F V0 H : Hp} {σ : L2.St} {vs : List V} {ws : List D} {kx : Kx} {W : WX} {Q : VK} (r : Rel X.K F V0 os H) (rs : RpA X.K V0 vs ws) (hl : vs.length = n) (q : callX T ws os k kx) (ek : XkOk X F V0 σ kx W)
    (c : ∀ (V1 : Hp) (os1 : Os) (H1 : Hp) (v : V) (w : D), Same V0 V1 → Rel X.K F V1 os1 H1 → Rp X.K V1 v w → k w os1 → Q v H1) : spX X.K n T vs H Q (WE W σ) := by
  rw [callX_eq] at q
  obtain ⟨of, or, back, hp, hb, hT⟩ := q
  obtain ⟨F2, r2, bk⟩ := Rel.frame (r.perm hp)
  exact ⟨hl, F2, V0, of, ws, _, _, r2, rs, hT, fun V1 os1 H1 v w s1 r1 rv hq => c V1 _ H1 v w s1 ((bk V1 os1 H1 s1 r1).perm (hb os1)) rv hq, fun V1 os1 H1 cls d x s1 r1 ex hq => ek.ex V1 _ H1 cls d x s1 ((bk V1 os1 H1 s1 r1).perm (hb os1)) ex hq⟩
def eCall (T : FT) (tl : TrA) : TrE := fun kx env os k => tl kx env os fun ws os1 => callX T ws os1 k kx
theorem cm_call (CC : CalX X.prog X.w X.K X.mg X.base lvl x n T) (hr : Room lvl X.A) (hg : Gl X x) (ha : CmA X (e :: es) tl n) (hdb : (x == ("__debug__" : Str)) = false)
    (he : starEach (e :: es) X.env = (false, eval e X.env) :: starEach es X.env) (hpl : (backTo pos (starEach es X.env)).any (·.1) = false) : Cm X (.Call (.Name x p) (e :: es) [] pos) (eCall T tl) := by
  obtain ⟨f, fd, ps, G, hm, hk, hb⟩ := CC.ex
  intro kx env os k h F V0 H σ Q W r sr ek c
  refine wE_of (pe_callS (E := WE W) G hr hg hm hk hb (fun σ => passAt ek.tk σ) wA_pa hdb he hpl) ?_
  refine ha.2 _ _ _ _ h F V0 H σ _ W r sr ek fun V1 os1 H1 vs ws s1 r1 rs ⟨hl, q⟩ => ?_
  exact sp_of r1 rs (rs.length.trans hl) q (ek.mono s1) fun V2 os2 H2 v w s2 r2 rv q2 => c V2 os2 H2 v w (s1.trans s2) r2 rv q2
theorem pe_callS0 {CX : CXT} {sp : Sp} {E : L2.St → XK} {f : Addr} {fd : FuncData} {ps : List Str} {lv : Nat} (G : FnOk X.prog X.w X.K X.mg X.base CX lv f fd ps sp) (hr : Room lv X.A) (hg : Gl X x) (hm : X.mg x = some (.ref f)) (hk : PySem.W.keepIn X.K (.ref f) = true) (hb : Binds X.K fd ps [])
    (hx : ∀ σ, PassesAt CX X σ (E σ)) (hdb : (x == ("__debug__" : Str)) = false) : PE X (.Call (.Name x p) [] [] pos) (fun σ H Q => sp [] H Q (E σ)) :=
  ⟨fun pins s σ H Q I h => wpAny_Call_Name_kw (ld_glob I hg hm (PySem.W.callWith_K0 I.kIn hk (run_fnS (us := []) (vs := []) G hr hb (hx σ) I .nil h)) hdb)⟩
theorem cm_call0 (CC : CalX X.prog X.w X.K X.mg X.base lvl x 0 T) (hr : Room lvl X.A) (hg : Gl X x) (hdb : (x == ("__debug__" : Str)) = false) : Cm X (.Call (.Name x p) [] [] pos) (eCall T aN) := by
  obtain ⟨f, fd, ps, G, hm, hk, hb⟩ := CC.ex
  intro kx env os k h F V0 H σ Q W r sr ek c
  refine wE_of (pe_callS0 (E := WE W) G hr hg hm hk hb (fun σ => passAt ek.tk σ) hdb) ?_
  exact sp_of (vs := []) r .nil rfl h ek c

/-! ### instances -/
def lkF : Nat → List (Nat × D) → Option D
  | _, [] => none
  | i, (j, d) :: r => match Nat.beq i j with
    | true => some d
    | false => lkF i r
def putI (f : Nat) (w : D) : List (Nat × D) → List (Nat × D)
  | [] => [(f, w)]
  | (g, x) :: r => match Nat.beq g f with
    | true => (g, w) :: r
    | false => (g, x) :: putI f w r
theorem rf_lookup {K : PySem.W.Frag} {V0 : Hp} {f : Nat} : ∀ {vf : List (Str × V)} {fs : List (Nat × D)}, RF K V0 vf fs → ∀ {w : D}, lkF f fs = some w → ∃ v, vf.lookup (nm f) = some v ∧ Rp K V0 v w
  | _, _, .nil, _, h => by cases h
  | (a, x) :: vf, (b, y) :: fs, .cons hq r, w, h => by
    obtain ⟨e, rw'⟩ := hq
    have e : a = nm b := e
    subst e
    unfold lkF at h
    rw [List.lookup_cons]
    split at h
    · rename_i hb
      have := Nat.eq_of_beq_eq_true hb
      subst this
      cases h
      exact ⟨x, by simp, rw'⟩
    · rename_i hb
      have ne : (nm f == nm b) = false := beq_eq_false_iff_ne.mpr fun e => by
        rw [nm_inj e] at hb
        rw [Nat.beq_refl] at hb
        cases hb
      rw [ne]
      exact rf_lookup r h
theorem rf_none {K : PySem.W.Frag} {V0 : Hp} {f : Nat} : ∀ {vf : List (Str × V)} {fs : List (Nat × D)}, RF K V0 vf fs → lkF f fs = none → vf.lookup (nm f) = none
  | _, _, .nil, h => rfl
  | (a, x) :: vf, (b, y) :: fs, .cons hq r, h => by
    obtain ⟨e, rw'⟩ := hq
    have e : a = nm b := e
    subst e
    unfold lkF at h
    rw [List.lookup_cons]
    split at h
    · cases h
    · rename_i hb
      have ne : (nm f == nm b) = false := beq_eq_false_iff_ne.mpr fun e => by
        rw [nm_inj e] at hb
        rw [Nat.beq_refl] at hb
        cases hb
      rw [ne]
      exact rf_none r h
theorem rf_put {K : PySem.W.Frag} {V0 : Hp} {f : Nat} {v : V} {w : D} (hv : Rp K V0 v w) : ∀ {vf : List (Str × V)} {fs : List (Nat × D)}, RF K V0 vf fs → RF K V0 (putF (nm f) v vf) (putI f w fs)
  | _, _, .nil => .cons ⟨rfl, hv⟩ .nil
  | (a, x) :: vf, (b, y) :: fs, .cons hq r => by
    obtain ⟨e, rw'⟩ := hq
    have e : a = nm b := e
    subst e
    show RF K V0 (if nm b = nm f then _ else _) _
    unfold putI
    by_cases hb : b = f
    · subst hb
      rw [if_pos rfl, Nat.beq_refl]; exact .cons ⟨rfl, hv⟩ r
    · rw [if_neg fun e => hb (nm_inj e), show Nat.beq b f = false from Bool.eq_false_iff.mpr fun e => hb (Nat.eq_of_beq_eq_true e)]
      exact .cons ⟨rfl, rw'⟩ (rf_put hv r)
/-- e.f, of an instance of one of the classes -/
def eFld (Cs : List Addr) (f : Nat) (to : TrE) : TrE := fun kx env os k => to kx env os fun w os1 => match w with
  | .ref a => ∃ (n : Nat) (C : Addr) (fs : List (Nat × D)) (y : D), os1[n]? = some (a, OO.ins C fs) ∧ C ∈ Cs ∧ lkF f fs = some y ∧ k y os1
  | _ => False
theorem cm_fld {Cs : List Addr} {f : Nat} {fx : Str} (hf : fx = nm f) (hc : ∀ C ∈ Cs, Cls X.K C ∧ NoAttr X.K C fx) (h : Cm X e to) (hb : attributeBase e fx X.env (eval e X.env) = eval e X.env) : Cm X (.Attribute e fx pos) (eFld Cs f to) := by
  subst hf
  intro kx env os k q F V0 H σ Q W r sr ek cc
  refine wE_of (pe_fld wE_pe hb) ?_
  refine h _ _ _ _ q F V0 H σ _ W r sr ek fun V1 os1 H1 v w s1 r1 rv q => ?_
  split at q
  · obtain ⟨n, C, fs, y, ho, hC, hl, q⟩ := q
    obtain ⟨c, na⟩ := hc C hC
    obtain rfl := rv.toRef
    obtain ⟨_, _, ho', h3, dx, vf, rfl, h4⟩ := r1.own _ (List.mem_of_getElem? ho)
    obtain ⟨u, e2, ru⟩ := rf_lookup h4 hl
    exact ⟨_, C, dx, vf, u, rfl, h3, c, na, e2, cc V1 os1 H1 u y s1 r1 ru q⟩
  · exact q.elim
/-- o.f = value: the value first -/
def sFld (Cs : List Addr) (f : Nat) (to tv : TrE) : TrS := fun N R env os => tv (R.xk env) env os fun y os1 => to (R.xk env) env os1 fun w os2 => match w with
  | .ref a => ∃ (n : Nat) (C : Addr) (fs : List (Nat × D)), os2[n]? = some (a, OO.ins C fs) ∧ C ∈ Cs ∧ fs.length < 1000 ∧ N env (os2.set n (a, .ins C (putI f y fs)))
  | _ => False
theorem c1_fld {Cs : List Addr} {f : Nat} {fx : Str} (hf : fx = nm f) (hc : ∀ C ∈ Cs, Cls X.K C ∧ NoAttr X.K C fx) (ho : Cm X o to) (hv : Cm X value te)
    (hs : swapsWith value (some (.Attribute o fx pos')) pos.line X.env = pure false) : CmS X (.Assign [.Attribute o fx pos'] value pos) (sFld Cs f to te) := by
  subst hf
  intro N R env os q F V0 H σ D W r sr ek
  refine wS1_of (ps_fld wE_pe wE_pe hs) ?_
  refine hv _ _ _ _ q F V0 H σ _ W r sr (ek.xk sr) fun V1 os1 H1 v y s1 r1 rv q1 => ?_
  refine ho _ _ _ _ q1 F V1 H1 σ _ W r1 (sr.mono s1) ((ek.xk sr).mono s1) fun V2 os2 H2 u w2 s2 r2 ru q => ?_
  split at q
  · obtain ⟨n, C, fs, ho, hC, hl, q⟩ := q
    obtain ⟨c, na⟩ := hc C hC
    obtain rfl := ru.toRef
    obtain ⟨_, _, ho', h3, dx, vf, rfl, h4⟩ := r2.own _ (List.mem_of_getElem? ho)
    refine ⟨_, C, dx, vf, rfl, h3, c, na, by rw [Paired.length h4]; exact hl, ?_⟩
    exact ek.nx V2 _ _ _ _ (s1.trans s2) (r2.mut ho (oo' := .ins C (putI f y fs)) ⟨dx, _, rfl, rf_put (rv.mono s2) h4⟩) ((sr.mono s1).mono s2) q
  · exact q.elim
/-- o.m(..) of the class at C -/
def insK (C : Addr) (m : Nat) (w : D) (os : Os) (k : Prop) : Prop := match w with
  | .ref a => (∃ (n : Nat) (fs : List (Nat × D)), os[n]? = some (a, OO.ins C fs) ∧ lkF m fs = none) ∧ k
  | _ => False
theorem insK_of {m : Nat} {w : D} {kk : Prop} (h : insK C m w os kk) : ∃ (a : Addr) (n : Nat) (fs : List (Nat × D)), w = .ref a ∧ os[n]? = some (a, OO.ins C fs) ∧ lkF m fs = none ∧ kk := by
  unfold insK at h
  split at h
  · obtain ⟨⟨n, fs, h1, h2⟩, q⟩ := h
    exact ⟨_, n, fs, rfl, h1, h2, q⟩
  · exact h.elim
def eMeth (C : Addr) (m : Nat) (T : FT) (to : TrE) (tl : TrA) : TrE := fun kx env os k => to kx env os fun w os1 => insK C m w os1 (tl kx env os1 fun ws os2 => callX T (w :: ws) os2 k kx)
def tMethS (C : Addr) (m : Str) (sp : Sp) (E : L2.St → XK) (ta : TE) (t : TA) : TE := fun σ H Q => ta σ H fun x H1 => ∃ (a dx : Addr) (fs : List (Str × V)), x = .ref a ∧ H1 a = some (.ins C dx fs) ∧ fs.lookup m = none ∧ t σ H1 fun vs H2 => sp (x :: vs) H2 Q (E σ)
theorem pe_methS {CX : CXT} {sp : Sp} {E : L2.St → XK} {f : Addr} {fd : FuncData} {ps : List Str} {ta : TE} {t : TA} {pl : Sem Bool} (he : PE X o ta) (c : Cls X.K C) (hm : Meth X.K C m f) (G : FnOk X.prog X.w X.K X.mg X.base CX lvl f fd ps sp) (hr : Room lvl X.A) (hb : Binds X.K fd ps []) (hx : ∀ σ, PassesAt CX X σ (E σ)) (ha : PA X (e :: es) t)
    (hst : starEach (e :: es) X.env = (false, eval e X.env) :: starEach es X.env) (hpl : (backTo pos (starEach es X.env)).any (·.1) = false)
    (ht : eval (.Call (.Attribute o m apos) (e :: es) [] pos) X.env = (do
      let ov ← eval o X.env
      standAt apos.atName
      let (f, first) ← holding [ov] (getMethod ov m pl)
      callWith pos f first (backTo pos (starEach (e :: es) X.env)) (backToKw pos (keywordEach [] X.env)))) : PE X (.Call (.Attribute o m apos) (e :: es) [] pos) (tMethS C m sp E ta t) := by
  refine ⟨fun pins s σ H Q I h => PySem.W.methodCall_KW (pl := pl) (thn (he.run pins s σ H _ I h) fun u s1 ⟨x, H1, I1, rx, a, dx, fs, ex, ea, l, q⟩ => ?_) ht⟩
  subst ex
  obtain rfl : u = Value.ref a := rx
  refine getmeth_ok I1 ea c hm l (PySem.W.callWith_K (h₀ := X.base) (first := [.ref a]) I1.ok.mod.kin hm.kp (thn (ha.run pos pins _ σ H1 _ (I1.tok _) q) fun us s2 ⟨vs, H2, I2, r2, q2⟩ => ⟨I2.kIn, ?_⟩) hst hpl)
  exact run_fnS (us := .ref a :: us) (vs := .ref a :: vs) G hr hb (hx σ) I2 (.cons rfl r2) q2
theorem pe_methS0 {CX : CXT} {sp : Sp} {E : L2.St → XK} {f : Addr} {fd : FuncData} {ps : List Str} {ta : TE} {pl : Sem Bool} (he : PE X o ta) (c : Cls X.K C) (hm : Meth X.K C m f) (G : FnOk X.prog X.w X.K X.mg X.base CX lvl f fd ps sp) (hr : Room lvl X.A) (hb : Binds X.K fd ps []) (hx : ∀ σ, PassesAt CX X σ (E σ))
    (ht : eval (.Call (.Attribute o m apos) [] [] pos) X.env = (do
      let ov ← eval o X.env
      standAt apos.atName
      let (f, first) ← holding [ov] (getMethod ov m pl)
      callWith pos f first (backTo pos (starEach [] X.env)) (backToKw pos (keywordEach [] X.env)))) : PE X (.Call (.Attribute o m apos) [] [] pos) (tMethS C m sp E ta tNil) := by
  refine ⟨fun pins s σ H Q I h => PySem.W.methodCall_KW (pl := pl) (thn (he.run pins s σ H _ I h) fun u s1 ⟨x, H1, I1, rx, a, dx, fs, ex, ea, l, q⟩ => ?_) ht⟩
  subst ex
  obtain rfl : u = Value.ref a := rx
  exact getmeth_ok I1 ea c hm l (PySem.W.callWith_K0 (first := [.ref a]) I1.kIn hm.kp (run_fnS (us := [.ref a]) (vs := [.ref a]) G hr hb (hx σ) I1 (.cons rfl .nil) q))
theorem cm_meth {mi : Nat} {pl : Sem Bool} (M : CalM X.prog X.w X.K X.mg X.base lvl C m (n + 1) T) (hmi : m = nm mi) (c : Cls X.K C) (hr : Room lvl X.A) (ho : Cm X o to) (ha : CmA X (e :: es) tl n)
    (hst : starEach (e :: es) X.env = (false, eval e X.env) :: starEach es X.env) (hpl : (backTo pos (starEach es X.env)).any (·.1) = false)
    (ht : eval (.Call (.Attribute o m apos) (e :: es) [] pos) X.env = (do
      let ov ← eval o X.env
      standAt apos.atName
      let (f, first) ← holding [ov] (getMethod ov m pl)
      callWith pos f first (backTo pos (starEach (e :: es) X.env)) (backToKw pos (keywordEach [] X.env)))) : Cm X (.Call (.Attribute o m apos) (e :: es) [] pos) (eMeth C mi T to tl) := by
  obtain ⟨f, fd, ps, G, hm, hb⟩ := M.ex
  subst hmi
  intro kx env os k h F V0 H σ Q W r sr ek cc
  refine wE_of (pe_methS (E := WE W) (pl := pl) wE_pe c hm G hr hb (fun σ => passAt ek.tk σ) wA_pa hst hpl ht) ?_
  refine ho _ _ _ _ h F V0 H σ _ W r sr ek fun V1 os1 H1 v w s1 r1 rv q => ?_
  obtain ⟨a, n0, fs, rfl, ho', hl, q⟩ := insK_of q
  obtain rfl := rv.toRef
  obtain ⟨_, _, ho2, h3, dx, vf, rfl, h4⟩ := r1.own _ (List.mem_of_getElem? ho')
  refine ⟨a, dx, vf, rfl, h3, rf_none h4 hl, ?_⟩
  refine ha.2 _ _ _ _ q F V1 H1 σ _ W r1 (sr.mono s1) (ek.mono s1) fun V2 os2 H2 vs ws s2 r2 rs ⟨hl2, q⟩ => ?_
  exact sp_of (vs := .ref a :: vs) r2 (.cons (.ref a) rs) (by rw [List.length_cons, rs.length, hl2]) q (ek.mono (s1.trans s2)) fun V3 os3 H3 v3 w3 s3 r3 rv3 q2 => cc V3 os3 H3 v3 w3 ((s1.trans s2).trans s3) r3 rv3 q2
theorem cm_meth0 {mi : Nat} {pl : Sem Bool} (M : CalM X.prog X.w X.K X.mg X.base lvl C m 1 T) (hmi : m = nm mi) (c : Cls X.K C) (hr : Room lvl X.A) (ho : Cm X o to)
    (ht : eval (.Call (.Attribute o m apos) [] [] pos) X.env = (do
      let ov ← eval o X.env
      standAt apos.atName
      let (f, first) ← holding [ov] (getMethod ov m pl)
      callWith pos f first (backTo pos (starEach [] X.env)) (backToKw pos (keywordEach [] X.env)))) : Cm X (.Call (.Attribute o m apos) [] [] pos) (eMeth C mi T to aN) := by
  obtain ⟨f, fd, ps, G, hm, hb⟩ := M.ex
  subst hmi
  intro kx env os k h F V0 H σ Q W r sr ek cc
  refine wE_of (pe_methS0 (E := WE W) (pl := pl) wE_pe c hm G hr hb (fun σ => passAt ek.tk σ) ht) ?_
  refine ho _ _ _ _ h F V0 H σ _ W r sr ek fun V1 os1 H1 v w s1 r1 rv q => ?_
  obtain ⟨a, n0, fs, rfl, ho', hl, q⟩ := insK_of q
  obtain rfl := rv.toRef
  obtain ⟨_, _, ho2, h3, dx, vf, rfl, h4⟩ := r1.own _ (List.mem_of_getElem? ho')
  refine ⟨a, dx, vf, rfl, h3, rf_none h4 hl, ?_⟩
  exact sp_of (vs := [.ref a]) r1 (.cons (.ref a) .nil) rfl q (ek.mono s1) fun V3 os3 H3 v3 w3 s3 r3 rv3 q2 => cc V3 os3 H3 v3 w3 (s1.trans s3) r3 rv3 q2
/-- C(..) -/
def eMake (C : Addr) (T : FT) (tl : TrA) : TrE := fun kx env os k => tl kx env os fun ws os1 => makeX T C ws os1 k kx
theorem run_makeS {CX : CXT} {sp : Sp} {E : XK} {f : Addr} {fd : FuncData} {ps : List Str} {pins : List (Addr × Obj)} {σ : L2.St} {H : Hp} {s : Shared} {Q : VK} {us : List Value} {vs : List V} (M : Mk X.K C f) (G : FnOk X.prog X.w X.K X.mg X.base CX lvl f fd ps sp) (hr : Room (lvl + 1) X.A) (hb : Binds X.K fd ps [])
    (hx : PassesAt CX X σ E) (I : Inv X pins σ H s) (rv : Vals vs us)
    (h : ∀ x dx, H x = none → H dx = none → dx ≠ x → sp (.ref x :: vs) (upd (upd H dx (.own x)) x (.ins C dx [])) (fun v H2 => v = .non ∧ Q (.ref x) H2) E) :
    wpAny (model X.prog X.w) X.A (call (.ref C) us) (EP X pins σ Q) X.xe s := by
  obtain ⟨z, hz⟩ : ∃ z, z = s.heap.objs.size := ⟨_, rfl⟩
  have hq := h (s.heap.objs.size + 1) s.heap.objs.size (I.hok.fresh (Nat.le_add_right _ 1)) (I.hok.fresh (Nat.le_refl _)) (Nat.ne_of_lt (Nat.lt_add_one _))
  have I2 := Inv.made (C := C) I
  have r2 : Vals (V.ref (s.heap.objs.size + 1) :: vs) (Value.ref (s.heap.objs.size + 1) :: us) := .cons rfl rv
  have hl : (Value.ref (s.heap.objs.size + 1) :: us).length = ps.length := r2.length.symm.trans (G.len _ _ _ _ hq)
  have bd := hb _ (Value.ref (s.heap.objs.size + 1) :: us) I2.kIn (by rw [List.append_nil]; exact hl)
  rw [List.append_nil] at bd
  refine wpAny_call (make_map (f := f) I.kIn M.makes M.init (beq_iff_eq.mp M.fn) (codeAny_mono (G.run _ X.stack _ _ ⟨Value.ref (s.heap.objs.size + 1) :: us, []⟩ (Value.ref (s.heap.objs.size + 1) :: us) _ _ E (hr.make C us []) (I2.env0.make C us []) bd r2 hq) fun r s' hq' => ?_))
  cases r with
  | error e => exact hx pins _ _ e s' I2 hq'
  | ok fl =>
    cases fl with
    | ret u =>
      obtain ⟨v, H', I3, rv, ev, q3⟩ := I2.after hq'
      subst ev
      exact ⟨rv, V.ref (s.heap.objs.size + 1), H', I3, rfl, q3⟩
    | next => exact hq'.elim
    | brk => exact hq'.elim
    | cont => exact hq'.elim
theorem made_of {F V0 H : Hp} {σ : L2.St} {vs : List V} {ws : List D} {kx : Kx} {W : WX} {Q : VK} (r : Rel X.K F V0 os H) (rs : RpA X.K V0 vs ws) (hl : vs.length + 1 = n) (q : makeX T C ws os k kx) (ek : XkOk X F V0 σ kx W)
    (c : ∀ (V1 : Hp) (os1 : Os) (H1 : Hp) (v : V) (w : D), Same V0 V1 → Rel X.K F V1 os1 H1 → Rp X.K V1 v w → k w os1 → Q v H1) (x dx : Addr) (hx : H x = none) (hd : H dx = none) (ne : dx ≠ x) :
    spX X.K n T (.ref x :: vs) (upd (upd H dx (.own x)) x (.ins C dx [])) (fun v H2 => v = .non ∧ Q (.ref x) H2) (WE W σ) := by
  rw [makeX_eq] at q
  obtain ⟨of, or, back, hp, hb, hT⟩ := q
  have sh : Same H (upd H dx (.own x)) := same_upd hd
  have r0 := r.perm hp
  have q1 : Rel X.K F V0 (of ++ or) (upd H dx (.own x)) := ⟨r0.fr.trans sh, r0.vi.trans sh, r0.fv, fun z hz => let ⟨h1, h2, ho, h3, h4⟩ := r0.own z hz; ⟨h1, h2, ho, sh _ _ h3, h4⟩, r0.nd⟩
  have r2 : Rel X.K F V0 (((x, OO.ins C []) :: of) ++ or) (upd (upd H dx (.own x)) x (.ins C dx [])) := q1.addO (by rw [upd_ne (Ne.symm ne)]; exact hx) ⟨dx, [], rfl, .nil⟩
  obtain ⟨F2, r3, bk⟩ := Rel.frame (of := (x, OO.ins C []) :: of) (or := or) r2
  refine ⟨hl, F2, V0, _, .ref x :: ws, _, _, r3, .cons (.ref x) rs, hT x, fun V3 os3 H3 v3 w3 s3 r4 rv3 hq => ?_, fun V1 os1 H1 cls d y s1 r1 ex hq => ek.ex V1 _ H1 cls d y s1 ((bk V1 os1 H1 s1 r1).perm (hb os1)) ex hq⟩
  split at hq
  · cases rv3
    exact ⟨rfl, c V3 _ H3 (.ref x) (.ref x) s3 ((bk V3 os3 H3 s3 r4).perm (hb os3)) (.ref x) hq⟩
  · exact hq.elim
theorem cm_make (M : CalI X.prog X.w X.K X.mg X.base lvl C x (n + 1) T) (hr : Room (lvl + 1) X.A) (hg : Gl X x) (ha : CmA X (e :: es) tl n) (hdb : (x == ("__debug__" : Str)) = false)
    (he : starEach (e :: es) X.env = (false, eval e X.env) :: starEach es X.env) (hpl : (backTo pos (starEach es X.env)).any (·.1) = false) : Cm X (.Call (.Name x p) (e :: es) [] pos) (eMake C T tl) := by
  obtain ⟨f, fd, ps, G, mk, hb, hm⟩ := M.ex
  intro kx env os k h F V0 H σ Q W r sr ek c
  refine wE_mk fun pins s I => ?_
  refine wpAny_Call_Name_kw (ld_glob I hg hm ?_ hdb)
  refine PySem.W.callWith_K (h₀ := X.base) I.ok.mod.kin mk.kp (thn (wA_pa.run pos pins s σ H (fun vs H1 => ∀ x dx, H1 x = none → H1 dx = none → dx ≠ x → spX X.K (n + 1) T (.ref x :: vs) (upd (upd H1 dx (.own x)) x (.ins C dx [])) (fun v H2 => v = .non ∧ Q (.ref x) H2) (WE W σ)) I ?_) fun us s1 ⟨vs, H1, I1, rv, q⟩ => ⟨I1.kIn, run_makeS mk G hr hb (passAt ek.tk σ) I1 rv q⟩) he hpl
  exact ha.2 _ _ _ _ h F V0 H σ _ W r sr ek fun V1 os1 H1 vs ws s1 r1 rs ⟨hl, q⟩ => made_of r1 rs (by rw [rs.length, hl]) q (ek.mono s1) fun V2 os2 H2 v w s2 r2 rv q2 => c V2 os2 H2 v w (s1.trans s2) r2 rv q2
theorem cm_make0 (M : CalI X.prog X.w X.K X.mg X.base lvl C x 1 T) (hr : Room (lvl + 1) X.A) (hg : Gl X x) (hdb : (x == ("__debug__" : Str)) = false) : Cm X (.Call (.Name x p) [] [] pos) (eMake C T aN) := by
  obtain ⟨f, fd, ps, G, mk, hb, hm⟩ := M.ex
  intro kx env os k h F V0 H σ Q W r sr ek c
  refine wE_mk fun pins s I => ?_
  refine wpAny_Call_Name_kw (ld_glob I hg hm ?_ hdb)
  exact PySem.W.callWith_K0 I.kIn mk.kp (run_makeS (us := []) (vs := []) mk G hr hb (passAt ek.tk σ) I .nil (made_of (vs := []) r .nil rfl h ek c))
end

/-! ### the end -/
/-- the law's own promise -/
theorem law_spX (K : PySem.W.Frag) (T : FT) (hT : ∀ ns : List Int, ns.length ≤ 63 → T [.lst (ns.map D.int)] [] (fun w _ => w = .bl true) (fun _ _ => False)) (H : Hp) (a : Addr) (ns : List Int) (h : ns.length ≤ 63) (hs : SqL K H a (ns.map V.int)) :
    spX K 1 T [.ref a] H (fun v _ => v = .bl true) fun _ _ _ => False := by
  refine ⟨rfl, fun _ => none, H, [], [.lst (ns.map D.int)], fun d _ => d = .bl true, fun _ _ => False, ⟨(fun a o e => by cases e), Same.refl _, (fun a o e => by cases e), fun p hp => absurd hp (by simp), by simp⟩, .cons (.lst hs (rpA_ints ns)) .nil, hT ns h,
    fun V1 os1 H1 v d _ _ rv q => ?_, fun _ _ _ _ _ _ _ _ _ z => z.elim⟩
  subst q
  cases rv
  rfl
theorem glb_int {K : PySem.W.Frag} {mg : Str → Option Value} {x : Str} {i : Int} {t : Tok} (h : mg x = some (.int i t)) : Glb K mg x (.int i) := ⟨.int i, _, h, ⟨t, rfl⟩, fun _ => .int i⟩
theorem glb_str {K : PySem.W.Frag} {mg : Str → Option Value} {x : Str} {i : Str} {t : Tok} (h : mg x = some (.str i t)) : Glb K mg x (.str i) := ⟨.str i, _, h, ⟨t, rfl⟩, fun _ => .str i⟩
theorem cx_no {P : Program} {w : World} {H : Hp} {s : Shared} {e : Value} {s' : Shared} (h : L2.CX P w [] H s (fun _ _ _ => False) e s') : False := by
  obtain ⟨_, _, _, _, _, _, _, _, _, _, _, _, z⟩ := h
  exact z
end EV

set_option Elab.async false
set_option linter.all false
set_option maxRecDepth 100000
/-! E7: further rules; what helps to read transformers. -/
namespace EV
open PySem PySem.Spec PyProof.Rows L2
theorem fl1 {A : Addr} {P : Addr → Prop} (h : P A) : ∀ C ∈ [A], P C := fun C hC => by rw [List.mem_singleton] at hC; exact hC ▸ h
theorem fl2 {A B : Addr} {P : Addr → Prop} (h : P A) (h2 : P B) : ∀ C ∈ [A, B], P C := fun C hC => by
  rcases List.mem_cons.mp hC with e | e
  · exact e ▸ h
  · exact fl1 h2 C e
theorem fl3 {A B D : Addr} {P : Addr → Prop} (h : P A) (h2 : P B) (h3 : P D) : ∀ C ∈ [A, B, D], P C := fun C hC => by
  rcases List.mem_cons.mp hC with e | e
  · exact e ▸ h
  · exact fl2 h2 h3 C e
theorem fl4 {A B D E : Addr} {P : Addr → Prop} (h : P A) (h2 : P B) (h3 : P D) (h4 : P E) : ∀ C ∈ [A, B, D, E], P C := fun C hC => by
  rcases List.mem_cons.mp hC with e | e
  · exact e ▸ h
  · exact fl3 h2 h3 h4 C e
section
variable {X : Cx} {tge a b c3 : Expr} {p pos : Pos} {ta tb tc : TrE}
/-- range(i, j, c) -/
def iR3 (ta tb tc : TrE) : TrI := fun kx env os ki => ta kx env os fun w os1 => tb kx env os1 fun u os2 => tc kx env os2 fun v os3 => match w with
  | .int i => (match u with
    | .int j => (match v with
      | .int c => ∃ n, RgC i j c n ∧ ki (rng i c n) none os3
      | _ => False)
    | _ => False)
  | _ => False
theorem ci_range3 (hg : Gl X "range") (hm : X.mg "range" = none) (h : Cm X a ta) (h2 : Cm X b tb) (h3 : Cm X c3 tc)
    (hs : starEach [a, b, c3] X.env = (false, eval a X.env) :: starEach [b, c3] X.env) (hs2 : starEach [b, c3] X.env = (false, eval b X.env) :: starEach [c3] X.env) (hs3 : starEach [c3] X.env = (false, eval c3 X.env) :: starEach [] X.env) (hpl : (backTo pos (starEach [b, c3] X.env)).any (·.1) = false) : CmI X tge (.Call (.Name "range" p) [a, b, c3] [] pos) (iR3 ta tb tc) := by
  intro kx env os ki q F V0 H σ R W r sr ek c
  refine wPI_of (pi_range3 hg hm (pa_cons wE_pe (pa_cons wE_pe (pa_cons wE_pe pa_nil hs3) hs2) hs) hs hpl) ?_
  refine h _ _ _ _ q F V0 H σ _ W r sr ek fun V1 os1 H1 v w s1 r1 rv q => ?_
  refine h2 _ _ _ _ q F V1 H1 σ _ W r1 (sr.mono s1) (ek.mono s1) fun V2 os2 H2 u y s2 r2 ru q => ?_
  refine h3 _ _ _ _ q F V2 H2 σ _ W r2 (sr.mono (s1.trans s2)) (ek.mono (s1.trans s2)) fun V3 os3 H3 u3 y3 s3 r3 ru3 q => ?_
  split at q
  · split at q
    · split at q
      · obtain ⟨n, hr, q⟩ := q
        cases rv; cases ru; cases ru3
        exact ⟨_, _, _, n, rfl, hr, c V3 os3 H3 _ _ _ ((s1.trans s2).trans s3) r3 (gi_rngC _ _ n) q⟩
      · exact q.elim
    · exact q.elim
  · exact q.elim
end
end EV

set_option Elab.async false
set_option linter.all false
set_option maxRecDepth 100000
/-! E9: dicts with keys that are ints or texts. -/
namespace EV
open PySem PySem.Spec PyProof.Rows L2

def valD (kvs : List (Key × D)) (k : Key) : Option D := match kvs with
  | [] => none
  | (j, d) :: r => if j = k then some d else valD r k
def putD (kvs : List (Key × D)) (k : Key) (d : D) : List (Key × D) := if (valD kvs k).isSome = true then kvs.map (fun kv => if kv.1 = k then (kv.1, d) else kv) else kvs ++ [(k, d)]
def delD (kvs : List (Key × D)) (k : Key) : List (Key × D) := kvs.filter fun kv => decide (kv.1 ≠ k)
def dOfK : Key → D
  | .inl i => .int i
  | .inr x => .str x
theorem rp_ofK {K : PySem.W.Frag} {H : Hp} (k : Key) : Rp K H (kV k) (dOfK k) := by
  cases k with
  | inl i => exact .int i
  | inr x => exact .str x
section
variable {K : PySem.W.Frag} {H : Hp}
theorem RpK.length : ∀ {xs : List (Key × V)} {ds : List (Key × D)}, RpK K H xs ds → xs.length = ds.length
  | _, _, .nil => rfl
  | _, _, .cons _ r => congrArg (· + 1) (RpK.length r)
theorem RpK.val : ∀ {xs : List (Key × V)} {ds : List (Key × D)} {k : Key}, RpK K H xs ds → (∀ d, valD ds k = some d → ∃ v, valV xs k = some v ∧ Rp K H v d) ∧ (valD ds k = none → valV xs k = none)
  | _, _, _, .nil => ⟨fun d h => (nomatch h), fun _ => rfl⟩
  | _, _, k, .cons (k := j) (v := v) (vs := vs) (d := d) (ds := ds) h r => by
    have ih := RpK.val (k := k) r
    unfold valD
    by_cases e : j = k
    · rw [if_pos e, valV_pos (p := (j, v)) e]
      exact ⟨fun d h' => ⟨v, rfl, Option.some.inj h' ▸ h⟩, fun z => (nomatch z)⟩
    · rw [if_neg e, valV_neg (p := (j, v)) e]
      exact ih
theorem RpK.isSome {xs : List (Key × V)} {ds : List (Key × D)} (r : RpK K H xs ds) (k : Key) : (valV xs k).isSome = (valD ds k).isSome := by
  obtain ⟨h1, h2⟩ := RpK.val (k := k) r
  cases e : valD ds k with
  | none => rw [h2 e]; rfl
  | some d => obtain ⟨v, e1, _⟩ := h1 d e; rw [e1]; rfl
theorem RpK.app : ∀ {xs ys : List (Key × V)} {ds es : List (Key × D)}, RpK K H xs ds → RpK K H ys es → RpK K H (xs ++ ys) (ds ++ es)
  | _, _, _, _, .nil, s => s
  | _, _, _, _, .cons h r, s => .cons h (RpK.app r s)
theorem RpK.repl {k : Key} {v : V} {w : D} (q : Rp K H v w) : ∀ {xs : List (Key × V)} {ds : List (Key × D)}, RpK K H xs ds →
    RpK K H (xs.map fun kv => if kv.1 = k then (kv.1, v) else kv) (ds.map fun kv => if kv.1 = k then (kv.1, w) else kv)
  | _, _, .nil => .nil
  | _, _, .cons (k := j) h r => by
    have ih := RpK.repl (k := k) q r
    rw [List.map_cons, List.map_cons]
    by_cases e : j = k
    · rw [if_pos e, if_pos e]; exact .cons q ih
    · rw [if_neg e, if_neg e]; exact .cons h ih
theorem RpK.put {xs : List (Key × V)} {ds : List (Key × D)} (r : RpK K H xs ds) (k : Key) {v : V} {w : D} (q : Rp K H v w) : RpK K H (putK xs k v) (putD ds k w) := by
  unfold putK putD
  rw [valV_any, r.isSome k]
  by_cases e : (valD ds k).isSome = true
  · rw [if_pos e, if_pos e]; exact RpK.repl q r
  · rw [if_neg e, if_neg e]; exact r.app (.cons q .nil)
theorem RpK.del (k : Key) : ∀ {xs : List (Key × V)} {ds : List (Key × D)}, RpK K H xs ds → RpK K H (dropK xs k) (delD ds k)
  | _, _, .nil => .nil
  | _, _, .cons (k := j) (v := v) (vs := vs) (d := d) (ds := ds) h r => by
    have ih := RpK.del k r
    unfold dropK delD at ih ⊢
    rw [List.filter_cons, List.filter_cons]
    by_cases e : j ≠ k
    · rw [if_pos (by simpa using e), if_pos (by simpa using e)]; exact .cons h ih
    · rw [if_neg (by simpa using e), if_neg (by simpa using e)]; exact ih
theorem RpK.keys : ∀ {xs : List (Key × V)} {ds : List (Key × D)}, RpK K H xs ds → xs.map (·.1) = ds.map (·.1)
  | _, _, .nil => rfl
  | _, _, .cons _ r => by rw [List.map_cons, List.map_cons, RpK.keys r]
theorem RpK.get : ∀ {xs : List (Key × V)} {ds : List (Key × D)} {i : Nat} {p : Key × D}, RpK K H xs ds → ds[i]? = some p → ∃ v, xs[i]? = some (p.1, v) ∧ Rp K H v p.2
  | _, _, _, _, .nil, e => by simp at e
  | _, _, 0, _, .cons h r, e => by simp at e; subst e; exact ⟨_, rfl, h⟩
  | _, _, i + 1, d, .cons h r, e => by
    obtain ⟨v, e1, r1⟩ := RpK.get (i := i) (p := d) r (by simpa using e)
    exact ⟨v, by simpa using e1, r1⟩
end
theorem putD_len (kvs : List (Key × D)) (k : Key) (d : D) : (putD kvs k d).length ≤ kvs.length + 1 := by
  unfold putD
  split
  · rw [List.length_map]; exact Nat.le_succ _
  · rw [List.length_append]; exact Nat.le_refl _
/-- a dict at hand: data or owned -/
def dctK (w : D) (os : Os) (k : List (Key × D) → Prop) : Prop := match w with
  | .dK kvs => k kvs
  | .ref p => ∃ (n : Nat) (kvs : List (Key × D)), os[n]? = some (p, OO.dK kvs) ∧ k kvs
  | _ => False
def DctOf (os : Os) (w : D) (kvs : List (Key × D)) : Prop := match w with
  | .dK es => kvs = es
  | .ref p => ∃ n : Nat, os[n]? = some (p, OO.dK kvs)
  | _ => False
theorem dctK_of {w : D} {os : Os} {k : List (Key × D) → Prop} (h : dctK w os k) : ∃ kvs, DctOf os w kvs ∧ k kvs := by
  unfold dctK at h
  split at h
  · exact ⟨_, rfl, h⟩
  · obtain ⟨n, kvs, ho, q⟩ := h
    exact ⟨kvs, ⟨n, ho⟩, q⟩
  · exact h.elim
theorem dctOf_of {K : PySem.W.Frag} {F V0 H : Hp} {os : Os} {v : V} {w : D} {kvs : List (Key × D)} (r : Rel K F V0 os H) (rv : Rp K V0 v w) (h : DctOf os w kvs) : ∃ a vs, v = .ref a ∧ Rd H a (.dK vs) ∧ RpK K V0 vs kvs := by
  unfold DctOf at h
  split at h
  · subst h
    cases rv with
    | dK h1 h2 =>
      obtain ⟨o, h1⟩ := h1
      exact ⟨_, _, rfl, .inr ⟨o, r.vi _ _ h1⟩, h2⟩
  · obtain ⟨n, ho⟩ := h
    obtain rfl := rv.toRef
    obtain ⟨_, _, ho', h3, vs, rfl, h4⟩ := r.own _ (List.mem_of_getElem? ho)
    exact ⟨_, vs, rfl, .inl h3, h4⟩
  · exact h.elim
def keyK (y : D) (k : Key → Prop) : Prop := match y with
  | .int i => k (.inl i)
  | .str x => k (.inr x)
  | _ => False
theorem keyK_of {K : PySem.W.Frag} {V0 : Hp} {v : V} {y : D} {k : Key → Prop} (rv : Rp K V0 v y) (h : keyK y k) : ∃ ky, v = kV ky ∧ k ky := by
  unfold keyK at h
  split at h
  · cases rv; exact ⟨.inl _, rfl, h⟩
  · cases rv; exact ⟨.inr _, rfl, h⟩
  · exact h.elim
theorem dget_at {K : PySem.W.Frag} {F V0 H : Hp} {os : Os} {v u : V} {w y : D} {kk : List (Key × D) → Key → Prop} (r : Rel K F V0 os H) (rv : Rp K V0 v w) (ru : Rp K V0 u y) (h : dctK w os fun kvs => keyK y fun ky => kk kvs ky) :
    ∃ a vs kvs ky, v = .ref a ∧ RpK K V0 vs kvs ∧ DGet H a u (valV vs ky) ∧ Rd H a (.dK vs) ∧ u = kV ky ∧ DctOf os w kvs ∧ kk kvs ky := by
  obtain ⟨kvs, hd, h⟩ := dctK_of h
  obtain ⟨ky, rfl, h⟩ := keyK_of ru h
  obtain ⟨a, vs, rfl, h1, h2⟩ := dctOf_of r rv hd
  exact ⟨a, vs, kvs, ky, rfl, h2, .inl ⟨vs, ky, h1, rfl, rfl⟩, h1, rfl, hd, h⟩

section
variable {X : Cx} {kx : Kx} {env : DEnv} {os : Os} {k : D → Os → Prop} {pos pos' apos cpos tpos : Pos} {o e f i value : Expr} {to te tf ti tv : TrE} {lvl : Nat}
/-- d[k] -/
def oDGet (w y : D) (os : Os) (k : D → Os → Prop) : Prop := dctK w os fun kvs => keyK y fun ky => ∃ d, valD kvs ky = some d ∧ k d os
def eDGet (to ti : TrE) : TrE := fun kx env os k => to kx env os fun w os1 => ti kx env os1 fun y os2 => oDGet w y os2 k
theorem cm_dget (hr : Room lvl X.A) (ho : Cm X o to) (hi : Cm X i ti) (hs : NoSl i) : Cm X (.Subscript o i pos) (eDGet to ti) := by
  intro kx env os k q F V0 H σ Q W r sr ek c
  refine wE_of (pe_dget (hu_of hr) wE_pe wE_pe hs) ?_
  refine ho _ _ _ _ q F V0 H σ _ W r sr ek fun V1 os1 H1 v w s1 r1 rv q => ?_
  refine hi _ _ _ _ q F V1 H1 σ _ W r1 (sr.mono s1) (ek.mono s1) fun V2 os2 H2 u y s2 r2 ru q => ?_
  obtain ⟨a, vs, kvs, ky, rfl, rk, g, _, _, _, d, hd, q⟩ := dget_at r2 (rv.mono s2) ru q
  obtain ⟨v', e1, rv'⟩ := (rk.val (k := ky)).1 d hd
  rw [e1] at g
  exact ⟨a, v', rfl, g, c V2 os2 H2 v' d (s1.trans s2) r2 rv' q⟩
/-- k in d, k not in d -/
def oInD : TrO := fun y w os k => dctK w os fun kvs => keyK y fun ky => k (.bl (valD kvs ky).isSome) os
def oNotInD : TrO := fun y w os k => dctK w os fun kvs => keyK y fun ky => k (.bl (!(valD kvs ky).isSome)) os
theorem cmo_inD (hr : Room lvl X.A) : CmO X (compareOp .In) oInD := by
  intro y w os k h F V0 H v u Q r ry rw' c
  refine wO_mk fun pins s σ iv ov I r1 r2 => ?_
  obtain ⟨a, vs, kvs, ky, rfl, rk, g, _, _, _, q⟩ := dget_at r rw' ry h
  obtain rfl : ov = Value.ref a := r2
  refine d_in (hu_of hr) I g r1 fun s' I' => ⟨.bl _, H, I', rfl, ?_⟩
  rw [rk.isSome]
  exact c V0 os H _ _ (Same.refl _) r rwB q
theorem cmo_notInD (hr : Room lvl X.A) : CmO X (compareOp .NotIn) oNotInD := by
  intro y w os k h F V0 H v u Q r ry rw' c
  refine wO_mk fun pins s σ iv ov I r1 r2 => ?_
  obtain ⟨a, vs, kvs, ky, rfl, rk, g, _, _, _, q⟩ := dget_at r rw' ry h
  obtain rfl : ov = Value.ref a := r2
  refine d_notIn (hu_of hr) I g r1 fun s' I' => ⟨.bl _, H, I', rfl, ?_⟩
  rw [rk.isSome]
  exact c V0 os H _ _ (Same.refl _) r rwB q
/-- d.get(k), d.get(k, x) -/
def isDK (w : D) (os : Os) (k : Prop) : Prop := (∃ kvs, DctOf os w kvs) ∧ k
def oDGetO (w y z : D) (os : Os) (k : D → Os → Prop) : Prop := dctK w os fun kvs => keyK y fun ky => k ((valD kvs ky).getD z) os
def dctH (w : D) (os : Os) (k : Prop) : Prop := dctK w os fun _ => k
def eDGet1 (to te : TrE) : TrE := fun kx env os k => to kx env os fun w os1 => dctH w os1 (te kx env os1 fun y os2 => oDGetO w y .non os2 k)
def eDGet2 (to te tf : TrE) : TrE := fun kx env os k => to kx env os fun w os1 => dctH w os1 (te kx env os1 fun y os2 => tf kx env os2 fun z os3 => oDGetO w y z os3 k)
theorem isD_of {F V0 H : Hp} {v : V} {w : D} {q : Prop} (r : Rel X.K F V0 os H) (rv : Rp X.K V0 v w) (h : dctH w os q) : ∃ a, v = .ref a ∧ IsD H a ∧ q := by
  obtain ⟨kvs, hd, q⟩ := dctK_of h
  obtain ⟨a, vs, rfl, h1, h2⟩ := dctOf_of r rv hd
  exact ⟨a, rfl, .inl ⟨vs, h1⟩, q⟩
theorem getD_rp {V0 : Hp} {vs : List (Key × V)} {kvs : List (Key × D)} {ky : Key} {z : D} {zv : V} (rk : RpK X.K V0 vs kvs) (rz : Rp X.K V0 zv z) : Rp X.K V0 ((valV vs ky).getD zv) ((valD kvs ky).getD z) := by
  obtain ⟨h1, h2⟩ := rk.val (k := ky)
  cases e : valD kvs ky with
  | none => rw [h2 e]; exact rz
  | some d => obtain ⟨v, e1, rv⟩ := h1 d e; rw [e1]; exact rv
theorem cm_dget1 (hr : Room lvl X.A) (ho : Cm X o to) (he : Cm X e te) (m : M1 X o "get" apos e cpos) : Cm X (.Call (.Attribute o "get" apos) [e] [] cpos) (eDGet1 to te) := by
  intro kx env os k q F V0 H σ Q W r sr ek c
  refine wE_of (pe_dget1 (hu_of hr) wE_pe wE_pe m) ?_
  refine ho _ _ _ _ q F V0 H σ _ W r sr ek fun V1 os1 H1 v w s1 r1 rv q => ?_
  obtain ⟨a, rfl, hd, q⟩ := isD_of r1 rv q
  refine ⟨a, rfl, hd, ?_⟩
  refine he _ _ _ _ q F V1 H1 σ _ W r1 (sr.mono s1) (ek.mono s1) fun V2 os2 H2 u y s2 r2 ru q => ?_
  obtain ⟨a', vs, kvs, ky, e', rk, g, _, _, _, q⟩ := dget_at r2 (rv.mono s2) ru q
  cases e'
  exact ⟨_, g, c V2 os2 H2 _ _ (s1.trans s2) r2 (getD_rp rk .non) q⟩
theorem cm_dget2 (hr : Room lvl X.A) (ho : Cm X o to) (he : Cm X e te) (hf : Cm X f tf) (m : M2 X o "get" apos e f cpos) : Cm X (.Call (.Attribute o "get" apos) [e, f] [] cpos) (eDGet2 to te tf) := by
  intro kx env os k q F V0 H σ Q W r sr ek c
  refine wE_of (pe_dget2 (hu_of hr) wE_pe wE_pe wE_pe m) ?_
  refine ho _ _ _ _ q F V0 H σ _ W r sr ek fun V1 os1 H1 v w s1 r1 rv q => ?_
  obtain ⟨a, rfl, hd, q⟩ := isD_of r1 rv q
  refine ⟨a, rfl, hd, ?_⟩
  refine he _ _ _ _ q F V1 H1 σ _ W r1 (sr.mono s1) (ek.mono s1) fun V2 os2 H2 u y s2 r2 ru q => ?_
  refine hf _ _ _ _ q F V2 H2 σ _ W r2 ((sr.mono s1).mono s2) ((ek.mono s1).mono s2) fun V3 os3 H3 u3 z s3 r3 rz q => ?_
  obtain ⟨a', vs, kvs, ky, e', rk, g, _, _, _, q⟩ := dget_at r3 (rv.mono (s2.trans s3)) (ru.mono s3) q
  cases e'
  exact ⟨_, g, c V3 os3 H3 _ _ ((s1.trans s2).trans s3) r3 (getD_rp rk rz) q⟩
/-- an owned dict at hand, for a store -/
def dctO (w : D) (os : Os) (k : Nat → Addr → List (Key × D) → Prop) : Prop := match w with
  | .ref p => ∃ (n : Nat) (kvs : List (Key × D)), os[n]? = some (p, OO.dK kvs) ∧ k n p kvs
  | _ => False
theorem dctO_of {F V0 H : Hp} {v : V} {w : D} {kk : Nat → Addr → List (Key × D) → Prop} (r : Rel X.K F V0 os H) (rv : Rp X.K V0 v w) (h : dctO w os kk) : ∃ n p kvs vs, v = .ref p ∧ os[n]? = some (p, OO.dK kvs) ∧ H p = some (.dK vs) ∧ RpK X.K V0 vs kvs ∧ kk n p kvs := by
  unfold dctO at h
  split at h
  · obtain ⟨n, kvs, ho, q⟩ := h
    obtain rfl := rv.toRef
    obtain ⟨_, _, ho', h3, vs, rfl, h4⟩ := r.own _ (List.mem_of_getElem? ho)
    exact ⟨n, _, kvs, vs, rfl, ho, h3, h4, q⟩
  · exact h.elim
/-- d[k] = v -/
def sDPut (to ti tv : TrE) : TrS := fun N R env os => tv (R.xk env) env os fun z os1 => to (R.xk env) env os1 fun w os2 => ti (R.xk env) env os2 fun y os3 => dctO w os3 fun n p kvs => keyK y fun ky => kvs.length < sizeLine ∧ N env (os3.set n (p, .dK (putD kvs ky z)))
theorem c1_dput (hr : Room lvl X.A) (ho : Cm X o to) (hi : Cm X i ti) (hv : Cm X value tv) (hs : swapsWith value (some (.Subscript o i pos')) pos.line X.env = pure false) : CmS X (.Assign [.Subscript o i pos'] value pos) (sDPut to ti tv) := by
  intro N R env os q F V0 H σ D W r sr ek
  refine wS1_of (ps_dput (hu_of hr) wE_pe wE_pe wE_pe hs) ?_
  refine hv _ _ _ _ q F V0 H σ _ W r sr (ek.xk sr) fun V1 os1 H1 v z s1 r1 rz q => ?_
  refine ho _ _ _ _ q F V1 H1 σ _ W r1 (sr.mono s1) ((ek.xk sr).mono s1) fun V2 os2 H2 u w s2 r2 rw' q => ?_
  refine hi _ _ _ _ q F V2 H2 σ _ W r2 ((sr.mono s1).mono s2) (((ek.xk sr).mono s1).mono s2) fun V3 os3 H3 iv y s3 r3 ry q => ?_
  obtain ⟨n, p, kvs, vs, rfl, ho3, h3, rk, q⟩ := dctO_of r3 (rw'.mono s3) q
  obtain ⟨ky, rfl, hl, q⟩ := keyK_of ry q
  refine ⟨p, _, rfl, .inl ⟨vs, ky, h3, rfl, by rw [rk.length]; exact hl, rfl⟩, ?_⟩
  have s := (s1.trans s2).trans s3
  exact ek.nx V3 _ _ _ _ s (r3.mut ho3 (oo' := .dK (putD kvs ky z)) ⟨_, rfl, rk.put ky (rz.mono (s2.trans s3))⟩) (sr.mono s) q
/-- del d[k] -/
def sDDel (to ti : TrE) : TrS := fun N R env os => to (R.xk env) env os fun w os2 => ti (R.xk env) env os2 fun y os3 => dctO w os3 fun n p kvs => keyK y fun ky => (valD kvs ky).isSome = true ∧ N env (os3.set n (p, .dK (delD kvs ky)))
theorem c1_ddel (ho : Cm X o to) (hi : Cm X i ti) : CmS X (.Delete [.Subscript o i tpos] pos) (sDDel to ti) := by
  intro N R env os q F V0 H σ D W r sr ek
  refine wS1_of (ps_ddel wE_pe wE_pe) ?_
  refine ho _ _ _ _ q F V0 H σ _ W r sr (ek.xk sr) fun V2 os2 H2 u w s2 r2 rw' q => ?_
  refine hi _ _ _ _ q F V2 H2 σ _ W r2 (sr.mono s2) ((ek.xk sr).mono s2) fun V3 os3 H3 iv y s3 r3 ry q => ?_
  obtain ⟨n, p, kvs, vs, rfl, ho3, h3, rk, q⟩ := dctO_of r3 (rw'.mono s3) q
  obtain ⟨ky, rfl, hl, q⟩ := keyK_of ry q
  refine ⟨p, vs, ky, rfl, h3, rfl, by rw [rk.isSome]; exact hl, ?_⟩
  have s := s2.trans s3
  exact ek.nx V3 _ _ _ _ s (r3.mut ho3 (oo' := .dK (delD kvs ky)) ⟨_, rfl, rk.del ky⟩) (sr.mono s) q
/-- {} -/
def eDNew : TrE := fun _ _ os k => ∀ p, k (.ref p) ((p, .dK []) :: os)
theorem cm_dnew : Cm X (.Dict [] [] pos) eDNew := by
  intro kx env os k q F V0 H σ Q W r sr ek c
  refine wE_of pe_dnewK fun p hp => ?_
  exact c V0 _ _ (.ref p) _ (Same.refl _) (r.addO hp (oo := .dK []) ⟨[], rfl, .nil⟩) (.ref p) (q p)
/-- an owned dict becomes data: it is locked -/
theorem _root_.EV.Rel.freezeD {K : PySem.W.Frag} {F V0 H : Hp} {os : Os} {n : Nat} {a : Addr} {kvs : List (Key × D)} (r : Rel K F V0 os H) (h : os[n]? = some (a, .dK kvs)) :
    ∃ vs, H a = some (.dK vs) ∧ ∀ od, ∃ V1, Same V0 V1 ∧ Rel K F V1 (os.eraseIdx n) (upd H a (.frz od (.dK vs))) ∧ Rp K V1 (.ref a) (.dK kvs) := by
  obtain ⟨h1, h2, ho, h3, vs, rfl, h4⟩ := r.own _ (List.mem_of_getElem? h)
  refine ⟨vs, h3, fun od => ?_⟩
  have sv : Same V0 (upd V0 a (.frz od (.dK vs))) := same_upd h2
  have mono4 : RpK K (upd V0 a (.frz od (.dK vs))) vs kvs := RpK.mono sv h4
  refine ⟨upd V0 a (.frz od (.dK vs)), sv, ⟨fun b u e => ?_, fun b u e => ?_, fun b u e => ?_, fun q hq => ?_, r.nd.sublist ((List.eraseIdx_sublist _ _).map _)⟩, .dK ⟨od, upd_same⟩ mono4⟩
  · rw [upd_ne (ne_of_none e h1)]; exact r.fr b u e
  · by_cases hb : b = a
    · subst hb; rw [upd_same] at e ⊢; exact e
    · rw [upd_ne hb] at e ⊢; exact r.vi b u e
  · rw [upd_ne (ne_of_none e h1)]; exact r.fv b u e
  · obtain ⟨j, hj⟩ := List.getElem?_of_mem hq
    obtain ⟨k1, k2, ho', k3, k4⟩ := r.own q ((List.eraseIdx_sublist _ _).subset hq)
    have ne : q.1 ≠ a := fun e => by
      have e1 : (os.map (·.1))[n]? = some a := by rw [List.getElem?_map, h]; rfl
      rw [List.getElem?_eraseIdx] at hj
      split at hj
      · have e2 : (os.map (·.1))[j]? = some a := by rw [List.getElem?_map, hj]; exact congrArg some e
        have := nd_ix r.nd e1 e2
        omega
      · have e2 : (os.map (·.1))[j + 1]? = some a := by rw [List.getElem?_map, hj]; exact congrArg some e
        have := nd_ix r.nd e1 e2
        omega
    exact ⟨k1, by rw [upd_ne ne]; exact k2, ho', by rw [upd_ne ne]; exact k3, k4.mono sv⟩
def frzD (w : D) (os : Os) (k : D → Os → Prop) : Prop := match w with
  | .ref a => ∃ (n : Nat) (kvs : List (Key × D)), os[n]? = some (a, OO.dK kvs) ∧ k (.dK kvs) (os.eraseIdx n)
  | w => k w os
def eFrzD (t : TrE) : TrE := fun kx env os k => t kx env os fun w os1 => frzD w os1 k
theorem wE_lock {σ : L2.St} {H : Hp} {Q : VK} (h : wE X e σ H fun v H' => Q v H' ∨ ∃ d u, H' d = some u ∧ Mut (some u) ∧ ∀ od, Q v (upd H' d (.frz od u))) : wE X e σ H Q := wE_mk fun pins s I =>
  wpAny_mono (wE_run h pins s I) (fun u s' hh => by
    obtain ⟨v, H', I', ru, q | ⟨d, u', hd, mu, q⟩⟩ := hh
    · exact ⟨v, H', I', ru, q⟩
    · obtain ⟨od, I2⟩ := I'.lock hd mu
      exact ⟨v, _, I2, ru, q od⟩) fun _ _ z => z
theorem cm_frzD (h : Cm X e te) : Cm X e (eFrzD te) := by
  intro kx env os k q F V0 H σ Q W r sr ek c
  refine wE_lock ?_
  refine h _ _ _ _ q F V0 H σ _ W r sr ek fun V1 os1 H1 v w s1 r1 rv q => ?_
  unfold frzD at q
  split at q
  · obtain ⟨n, kvs, ho, q⟩ := q
    obtain rfl := rv.toRef
    obtain ⟨vs, h3, fz⟩ := r1.freezeD ho
    refine .inr ⟨_, _, h3, True.intro, fun od => ?_⟩
    obtain ⟨V2, s2, r2, rp⟩ := fz od
    exact c V2 _ _ _ _ (s1.trans s2) r2 rp q
  · exact .inl (c V1 os1 H1 v w s1 r1 rv q)
/-- for k in d, d data -/
theorem gi_keys {V1 : Hp} {a : Addr} {od : Obj} {xs : List (Key × V)} {ds : List (Key × D)} (h : V1 a = some (.frz od (.dK xs))) (r : RpK X.K V1 xs ds) : GI X.K V1 (Itk a od xs) (ds.map fun kv => dOfK kv.1) none := by
  have hl := r.length
  refine ⟨fun i F V2 os H s2 r2 _ hi => ⟨(s2.trans r2.vi) _ _ h, by rw [List.length_map] at hi; omega⟩, fun i F V2 os H s2 r2 _ hi => ⟨(s2.trans r2.vi) _ _ h, by rw [List.length_map] at hi; omega⟩, fun i F V2 os H x H' w s2 r2 _ y e => ?_⟩
  obtain ⟨rfl, ky, v, y, rfl⟩ := y
  rw [List.getElem?_map] at e
  obtain ⟨p, e1, rfl⟩ := Option.map_eq_some_iff.mp e
  obtain ⟨v', e2, _⟩ := r.get e1
  rw [y] at e2
  cases e2
  exact ⟨V2, Same.refl _, r2, rp_ofK _⟩
def iDct (te : TrE) : TrI := fun kx env os ki => te kx env os fun w os1 => match w with
  | .dK kvs => ki (kvs.map fun kv => dOfK kv.1) none os1
  | _ => False
theorem ci_dct {tg : Expr} (h : Cm X e te) : CmI X tg e (iDct te) := by
  intro kx env os ki q F V0 H σ R W r sr ek c
  refine wPI_of (pi_keys wE_pe) ?_
  refine h _ _ _ _ q F V0 H σ _ W r sr ek fun V1 os1 H1 v w s1 r1 rv q => ?_
  split at q
  · cases rv with
    | dK h1 h2 =>
      obtain ⟨od, h1⟩ := h1
      exact ⟨_, od, rfl, .inl ⟨_, r1.vi _ _ h1, c V1 os1 H1 _ _ none s1 r1 (gi_keys h1 h2) q⟩⟩
  · exact q.elim
/-- len(d) -/
def cLenD : TrC := fun ws os k => match ws with
  | [w] => dctK w os fun kvs => k (.int kvs.length) os
  | _ => False
theorem cmc_lenD : CmC X (.builtin "len") cLenD := by
  intro ws os k h
  unfold cLenD at h
  split at h
  · intro F V0 H vs Q r rs c pins s σ us I rv
    obtain ⟨v, rfl, rw'⟩ := rs.one
    obtain ⟨kvs, hd, q⟩ := dctK_of h
    obtain ⟨a, xs, rfl, h1, h2⟩ := dctOf_of r rw' hd
    obtain ⟨u, rfl, ru⟩ := rv.one
    obtain rfl : u = Value.ref a := ru
    refine d_len I h1 fun t s' I' => ⟨.int xs.length, H, I', ⟨t, rfl⟩, ?_⟩
    rw [h2.length]
    exact c V0 os H _ _ (Same.refl _) r rwI q
  · exact h.elim
/-- dict(d): an owned copy -/
def cDictO : TrC := fun ws os k => match ws with
  | [w] => dctK w os fun kvs => ∀ p, k (.ref p) ((p, .dK kvs) :: os)
  | _ => False
theorem cmc_dictO : CmC X (.type "dict") cDictO := by
  intro ws os k h
  unfold cDictO at h
  split at h
  · refine JC.mk call_dictD fun F V0 H vs Q r rs c => ?_
    obtain ⟨v, rfl, rw'⟩ := rs.one
    obtain ⟨kvs, hd, q⟩ := dctK_of h
    obtain ⟨a, xs, rfl, h1, h2⟩ := dctOf_of r rw' hd
    exact ⟨a, xs, rfl, h1, fun p hp => c V0 _ _ (.ref p) (.ref p) (Same.refl _) (r.addO hp (oo := .dK kvs) ⟨xs, rfl, h2⟩) (.ref p) (q p)⟩
  · exact h.elim
/-- isinstance(x, T), x a dict -/
def cIsiD : TrC := fun ws os k => match ws with
  | [w, .ty m] => dctK w os fun _ => ∃ b, kitB "dict" m = some b ∧ k (.bl b) os
  | _ => False
theorem cmc_isiD : CmC X (.builtin "isinstance") cIsiD := by
  intro ws os k h
  unfold cIsiD at h
  split at h
  · rename_i w m
    refine JC.mk call_isi fun F V0 H vs Q r rs c => ?_
    obtain ⟨v, v2, rfl, rv, rv2⟩ := rs.two
    cases rv2
    obtain ⟨kvs, hd, b, hb, q⟩ := dctK_of h
    obtain ⟨a, xs, rfl, h1, h2⟩ := dctOf_of r rv hd
    have t : TyX X.K H (.ref a) (.type "dict") := by
      rcases h1 with h1 | ⟨o, h1⟩
      · exact .base (.dK h1)
      · exact .fDict h1
    exact ⟨_, .ty m, _, _, b, rfl, .ty m, t, kit_ty hb, c V0 os H _ _ (Same.refl _) r rwB q⟩
  · exact h.elim
/-- two dicts that hold the same (ints, texts, bools, None) -/
def eqDK (ks ls : List (Key × D)) : Prop := ks.length = ls.length ∧ ∀ p ∈ ks, valD ls p.1 = some p.2 ∧ isScal p.2 = true
theorem hits_D {V0 : Hp} {P : Program} {w : World} {A : Around} {s : Shared} {lv : List (Key × Value)} {xs ys : List (Key × V)} {ks ls : List (Key × D)} (ra : RpK X.K V0 xs ks) (rb : RpK X.K V0 ys ls)
    (h : ∀ p ∈ ks, valD ls p.1 = some p.2 ∧ isScal p.2 = true) : ∀ p ∈ xs, valV ys p.1 = some p.2 ∧ flatB p.2 = true := by
  intro p hp
  obtain ⟨i, hi⟩ := List.getElem?_of_mem hp
  have hl : i < ks.length := by rw [← ra.length]; exact (List.getElem?_eq_some_iff.mp hi).1
  obtain ⟨v, e1, rv⟩ := ra.get (List.getElem?_eq_getElem hl)
  rw [hi] at e1
  cases e1
  obtain ⟨h1, h2⟩ := h _ (List.getElem_mem hl)
  obtain ⟨v', e2, rv'⟩ := (rb.val (k := ks[i].1)).1 _ h1
  have ev := rp_scal h2 rv
  have ev' := rp_scal h2 rv'
  refine ⟨by rw [e2, ev, ev'], ?_⟩
  show flatB v = true
  rw [ev]
  cases hk : ks[i].2 <;> rw [hk] at h2 <;> first | rfl | cases h2
def oEqD : TrO := fun x y os k => dctK x os fun ks => dctK y os fun ls => eqDK ks ls ∧ k (.bl true) os
def oNeD : TrO := fun x y os k => dctK x os fun ks => dctK y os fun ls => eqDK ks ls ∧ k (.bl false) os
theorem cmo_eqD (hr : Room lvl X.A) : CmO X (compareOp .Eq) oEqD := by
  intro x y os k h F V0 H v u Q r rx ry c
  refine wO_mk fun pins s σ iv ov I r1 r2 => ?_
  obtain ⟨ks, hk, h⟩ := dctK_of h
  obtain ⟨ls, hl, ⟨hlen, hp⟩, q⟩ := dctK_of h
  obtain ⟨a, xs, rfl, ea, ra⟩ := dctOf_of r rx hk
  obtain ⟨b, ys, rfl, eb, rb⟩ := dctOf_of r ry hl
  obtain rfl : iv = Value.ref a := r1
  obtain rfl : ov = Value.ref b := r2
  obtain ⟨_, ya, va, ka, da⟩ := dk_rd I.hok ea
  obtain ⟨_, yb, vb, kb, db⟩ := dk_rd I.hok eb
  have hl2 : va.length = vb.length := by rw [← ka.length, ← kb.length, ra.length, rb.length]; exact hlen
  exact PySem.W.keq_eq (knd := mixKind X.prog X.w) (r := true) ya yb da db (Nat.lt_of_succ_lt (hu_of hr)) (fun _ => hits_all kb ka (hits_D (P := X.prog) (w := X.w) (A := X.A) (s := s) (lv := []) ra rb hp)) (fin_bl I (c V0 os H _ _ (Same.refl _) r rwB q) (by simp [hl2]))
theorem cmo_neD (hr : Room lvl X.A) : CmO X (compareOp .NotEq) oNeD := by
  intro x y os k h F V0 H v u Q r rx ry c
  refine wO_mk fun pins s σ iv ov I r1 r2 => ?_
  obtain ⟨ks, hk, h⟩ := dctK_of h
  obtain ⟨ls, hl, ⟨hlen, hp⟩, q⟩ := dctK_of h
  obtain ⟨a, xs, rfl, ea, ra⟩ := dctOf_of r rx hk
  obtain ⟨b, ys, rfl, eb, rb⟩ := dctOf_of r ry hl
  obtain rfl : iv = Value.ref a := r1
  obtain rfl : ov = Value.ref b := r2
  obtain ⟨_, ya, va, ka, da⟩ := dk_rd I.hok ea
  obtain ⟨_, yb, vb, kb, db⟩ := dk_rd I.hok eb
  have hl2 : va.length = vb.length := by rw [← ka.length, ← kb.length, ra.length, rb.length]; exact hlen
  exact PySem.W.keq_ne (knd := mixKind X.prog X.w) (r := true) ya yb da db (Nat.lt_of_succ_lt (hu_of hr)) (fun _ => hits_all kb ka (hits_D (P := X.prog) (w := X.w) (A := X.A) (s := s) (lv := []) ra rb hp)) (fin_bl I (c V0 os H _ _ (Same.refl _) r rwB q) (by simp [hl2]))
end
end EV

set_option Elab.async false
set_option linter.all false
set_option maxRecDepth 100000
/-! E10: dict comprehensions. -/
namespace EV
open PySem PySem.Spec PyProof.Rows L2
/-- the turns over ws, acc made so far -/
def dcW (b : TrB) (t : TrT) (tk tv : TrE) (env : DEnv) (k : List (Key × D) → Os → Prop) (gd : Gd) : List D → List (Key × D) → Os → Prop
  | [], acc, os => wkX os fun os => gK gd os (k acc os)
  | w :: ws, acc, os => wkX os fun os => gK gd os (b w env fun env1 => t kx0 env1 os fun bo os1 => (bo = true → tk kx0 env1 os1 fun y os2 => tv kx0 env1 os2 fun z os3 => keyK y fun ky => dcW b t tk tv env k gd ws (putD acc ky z) os3) ∧ (bo = false → dcW b t tk tv env k gd ws acc os1))
def dcK (k : D → Os → Prop) : List (Key × D) → Os → Prop := fun ds os => ∀ p, k (.ref p) ((p, .dK ds) :: os)
theorem tdc_of {X : Cx} {kx : Kx} {env : DEnv} {os : Os} {k : D → Os → Prop} {kxe vxe iter tg : Expr} {ifs : List Expr} {scope : Scope} {vs : List Nat} {g : TG} {bn : TrB} {tt : TrT} {tek tev : TrE} {ti : TrI}
    (hb : BindOk X.K vs g bn) (hi : CmI X tg iter ti) (ht : ∀ s H C cl fp, CmTs (Bk X scope s H C cl fp) ifs tt) (hek : ∀ s H C cl fp, Cm (Bk X scope s H C cl fp) kxe tek) (he : ∀ s H C cl fp, Cm (Bk X scope s H C cl fp) vxe tev)
    (h : ti kx env os fun ws gd os1 => ws.length ≤ sizeLine ∧ dcW bn tt tek tev (wipeE env vs) (dcK k) gd ws [] os1) {F V0 H : Hp} {σ : L2.St} {Q : VK} {W : WX} (r : Rel X.K F V0 os H) (sr : SR X.K V0 σ env) (ek : XkOk X F V0 σ kx W)
    (c : ∀ (V1 : Hp) (os1 : Os) (H1 : Hp) (v : V) (w : D), Same V0 V1 → Rel X.K F V1 os1 H1 → Rp X.K V1 v w → k w os1 → Q v H1) :
    tDc (wPI X tg iter) g (fun σ H Q => ∀ s0 H0 C cl fp, wTs (Bk X scope s0 H0 C cl fp) ifs σ H Q) (fun σ H Q => ∀ s0 H0 C cl fp, wE (Bk X scope s0 H0 C cl fp) kxe σ H Q) (fun σ H Q => ∀ s0 H0 C cl fp, wE (Bk X scope s0 H0 C cl fp) vxe σ H Q) vs σ H Q := by
  refine hi _ _ _ _ h F V0 H σ _ W r sr ek fun V1 os1 H1 J ws gd s1 r1 gi ⟨hz, q⟩ => ?_
  intro L hL
  have hFL := r1.fr.free hL
  have hVL := r1.vi.free hL
  -- the list in the frame
  have put : ∀ (acc : List (Key × V)) (V2 : Hp) (os2 : Os) (H2 : Hp), Rel X.K F V2 os2 H2 → H2 L = none → Rel X.K (upd F L (.dK acc)) V2 os2 (upd H2 L (.dK acc)) := by
    intro acc V2 os2 H2 r2 hn
    have f2 := r2.fr.free hn
    have v2 := r2.vi.free hn
    refine ⟨fun a o e => ?_, fun a o e => ?_, fun a o e => ?_, fun p hp => ?_, r2.nd⟩
    · by_cases ha : a = L
      · subst ha; rw [upd_same] at e ⊢; exact e
      · rw [upd_ne ha] at e ⊢; exact r2.fr a o e
    · rw [upd_ne (ne_of_none e v2)]
      exact r2.vi a o e
    · by_cases ha : a = L
      · subst ha; exact v2
      · rw [upd_ne ha] at e; exact r2.fv a o e
    · obtain ⟨h1, h2, ho, h3, h4⟩ := r2.own p hp
      have ne := ne_of_none h3 hn
      exact ⟨by rw [upd_ne ne]; exact h1, h2, ho, by rw [upd_ne ne]; exact h3, h4⟩
  have grow : ∀ (acc acc' : List (Key × V)) (V2 : Hp) (os2 : Os) (H2 : Hp), Rel X.K (upd F L (.dK acc)) V2 os2 H2 → Rel X.K (upd F L (.dK acc')) V2 os2 (upd H2 L (.dK acc')) := by
    intro acc acc' V2 os2 H2 r2
    have v2 : V2 L = none := r2.fv L _ upd_same
    refine ⟨fun a o e => ?_, fun a o e => ?_, fun a o e => ?_, fun p hp => ?_, r2.nd⟩
    · by_cases ha : a = L
      · subst ha; rw [upd_same] at e ⊢; exact e
      · rw [upd_ne ha] at e ⊢; exact r2.fr a o (by rw [upd_ne ha]; exact e)
    · rw [upd_ne (ne_of_none e v2)]
      exact r2.vi a o e
    · by_cases ha : a = L
      · subst ha; exact v2
      · rw [upd_ne ha] at e; exact r2.fv a o (by rw [upd_ne ha]; exact e)
    · obtain ⟨h1, h2, ho, h3, h4⟩ := r2.own p hp
      have ne : p.1 ≠ L := fun z => by rw [z, upd_same] at h1; cases h1
      exact ⟨by rw [upd_ne ne] at h1 ⊢; exact h1, h2, ho, by rw [upd_ne ne]; exact h3, h4⟩
  refine ⟨fun j m H2 => m = ws.length - j ∧ j ≤ ws.length ∧ ∃ (V2 : Hp) (os2 : Os) (av : List (Key × V)) (ad : List (Key × D)), Same V1 V2 ∧ Rel X.K (upd F L (.dK av)) V2 os2 H2 ∧ RpK X.K V2 av ad ∧ ad.length ≤ j ∧ dcW bn tt tek tev (wipeE env vs) (dcK k) gd (ws.drop j) ad os2,
    ⟨ws.length, rfl, Nat.zero_le _, V1, os1, [], [], Same.refl _, put [] V1 os1 H1 r1 hL, .nil, Nat.le_refl _, q⟩, ?_⟩
  rintro j m H2 ⟨rfl, hj, V2, os0, av, ad, s2, r0, ra2, hl2, q2⟩
  by_cases hlt : j < ws.length
  · rw [List.drop_eq_getElem_cons hlt] at q2
    obtain ⟨os2, hwk, q2⟩ := q2
    have r2 := r0.wk hwk
    obtain ⟨hG, q2⟩ := gK_ok q2
    refine .inr ⟨gi.go j (upd F L (.dK av)) V2 os2 H2 s2 r2 hG hlt, fun H3 => ∃ (V3 : Hp) (os3 : Os) (av3 : List (Key × V)) (ad3 : List (Key × D)), Same V1 V3 ∧ Rel X.K (upd F L (.dK av3)) V3 os3 H3 ∧ RpK X.K V3 av3 ad3 ∧ ad3.length ≤ j + 1 ∧ dcW bn tt tek tev (wipeE env vs) (dcK k) gd (ws.drop (j + 1)) ad3 os3,
      fun H3 q3 => ⟨ws.length - (j + 1), by omega, rfl, hlt, q3⟩, fun x' H' y => ?_⟩
    obtain ⟨V3, s3, r3, rw3⟩ := gi.yld j (upd F L (.dK av)) V2 os2 H2 x' H' ws[j] s2 r2 hG y (List.getElem?_eq_getElem hlt)
    refine hb (upd F L (.dK av)) V3 H' os2 σ _ x' ws[j] _ _ r3 rw3 ((sr_wipe (sr.mono s1) _).mono (s2.trans s3)) q2 fun σ2 env2 sr3 hw q2 => ⟨hw, fun s0 H0 C cl fp => ?_⟩
    refine ht s0 H0 C cl fp _ _ _ q2 (upd F L (.dK av)) V3 H' _ _ r3 sr3 fun V4 os4 H4 b s4 r4 q4 => ?_
    cases b with
    | false => exact iteF ⟨V4, os4, av, ad, (s2.trans s3).trans s4, r4, RpK.mono (s3.trans s4) ra2, Nat.le_succ_of_le hl2, q4.2 rfl⟩
    | true =>
      refine iteT fun s0 H0 C cl fp => ?_
      refine hek s0 H0 C cl fp _ _ _ _ (q4.1 rfl) (upd F L (.dK av)) V4 H4 _ _ _ r4 (sr3.mono s4) XkOk.none fun V5 os5 H5 y5 w5 s5 r5 rw5 q5 => ?_
      intro s0 H0 C cl fp
      refine he s0 H0 C cl fp _ _ _ _ q5 (upd F L (.dK av)) V5 H5 _ _ _ r5 ((sr3.mono s4).mono s5) XkOk.none fun V6 os6 H6 y6 w6 s6 r6 rw6 q6 => ?_
      obtain ⟨ky, rfl, q6⟩ := keyK_of rw5 q6
      have s36 := ((s3.trans s4).trans s5).trans s6
      have ra6 : RpK X.K V6 (putK av ky y6) (putD ad ky w6) := (RpK.mono s36 ra2).put ky rw6
      refine ⟨av, ky, rfl, r6.fr L _ upd_same, ?_, V6, os6, putK av ky y6, putD ad ky w6, s2.trans s36, grow av _ V6 os6 H6 r6, ra6, by have := putD_len ad ky w6; omega, q6⟩
      rw [ra2.length]
      omega
  · have e : j = ws.length := by omega
    subst e
    rw [List.drop_length] at q2
    obtain ⟨os2, hwk, q2⟩ := q2
    have r2 := r0.wk hwk
    obtain ⟨hG, q2⟩ := gK_ok q2
    refine .inl ⟨gi.stop _ (upd F L (.dK av)) V2 os2 H2 s2 r2 hG (Nat.le_refl _), ?_⟩
    have q2 : dcK k ad os2 := q2
    have v2 : V2 L = none := r2.fv L _ upd_same
    refine c V2 ((L, .dK ad) :: os2) H2 (.ref L) (.ref L) (s1.trans s2) ⟨fun a o e => r2.fr a o (by rw [upd_ne (ne_of_none e hFL)]; exact e), r2.vi, fun a o e => ?_, fun p hp => ?_, ?_⟩ (.ref L) (q2 L)
    · exact r2.fv a o (by rw [upd_ne (ne_of_none e hFL)]; exact e)
    · rcases List.mem_cons.mp hp with e | hp
      · subst e
        exact ⟨hFL, v2, _, r2.fr L _ upd_same, av, rfl, ra2⟩
      · obtain ⟨h1, h2, ho, h3, h4⟩ := r2.own p hp
        have ne : p.1 ≠ L := fun z => by rw [z, upd_same] at h1; cases h1
        exact ⟨by rw [upd_ne ne] at h1; exact h1, h2, ho, h3, h4⟩
    · rw [List.map_cons, List.nodup_cons]
      refine ⟨fun hm => ?_, r2.nd⟩
      obtain ⟨q, hq, e⟩ := List.mem_map.mp hm
      obtain ⟨h1, _⟩ := r2.own q hq
      have e' : q.1 = L := e
      rw [e', upd_same] at h1
      cases h1
@[irreducible] def dcX (b : TrB) (t : TrT) (tk tv : TrE) (env : DEnv) (k : List (Key × D) → Os → Prop) (gd : Gd) (ws : List D) (os : Os) : Prop := dcW b t tk tv env k gd ws [] os
theorem dcX_eq {b : TrB} {t : TrT} {tk tv : TrE} {env : DEnv} {k : List (Key × D) → Os → Prop} {gd : Gd} {ws : List D} {os : Os} : dcX b t tk tv env k gd ws os = dcW b t tk tv env k gd ws [] os := by unfold dcX; rfl
def eDc (vs : List Nat) (b : TrB) (ti : TrI) (tt : TrT) (tk tv : TrE) : TrE := fun kx env os k => ti kx env os fun ws gd os1 => ws.length ≤ sizeLine ∧ dcX b tt tk tv (wipeE env vs) (dcK k) gd ws os1
section
variable {X : Cx} {kxe vxe iter tge : Expr} {ifs : List Expr} {scope : Scope} {own : List (Str × Nat)} {pos : Pos} {g : TG} {bn : TrB} {tt : TrT} {tek tev : TrE} {ti : TrI}
theorem cm_dc (hc : X.calm = true) (hN : X.N.Nodup) (ok : BlkOk X.N X.env.scope scope own) (hb : BindOk X.K (own.map (·.2)) g bn)
    (hg : ∀ s H C cl fp, PG (Bk X scope s H C cl fp) tge g) (hi : CmI X tge iter ti) (ht : ∀ s H C cl fp, CmTs (Bk X scope s H C cl fp) ifs tt) (hek : ∀ s H C cl fp, Cm (Bk X scope s H C cl fp) kxe tek) (he : ∀ s H C cl fp, Cm (Bk X scope s H C cl fp) vxe tev)
    (hs : ∀ x, foldedSetIterable iter X.env x = pure x) : Cm X (.DictComp kxe vxe [⟨tge, iter, ifs, 0⟩] scope pos) (eDc (own.map (·.2)) bn ti tt tek tev) := by
  intro kx env os k h F V0 H σ Q W r sr ek c
  refine wE_of (pe_dc (X := X) (own := own) (wi := wPI X tge iter) (g := g) (tt := fun σ H Q => ∀ s0 H0 C cl fp, wTs (Bk X scope s0 H0 C cl fp) ifs σ H Q) (tk := fun σ H Q => ∀ s0 H0 C cl fp, wE (Bk X scope s0 H0 C cl fp) kxe σ H Q) (tv := fun σ H Q => ∀ s0 H0 C cl fp, wE (Bk X scope s0 H0 C cl fp) vxe σ H Q) hc hN wPI_pi ok
    hg (fun s0 H0 C cl fp => ⟨fun pins s σ H Q I q => wTs_pts.run pins s σ H Q I (q s0 H0 C cl fp)⟩) (fun s0 H0 C cl fp => ⟨fun pins s σ H Q I q => wE_pe.run pins s σ H Q I (q s0 H0 C cl fp)⟩) (fun s0 H0 C cl fp => ⟨fun pins s σ H Q I q => wE_pe.run pins s σ H Q I (q s0 H0 C cl fp)⟩) hs) ?_
  unfold eDc at h
  simp only [dcX_eq] at h
  exact tdc_of hb hi ht hek he h r sr ek c
end
theorem dcX_inv {b : TrB} {t : TrT} {tk tv : TrE} {env : DEnv} {k : List (Key × D) → Os → Prop} {gd : Gd} {ws : List D} {os : Os} (I : Nat → List (Key × D) → Os → Prop) (h0 : I 0 [] os)
    (hs : ∀ (j : Nat) (w : D) (acc : List (Key × D)) (os : Os) (N : List (Key × D) → Os → Prop), ws[j]? = some w → I j acc os → (∀ a o o2, WkO o o2 → I (j + 1) a o2 → N a o) →
      b w env fun env1 => t kx0 env1 os fun bo os1 => (bo = true → tk kx0 env1 os1 fun y os2 => tv kx0 env1 os2 fun z os3 => keyK y fun ky => N (putD acc ky z) os3) ∧ (bo = false → N acc os1))
    (hd : ∀ acc os, I ws.length acc os → k acc os) (hG : ∀ j acc os, I j acc os → gOk gd os) : dcX b t tk tv env k gd ws os := by
  rw [dcX_eq]
  have gen : ∀ (m j : Nat) (acc : List (Key × D)) (os os2 : Os), m = ws.length - j → j ≤ ws.length → WkO os os2 → I j acc os2 → dcW b t tk tv env k gd (ws.drop j) acc os := by
    intro m
    induction m with
    | zero =>
      intro j acc os os2 hm hj hw h
      have e : j = ws.length := by omega
      subst e
      rw [List.drop_length]
      exact ⟨os2, hw, gK_mk (hG _ acc os2 h) (hd acc os2 h)⟩
    | succ m ih =>
      intro j acc os os2 hm hj hw h
      have hlt : j < ws.length := by omega
      rw [List.drop_eq_getElem_cons hlt]
      exact ⟨os2, hw, gK_mk (hG j acc os2 h) (hs j ws[j] acc os2 (fun a o => dcW b t tk tv env k gd (ws.drop (j + 1)) a o) (List.getElem?_eq_getElem hlt) h fun a o o2 hw2 z => ih (j + 1) a o o2 (by omega) hlt hw2 z)⟩
  exact gen _ 0 [] os os rfl (Nat.zero_le _) (.refl _) h0
end EV

set_option Elab.async false
set_option linter.all false
set_option maxRecDepth 100000
/-! E11: more methods of lists. -/
namespace EV
open PySem PySem.Spec PyProof.Rows L2
theorem idx_ne : ∀ (ns : List Int) (i : Int) (m : Nat), m < ns.idxOf i → ns[m]? ≠ some i
  | [], i, m, h => by simp at h
  | a :: r, i, 0, h => by
    rw [List.idxOf_cons] at h
    intro e
    have e : a = i := by simpa using e
    rw [e] at h
    simp at h
  | a :: r, i, m + 1, h => by
    rw [List.idxOf_cons] at h
    rw [List.getElem?_cons_succ]
    by_cases e : a = i
    · rw [e] at h; simp at h
    · rw [show (a == i) = false from beq_eq_false_iff_ne.mpr e] at h
      exact idx_ne r i m (by simpa using h)
section
variable {X : Cx} {kx : Kx} {env : DEnv} {os : Os} {k : D → Os → Prop} {pos pos' apos cpos tpos : Pos} {o e f i value : Expr} {to te tf ti tv : TrE} {lvl : Nat}
/-- a list at hand, data or owned -/
def lstK (w : D) (os : Os) (k : List D → Prop) : Prop := match w with
  | .lst ds => k ds
  | .ref p => ∃ (n : Nat) (ws : List D), os[n]? = some (p, OO.lst ws) ∧ k ws
  | _ => False
theorem lstK_of {w : D} {os : Os} {kk : List D → Prop} (h : lstK w os kk) : ∃ ds, LstOf os w ds ∧ kk ds := by
  unfold lstK at h
  split at h
  · exact ⟨_, rfl, h⟩
  · obtain ⟨n, ws, ho, q⟩ := h
    exact ⟨ws, ⟨n, ho⟩, q⟩
  · exact h.elim
/-- its ints -/
def lstI (w : D) (os : Os) (k : List Int → Prop) : Prop := ∃ ns : List Int, LstOf os w (ns.map D.int) ∧ k ns
/-- xs.count(e): ints -/
def eLCnt (to te : TrE) : TrE := fun kx env os k => to kx env os fun w os1 => lstH w os1 (te kx env os1 fun y os2 => match y with
  | .int i => ∃ ns : List Int, LstOf os2 w (ns.map D.int) ∧ k (.int (ns.count i : Nat)) os2
  | _ => False)
where lstH (w : D) (os : Os) (k : Prop) : Prop := lstK w os fun _ => k
theorem tyL_of {F V0 H : Hp} {v : V} {w : D} {q : Prop} (r : Rel X.K F V0 os H) (rv : Rp X.K V0 v w) (h : lstK w os fun _ => q) : ∃ a, v = .ref a ∧ tyV X.K "list" (.ref a) H ∧ q := by
  obtain ⟨ds, hd, q⟩ := lstK_of h
  obtain ⟨a, vs, rfl, h1, h2⟩ := lstOf_of r rv hd
  exact ⟨a, rfl, .inl ⟨rfl, vs, h1⟩, q⟩
theorem cm_lcnt (h : Cm X o to) (h2 : Cm X e te) (hbase : attributeBase o "count" X.env (eval o X.env) = eval o X.env)
    (hfew : ((backTo cpos (starEach [e] X.env)).all (fun x => !x.1) && (backToKw cpos (keywordEach [] X.env)).all (fun x => x.1.isSome)
      && decide ([e].length + ([] : List Keyword).length + (if ([] : List Keyword).isEmpty then 0 else 1) < 30)) = true)
    (hline : (apos.endLine == cpos.line) = true) (hs : starEach [e] X.env = (false, eval e X.env) :: starEach [] X.env) :
    Cm X (.Call (.Attribute o "count" apos) [e] [] cpos) (eLCnt to te) := by
  intro kx env os k q F V0 H σ Q W r sr ek c
  refine wE_of (pe_bm PySem.F.plainAttrs_list PySem.F.slot_list_count PySem.F.type_list_count mt_lcount wE_pe (pa_cons wE_pe pa_nil hs) hbase hfew hline hs) ?_
  refine h _ _ _ _ q F V0 H σ _ W r sr ek fun V1 os1 H1 v w s1 r1 rv q => ?_
  obtain ⟨a, rfl, ty, q⟩ := tyL_of r1 rv q
  refine ⟨ty, ?_⟩
  refine h2 _ _ _ _ q F V1 H1 σ _ W r1 (sr.mono s1) (ek.mono s1) fun V2 os2 H2 u y s2 r2 ru q => ?_
  split at q
  · obtain ⟨ns, hl, q⟩ := q
    obtain ⟨a', vs, e', h3, h4⟩ := lstOf_of r2 (rv.mono s2) hl
    cases e'
    have e3 := rpA_int h4
    subst e3
    cases ru
    exact ⟨a, ns, _, rfl, rfl, h3, c V2 os2 H2 _ _ (s1.trans s2) r2 rwI q⟩
  · exact q.elim
/-- xs.index(e): ints -/
def eLIdx (to te : TrE) : TrE := fun kx env os k => to kx env os fun w os1 => eLCnt.lstH w os1 (te kx env os1 fun y os2 => match y with
  | .int i => ∃ ns : List Int, LstOf os2 w (ns.map D.int) ∧ i ∈ ns ∧ k (.int (ns.idxOf i : Nat)) os2
  | _ => False)
theorem cm_lidx (h : Cm X o to) (h2 : Cm X e te) (hbase : attributeBase o "index" X.env (eval o X.env) = eval o X.env)
    (hfew : ((backTo cpos (starEach [e] X.env)).all (fun x => !x.1) && (backToKw cpos (keywordEach [] X.env)).all (fun x => x.1.isSome)
      && decide ([e].length + ([] : List Keyword).length + (if ([] : List Keyword).isEmpty then 0 else 1) < 30)) = true)
    (hline : (apos.endLine == cpos.line) = true) (hs : starEach [e] X.env = (false, eval e X.env) :: starEach [] X.env) :
    Cm X (.Call (.Attribute o "index" apos) [e] [] cpos) (eLIdx to te) := by
  intro kx env os k q F V0 H σ Q W r sr ek c
  refine wE_of (pe_bm PySem.F.plainAttrs_list PySem.F.slot_list_index PySem.F.type_list_index mt_index wE_pe (pa_cons wE_pe pa_nil hs) hbase hfew hline hs) ?_
  refine h _ _ _ _ q F V0 H σ _ W r sr ek fun V1 os1 H1 v w s1 r1 rv q => ?_
  obtain ⟨a, rfl, ty, q⟩ := tyL_of r1 rv q
  refine ⟨ty, ?_⟩
  refine h2 _ _ _ _ q F V1 H1 σ _ W r1 (sr.mono s1) (ek.mono s1) fun V2 os2 H2 u y s2 r2 ru q => ?_
  split at q
  · rename_i i
    obtain ⟨ns, hl, hi, q⟩ := q
    obtain ⟨a', vs, e', h3, h4⟩ := lstOf_of r2 (rv.mono s2) hl
    cases e'
    have e3 := rpA_int h4
    subst e3
    cases ru
    have hj := List.idxOf_lt_length_iff.mpr hi
    refine ⟨a, _, .int i, ns.idxOf i, .int i, rfl, rfl, h3, rfl, List.all_eq_true.mpr fun x hx => ?_, ?_, ?_, fun m z' hm hz => ?_, c V2 os2 H2 _ _ (s1.trans s2) r2 rwI q⟩
    · obtain ⟨n, _, rfl⟩ := List.mem_map.mp hx; rfl
    · rw [List.getElem?_map, List.getElem?_eq_getElem hj, List.getElem_idxOf hj]; rfl
    · simp [eqV]
    · rw [List.getElem?_map] at hz
      obtain ⟨n, hn, rfl⟩ := Option.map_eq_some_iff.mp hz
      have ne : n ≠ i := fun e => idx_ne ns i m hm (by rw [hn, e])
      simpa [eqV] using ne
  · exact q.elim
/-- a, b = x, y: plain local names, stored from the right -/
def sPar (i j : Nat) (tl : TrA) : TrS := fun N R env os => tl (R.xk env) env os fun ws os1 => match ws with
  | [v, w] => N (setE (setE env i (some v)) j (some w)) os1
  | _ => False
theorem c1_par {i j : Nat} {x y : Str} {a b : Expr} {tl : TrA} {px py pt : Pos} {kt k2 pt2} (hc : X.calm = true) (hN : X.N.Nodup) (hi : X.N[i]? = some x) (hj : X.N[j]? = some y) (hij : i ≠ j)
    (hx : X.env.scope.names.lookup x = some .local) (hy : X.env.scope.names.lookup y = some .local) (ha : CmA X [a, b] tl 2)
    (hw : swappedStores [.Tuple [.Name x px, .Name y py] kt pt] (.Tuple [a, b] k2 pt2) X.env = pure (some [x, y]))
    (hs : swapsWithSole [.Tuple [.Name x px, .Name y py] kt pt] (.Tuple [a, b] k2 pt2) pos.line X.env = pure false) : CmS X (.Assign [.Tuple [.Name x px, .Name y py] kt pt] (.Tuple [a, b] k2 pt2) pos) (sPar i j tl) := by
  intro N R env os q F V0 H σ D W r sr ek
  refine wS1_of (ps_par hc hN hi hj hij hx hy wA_pa hw hs) ?_
  refine ha.2 _ _ _ _ q F V0 H σ _ W r sr (ek.xk sr) fun V1 os1 H1 vs ws s1 r1 rs ⟨_, q⟩ => ?_
  split at q
  · obtain ⟨v, w, rfl, rv, rw'⟩ := rs.two
    exact ⟨v, w, rfl, ek.nx V1 os1 H1 _ _ s1 r1 (sr_setE (sr_setE (sr.mono s1) rv i) rw' j) q⟩
  · exact q.elim
/-- xs.extend(ys) -/
def eExt (to te : TrE) : TrE := fun kx env os k => to kx env os fun w os1 => onL w os1 fun p => te kx env os1 fun y os2 => ∃ (m : Nat) (us ds : List D), os2[m]? = some (p, .lst us) ∧ LstOf os2 y ds ∧ us.length + ds.length ≤ sizeLine ∧ k .non (os2.set m (p, .lst (us ++ ds)))
end
end EV

set_option Elab.async false
set_option linter.all false
set_option maxRecDepth 100000
/-! E12: exceptions of own classes: made, raised, caught. -/
namespace EV
open PySem PySem.Spec PyProof.Rows L2
/-- an own class that has ValueError's __init__ -/
structure InhC (K : PySem.W.Frag) (C : Addr) : Prop where
  rd : PySem.W.readsIn K C (.type "type") = true
  tyC : PySem.W.typeIn K (.ref C) = some (.type "type")
  ga : PySem.W.specialIn K (.ref C) "__getattribute__" = some (some (.builtin "type.__getattribute__"))
  at_ : PySem.W.findCls K (.ref C) (.type "type") "__init__" = some (.val (.builtin "ValueError.__init__"))
section
variable {X : Cx} {o e : Expr} {es : List Expr} {to te : TE} {ta : TA} {f : Str} {p p' p1 p2 pos : Pos}
theorem pe_clsinit {pl : Sem Bool} {x : Str} {D : Addr} (hg : Gl X x) (hm : X.mg x = some (.ref D)) (hdb : (x == ("__debug__" : Str)) = false) (T : InhC X.K D) (ha : PA X (e :: es) ta)
    (hc : eval (.Call (.Attribute (.Name x p1) "__init__" p2) (e :: es) [] pos) X.env = (do
      let ov ← eval (.Name x p1) X.env
      standAt p2.atName
      let (f, first) ← holding [ov] (getMethod ov "__init__" pl)
      callWith pos f first (backTo pos (starEach (e :: es) X.env)) (backToKw pos (keywordEach [] X.env))) := by rfl)
    (he : starEach (e :: es) X.env = (false, eval e X.env) :: starEach es X.env := by rfl) (hpl : (backTo pos (starEach es X.env)).any (·.1) = false := by rfl) :
    PE X (.Call (.Attribute (.Name x p1) "__init__" p2) (e :: es) [] pos) (tVeI X.K ta) := by
  refine ⟨fun pins s σ H Q I h => ?_⟩
  obtain ⟨m, fr⟩ := I.fr
  refine PySem.W.methodCall_KW (ld_glob I hg hm (PySem.W.method_of_cls fr I.ok.mod.kin T.ga (PySem.W.cls_val fr I.ok.mod.kin T.tyC T.rd T.at_ (by decide +kernel) ?_)) hdb) hc
  show wpAny _ _ (callWith pos (.builtin "ValueError.__init__") [] (backTo pos (starEach (e :: es) X.env)) []) _ X.xe _
  refine PyProof.Rows.callWith_method1 (thn (ha.run pos pins _ σ H _ (I.tok _) h) fun us s1 hh => ?_) he hpl
  obtain ⟨vs, H1, I1, r1, a, C, ws, ev, hl, O, ea, q⟩ := hh
  subst ev
  cases r1 with
  | @cons _ u0 _ ur ra rr => cases (show u0 = Value.ref a from ra); exact oinit_ok O I1 ea (by have := Paired.length rr; have := sizeLine_eq; omega) fun s' J => ⟨.non, H1, J, rfl, q⟩
end
/-- what an own exception's __init__(self, x) does: D.__init__(self, ..); self.f = x -/
def spInit (K : PySem.W.Frag) (C : Addr) (fx : Str) : Sp := fun vs H Q _ => ∃ a v, vs = [.ref a, v] ∧ OexC K C ∧ PySem.W.findIn K (.ref C) fx = some none ∧ H a = some (exo a C none) ∧ ∀ d, H d = none → d ≠ a → Q .non (upd (upd H d (exd d [(fx, v)])) a (exo a C (some d)))
section
variable {P : Program} {w : World} {K : PySem.W.Frag} {mg : Str → Option Value} {base : Heap}
theorem okInit {x qual pn fx dn ms : Str} {st : Stmt} {f D C : Addr} {fd : FuncData} {p1 p2 p3 p4 p5 p6 q1 q2 q3 q4 : Pos} {j} (F : Fun K x qual st f fd) (sc : FnScope ["self", pn] ["self", pn] (defScope st))
    (hb : defBody st = [.Expr (.Call (.Attribute (.Name dn p1) "__init__" p2) [.Name "self" p3, .Constant (.str ms) j p4] [] p5) p6, .Assign [.Attribute (.Name "self" q1) fx q2] (.Name pn q3) q4])
    (gd : (defScope st).names.lookup dn = some .globalImplicit) (hm : mg dn = some (.ref D)) (hdb : (dn == ("__debug__" : Str)) = false) (T : InhC K D)
    (hcl : ∀ env : Env, ∃ pl : Sem Bool, eval (.Call (.Attribute (.Name dn p1) "__init__" p2) [.Name "self" p3, .Constant (.str ms) j p4] [] p5) env = (do
      let ov ← eval (.Name dn p1) env
      standAt p2.atName
      let (f, first) ← holding [ov] (getMethod ov "__init__" pl)
      callWith p5 f first (backTo p5 (starEach [.Name "self" p3, .Constant (.str ms) j p4] env)) (backToKw p5 (keywordEach [] env))))
    (v1 : Vis (defScope st) "self") (v2 : Vis (defScope st) pn) (nd2 : (pn == ("__debug__" : Str)) = false) (nc2 : (pn == ("__classdict__" : Str)) = false) :
    FnOk P w K mg base (L2.CX P w) 1 f fd ["self", pn] (spInit K C fx) := by
  refine F.okX sc (fun vs H Q E h => by obtain ⟨a, v, rfl, _⟩ := h; rfl) fun cdv A outer s H vs Q E hr hsp => ?_
  obtain ⟨a, v, rfl, O, hno, ha, q⟩ := hsp
  rw [hb]
  obtain ⟨pl, hcl⟩ := hcl (cxOf (L2.CX P w) P w K mg base ["self", pn] qual (defScope st) f cdv A outer s H E).env
  refine ⟨_, pss_cons (ps_expr (pe_clsinit gd hm hdb T (pa_cons (pe_var (i := 0) rfl v1 (by decide +kernel) (by decide +kernel)) (pa_cons pe_str pa_nil rfl) rfl) hcl rfl rfl) rfl) (pss_one (ps_ost (pe_var (i := 0) rfl v1 (by decide +kernel) (by decide +kernel)) (pe_var (i := 1) rfl v2 nd2 nc2) rfl)), ?_⟩
  refine ⟨.ref a, rfl, ?_⟩
  refine ⟨a, C, [.str ms], rfl, (by show 1 ≤ 1000; decide), O, ha, ?_⟩
  refine ⟨v, rfl, .ref a, rfl, a, C, rfl, O, hno, .inl ⟨ha, fun d hd hda => ?_⟩⟩
  exact q d hd hda
/-- an own exception's class, by its name -/
structure CalE (P : Program) (w : World) (K : PySem.W.Frag) (mg : Str → Option Value) (base : Heap) (x : Str) (C : Addr) (fn : Nat) : Prop where
  ex : ∃ (fI : Addr) (fd : FuncData) (ps : List Str), FnOk P w K mg base (L2.CX P w) 1 fI fd ps (spInit K C (nm fn)) ∧ Binds K fd ps [] ∧ PySem.W.findIn K (.ref C) "__init__" = some (some (.ref fI)) ∧ PySem.W.typeIn K (.ref fI) = some (.type "function") ∧ mg x = some (.ref C)
  ox : OexC K C
  no : PySem.W.findIn K (.ref C) (nm fn) = some none
end
/-- raise C(e) -/
def sRz (C : Addr) (fn : Nat) (te : TrE) : TrS := fun N R env os => te (R.xk env) env os fun w os1 => R.ex ⟨C, [(fn, w)]⟩ env os1
theorem c1_rz {X : Cx} {C : Addr} {fn : Nat} {x : Str} {e : Expr} {te : TrE} {p pos pos2 : Pos} (hc : X.calm = true) (CE : CalE X.prog X.w X.K X.mg X.base x C fn) (hr : Room 2 X.A) (hg : Gl X x) (h : Cm X e te) (hdb : (x == ("__debug__" : Str)) = false)
    (he : starEach [e] X.env = (false, eval e X.env) :: starEach [] X.env) (hpl : (backTo pos (starEach [] X.env)).any (·.1) = false) : CmS X (.Raise (some (.Call (.Name x p) [e] [] pos)) none pos2) (sRz C fn te) := by
  obtain ⟨⟨fI, fd, ps, G, hb, hi, ht, hm⟩, O, hno⟩ := CE
  intro N R env os q F V0 H σ D W r sr ek
  refine wS1_of (ps_raise hc ek.tk (pmk_oex O hi ht G hr hb .nil passL hg hm (pa_cons wE_pe pa_nil he) hdb he hpl)) ?_
  refine h _ _ _ _ q F V0 H σ _ W r sr (ek.xk sr) fun V1 os1 H1 v w' s1 r1 rv q => ?_
  refine ⟨(by show 1 ≤ 1000; decide), fun a ha => ?_⟩
  refine ⟨a, v, rfl, O, hno, upd_same, fun d hd hda => ?_⟩
  have hd1 : H1 d = none := by rw [upd_ne hda] at hd; exact hd
  refine ⟨rfl, d, [(nm fn, v)], upd_same, by rw [upd_ne hda, upd_same], hd1, ?_⟩
  have eH : upd (del (upd (upd (upd H1 a (exo a C none)) d (exd d [(nm fn, v)])) a (exo a C (some d))) a) d (.xd [(nm fn, v)]) = upd H1 d (.xd [(nm fn, v)]) := by
    funext b
    by_cases hbd : b = d
    · subst hbd; rw [upd_same, upd_same]
    · rw [upd_ne hbd, upd_ne hbd]
      by_cases hba : b = a
      · subst hba; rw [del_same, ha]
      · rw [del_ne hba, upd_ne hba, upd_ne hbd, upd_ne hba]
  rw [eH]
  have sv : Same V1 (upd V1 d (.xd [(nm fn, v)])) := same_upd (r1.vi.free hd1)
  refine ek.ex (upd V1 d (.xd [(nm fn, v)])) os1 _ σ env (.ref C) (some d) ⟨C, [(fn, w')]⟩ (s1.trans sv) (r1.addV hd1 _) ((sr.mono s1).mono sv) ⟨rfl, d, _, rfl, upd_same, .cons ⟨rfl, rv.mono sv⟩ .nil⟩ q

/-! ### try, except C as n -/
def sTry (i : Nat) (C : Addr) (fn : Nat) (tb : TrS) (ts : Addr → Addr → TrS) : TrS := fun N R env os =>
  tb N { R with ex := fun x env1 os1 => match x.fs with
    | [(f, w)] => x.C = C ∧ f = fn ∧ ∀ a dx, ts a dx (fun e o => N (setE e i none) o) { rt := R.rt, bk := fun e o => R.bk (setE e i none) o, ct := fun e o => R.ct (setE e i none) o } (setE env1 i (some (.exn a dx C fn w))) os1
    | _ => False } env os
theorem c1_try {X : Cx} {i fn : Nat} {C : Addr} {x n : Str} {body suite : List Stmt} {b₀ : Stmt} {np pos pos' : Pos} {tb : TrS} {ts : Addr → Addr → TrS} (hs : X.stack = X.env :: X.outer) (hf : X.env.frame = some X.env.locals) (hN : X.N.Nodup) (hi : X.N[i]? = some n) (hln : X.env.kindOf n = some .local)
    (hg : Gl X x) (hdb : (x == ("__debug__" : Str)) = false) (hm : X.mg x = some (.ref C)) (hx : PySem.W.exmOne X.K (.ref C) (.ref C) = some true)
    (hb : ∀ (pn : List (Addr × Obj)) (xe : Value → Shared → Prop), PassesOwn (model X.prog X.w) X.A X.env xe → CmSs (X.tr pn xe) body tb)
    (hsu : ∀ (a : Addr) (oe : Obj) (dx : Addr) (pn : List (Addr × Obj)), Zc (.ref C) (some dx) oe → (∃ vs, oe.data = .fields vs) → CmSs (X.suite a ((a, oe) :: pn)) (b₀ :: suite) (ts a dx)) :
    CmS X (.Try body [.ExceptHandler (some (.Name x np)) (some n) (b₀ :: suite) pos'] [] [] pos) (sTry i C fn tb ts) := by
  intro N R env os q F V0 H σ D W r sr ek
  refine wS1_of (ps_try_as (i := i) (tb := fun W D σ H => ∀ (pn : List (Addr × Obj)) (xe : Value → Shared → Prop), Takes (X.tr pn xe) W → PassesOwn (model X.prog X.w) X.A X.env xe → wSs (X.tr pn xe) body D σ H)
    (ts := fun a cls d D σ H => ∀ (oe : Obj) (pn : List (Addr × Obj)), Zc cls d oe → (∃ vs, oe.data = .fields vs) → wSs (X.suite a ((a, oe) :: pn)) (b₀ :: suite) D σ H)
    hs hf hN hi hln ⟨hg, hdb, .inl hm⟩ ek.tk (fun W pn xe tk po => ⟨fun pins s σ H D I q => wSs_pss.run pins s σ H D I (q pn xe tk po)⟩) (fun a oe cls d pn hz hf => ⟨fun pins s σ H D I q => wSs_pss.run pins s σ H D I (q oe pn hz hf)⟩)) ?_
  intro pn xe tk po
  refine hb pn xe po _ _ _ _ q F V0 H σ D _ r sr ⟨ek.nx, ek.rt, ek.bk, ek.ct, tk, fun V1 os1 H1 σ1 env1 cls d x s1 r1 sr1 exr qx => ?_⟩
  obtain ⟨ec, dx, vf, ed, ev, rf⟩ := exr
  have qx : (match x.fs with
    | [(f, w)] => x.C = C ∧ f = fn ∧ ∀ a dx, ts a dx (fun e o => N (setE e i none) o) { rt := R.rt, bk := fun e o => R.bk (setE e i none) o, ct := fun e o => R.ct (setE e i none) o } (setE env1 i (some (.exn a dx C fn w))) os1
    | _ => False) := qx
  split at qx
  · rename_i f w' hfs
    obtain ⟨eC, rfl, qx⟩ := qx
    rw [hfs] at rf
    cases rf with
    | @cons p _ ps _ hp rt =>
      cases rt
      obtain ⟨pn1, pv⟩ := p
      obtain ⟨e1, rv⟩ := hp
      have e1 : pn1 = nm f := e1
      subst e1
      rw [ec, ed, eC]
      refine ⟨true, hx, fun _ a ha oe pn2 hz hfl => ?_, fun z => nomatch z⟩
      refine hsu a oe dx pn2 hz hfl _ _ _ _ (qx a dx) F V1 H1 _ _ (fun _ _ _ _ => False) r1 (sr_setE sr1 (.exn ev rv) i) ⟨fun V2 o2 H2 σ2 e2 s2 r2 sr2 q2 => ?_, fun V2 o2 H2 v w s2 r2 rv2 q2 => ?_, fun V2 o2 H2 σ2 e2 s2 r2 sr2 q2 => ?_, fun V2 o2 H2 σ2 e2 s2 r2 sr2 q2 => ?_, takes0, fun _ _ _ _ _ _ _ _ _ _ _ _ z => z⟩
      · exact ek.nx V2 o2 H2 _ _ (s1.trans s2) r2 (set_none sr2 i) q2
      · exact ek.rt V2 o2 H2 v w (s1.trans s2) r2 rv2 q2
      · exact ek.bk V2 o2 H2 _ _ (s1.trans s2) r2 (set_none sr2 i) q2
      · exact ek.ct V2 o2 H2 _ _ (s1.trans s2) r2 (set_none sr2 i) q2
  · exact qx.elim
/-- n.f, in the suite -/
def eXf (a dx C : Addr) (fn i : Nat) : TrE := fun _ env os k => match getE env i with
  | some (.exn a' dx' C' f' w) => a' = a ∧ dx' = dx ∧ C' = C ∧ f' = fn ∧ k w os
  | _ => False
theorem cm_xf {X : Cx} {a dx C : Addr} {fn i : Nat} {oe : Obj} {pn : List (Addr × Obj)} {x : Str} {fx : Str} {p pos : Pos} (hfx : fx = nm fn) (T : XfC X.K C) (hno : PySem.W.findIn X.K (.ref C) fx = some none) (hz : Zc (.ref C) (some dx) oe) (hf : ∃ vs, oe.data = .fields vs)
    (hN : X.N[i]? = some x) (hv : Vis X.env.scope x) (hd : (x == ("__debug__" : Str)) = false) (hcd : (x == ("__classdict__" : Str)) = false) (hb : ∀ env, attributeBase (.Name x p) fx env (eval (.Name x p) env) = eval (.Name x p) env) :
    Cm (X.suite a ((a, oe) :: pn)) (.Attribute (.Name x p) fx pos) (eXf a dx C fn i) := by
  subst hfx
  intro kx env os k h F V0 H σ Q W r sr ek c
  unfold eXf at h
  split at h
  · rename_i a' dx' C' f' w he
    obtain ⟨rfl, rfl, rfl, rfl, q⟩ := h
    obtain ⟨v, e1, r1⟩ := sr.2 i _ (getE_eq _ _ _ he)
    cases r1 with
    | exn h1 h2 =>
      rename_i u
      refine wE_of (pe_xf T hno hz hf (pe_var (X := X.suite a' ((a', oe) :: pn)) hN hv hd hcd) (hb _)) ?_
      exact ⟨_, e1, rfl, rfl, _, _, u, rfl, r.vi _ _ h1, by simp [List.lookup], c V0 os H u w (Same.refl _) r h2 q⟩
  · exact h.elim
/-- isinstance(n, T), in the suite -/
def cIsE (a dx C : Addr) (fn : Nat) (dT : D) (b : Bool) : TrC := fun ws os k => match ws with
  | [.exn a' dx' C' f' _, t] => a' = a ∧ dx' = dx ∧ C' = C ∧ f' = fn ∧ t = dT ∧ k (.bl b) os
  | _ => False
theorem cmc_isE {X : Cx} {a dx C : Addr} {fn : Nat} {oe : Obj} {pn : List (Addr × Obj)} {dT : D} {cv : Value} {b : Bool} (T : ExcC X.K C) (hz : Zc (.ref C) (some dx) oe) (hf : ∃ vs, oe.data = .fields vs)
    (hT : (∃ t, dT = .ref t ∧ cv = .ref t) ∨ ∃ m, dT = .ty m ∧ cv = .type m) (hk : PySem.W.kitOne X.K (.ref C) cv = some b) : CmC (X.suite a ((a, oe) :: pn)) (.builtin "isinstance") (cIsE a dx C fn dT b) := by
  intro ws os k h
  unfold cIsE at h
  split at h
  · rename_i a' dx' C' f' w' t
    obtain ⟨rfl, rfl, rfl, rfl, rfl, q⟩ := h
    intro F V0 H vs Q r rs c pins s σ us I rv
    obtain ⟨v, v2, rfl, rx, rt⟩ := rs.two
    cases rx with
    | exn h1 h2 =>
      cases rv with
      | cons ru rv =>
        cases rv with
        | @cons _ u2 _ _ ru2 rv2 =>
        cases rv2
        cases ru
        have ec : u2 = cv := by
          rcases hT with ⟨t, rfl, rfl⟩ | ⟨m, rfl, rfl⟩
          · obtain rfl := rt.toRef; exact ru2
          · cases rt; exact ru2
        subst ec
        obtain ⟨hget, _⟩ := I.pin (a', oe) (List.mem_append.mpr (.inl List.mem_cons_self))
        obtain ⟨vs, hv⟩ := hf
        have hx : ObjOk X.prog X.w H s.heap dx' (.xd [(nm f', _)]) := I.hok dx' _ (r.vi _ _ h1)
        obtain ⟨mA, hns, _⟩ := hx
        obtain ⟨od, ho, _⟩ := lookIn_ns hns
        have J : PySem.W.InstAt s.heap a' oe C' (some od) := ⟨hget, hz.1, by unfold PySem.W.notCls; rw [hv] <;> rfl, by rw [hz.2]; exact ho⟩
        exact PySem.W.kia_one (PySem.W.kitx_exc (by obtain ⟨cd, hc, _⟩ := PySem.W.any_some T.hd; rw [hc]; rfl) T.hg T.hk T.hs T.ha T.hn T.ht T.hm) I.kIn J hk (fun z => nomatch z) fun tk => ⟨.bl b, H, I.kept (t' := tk) fun _ _ z => z, rfl, c V0 os H _ _ (Same.refl _) r rwB q⟩
  · exact h.elim
end EV

set_option Elab.async false
set_option linter.all false
set_option maxRecDepth 100000
/-! E13: enumerate over owned lists. -/
namespace EV
open PySem PySem.Spec PyProof.Rows L2
theorem gi_enum_own {K : PySem.W.Frag} {V1 : Hp} {p : Addr} {ds : List D} : GI K V1 (Ite K p) (enumW 0 ds) (some (p, ds)) := by
  have key : ∀ (F V2 : Hp) (os : Os) (H : Hp), Rel K F V2 os H → gOk (some (p, ds)) os → ∃ vs, SqL K H p vs ∧ RpA K V2 vs ds := fun F V2 os H r2 ⟨n, ho⟩ => by
    obtain ⟨_, _, ho', h3, vs, rfl, h4⟩ := r2.own _ (List.mem_of_getElem? ho)
    exact ⟨vs, SqL.of h3, h4⟩
  refine ⟨fun i F V2 os H s2 r2 g hi => ?_, fun i F V2 os H s2 r2 g hi => ?_, fun i F V2 os H x H' w s2 r2 g y e => ?_⟩
  · obtain ⟨vs, h, ra⟩ := key F V2 os H r2 g
    have hl := ra.length
    rw [enumW_len] at hi
    exact ⟨vs, vs[i]'(by omega), h, by simp [hl, hi]⟩
  · obtain ⟨vs, h, ra⟩ := key F V2 os H r2 g
    have hl := ra.length
    rw [enumW_len] at hi
    exact ⟨vs, h, by omega⟩
  · obtain ⟨vs, h, ra⟩ := key F V2 os H r2 g
    obtain ⟨T, v, rfl, hT, rfl, y⟩ := y
    have ex := y vs h
    obtain ⟨d, ed, rd⟩ := ra.getV ex
    obtain ⟨d', ed', rfl⟩ := enumW_get e
    rw [ed] at ed'; cases ed'
    obtain ⟨s3, r3, rp⟩ := rel_newT (vs := [.int (i : Nat), v]) (ds := [.int (i : Nat), d]) r2 hT (.cons (.int _) (.cons rd .nil))
    rw [Int.zero_add]
    exact ⟨_, s3, r3, rp⟩
/-- enumerate(a list), the list owned or data -/
def iEnO (te : TrE) : TrI := fun kx env os ki => te kx env os fun w os1 => match w with
  | .lst ds => ki (enumW 0 ds) none os1
  | .ref p => ∃ (n : Nat) (ws : List D), os1[n]? = some (p, OO.lst ws) ∧ ki (enumW 0 ws) (some (p, ws)) os1
  | _ => False
theorem ci_enO {X : Cx} {e : Expr} {te : TrE} {p pos : Pos} {elts : List Expr} {kk : Nat} {tpos : Pos} (hg : Gl X "enumerate") (hm : X.mg "enumerate" = none) (h : Cm X e te) (hs : starEach [e] X.env = [(false, eval e X.env)]) :
    CmI X (.Tuple elts kk tpos) (.Call (.Name "enumerate" p) [e] [] pos) (iEnO te) := by
  intro kx env os ki q F V0 H σ R W r sr ek c
  refine wPI_of (pi_enum hg hm (pa_cons wE_pe pa_nil hs) hs) ?_
  refine h _ _ _ _ q F V0 H σ _ W r sr ek fun V1 os1 H1 v w s1 r1 rv q => ?_
  split at q
  · obtain ⟨p, xs, rfl, h1, h2⟩ := rp_lst rv
    exact ⟨p, xs, rfl, r1.vi.seq h1, c V1 os1 H1 _ _ _ s1 r1 (gi_enum h1 h2) q⟩
  · obtain ⟨n, ws, ho, q⟩ := q
    obtain rfl := rv.toRef
    obtain ⟨_, _, ho', h3, vs, rfl, h4⟩ := r1.own _ (List.mem_of_getElem? ho)
    exact ⟨_, vs, rfl, SqL.of h3, c V1 os1 H1 _ _ _ s1 r1 gi_enum_own q⟩
  · exact q.elim
/-! ### tuples that are constants of the module -/
theorem rp_fix {K : PySem.W.Frag} {a : Addr} {xs : List V} {ds : List D} {od : Option Addr} {its : Array Value} {n : Nat} {sl : Array (Option Value)} (hl : K.lookup a = some ⟨.type "tuple", od, .seq its n, sl⟩) (hz : its.size ≤ sizeLine) (hv : Vals xs its.toList) (hr : ∀ V0 : Hp, RpA K V0 xs ds) :
    ∀ V0 : Hp, Rp K V0 (.ref a) (.tup ds) := fun V0 => .tup (.inr ⟨_, its, n, hl, rfl, rfl, hz, hv⟩) (hr V0)
theorem glb_tup {K : PySem.W.Frag} {mg : Str → Option Value} {x : Str} {a : Addr} {d : D} (h : mg x = some (.ref a)) (hr : ∀ V0 : Hp, Rp K V0 (.ref a) d) : Glb K mg x d := ⟨.ref a, _, h, rfl, hr⟩
end EV

set_option Elab.async false
set_option linter.all false
set_option maxRecDepth 100000
/-! E14: an instance == a number (its class has no __eq__ of its own). -/
namespace EV
open PySem PySem.Spec PyProof.Rows L2
section
variable {M : Model} {P : Program} {w : World} {A : Around} {E : Value → Shared → Prop} {s : Shared} {K : PySem.W.Frag} {o C dx : Addr} {oo : Obj} {od : Option Obj} {i : Int} {t : Tok}
theorem oi_same {R : Bool → Shared → Prop} (h : R false s) : wpAny M A (isSame (.ref o) (.int i t)) R E s :=
  wpAny_of_eq (rfl : isSame (.ref o) (.int i t) = pure false) h
theorem oi_entry {R : Fin → Shared → Prop} (h : R (.done (.ret .notImplemented)) s) : wpAny M A (Builtin.«object.__eq__» ⟨[.ref o, .int i t], []⟩) R E s := by
  unfold Builtin.«object.__eq__»
  repeat (first | with_reducible refine oi_same ?_ | wp_step)
  exact h
theorem oi_call {R : Value → Shared → Prop} (X : K.In s.heap) (I : PySem.W.InstAt s.heap o oo C od) (hm : PySem.W.mroIn K C (.type "object") = some true) (h : R .notImplemented s) :
    wpAny (model P w) A (call (.builtin "object.__eq__") [.ref o, .int i t]) R E s := by
  refine wpAny_call (codeAny_call_builtin F.cmp_object.eq.plain F.cmpEntry_eq ?_)
  exact PySem.W.check_slot F.cmpKind_eq F.cmpSplit_eq (I.type.andThen (PySem.W.looks_mroIn X hm)) (F.cmpArgs_eq _ _) (oi_entry h)
theorem oi_int (n : Int) (u : Tok) (a B d : Addr) :
    Meets (Builtin.«int.__eq__» ⟨[.int n u, .ref a], []⟩) (fun _ R z => z.heap.get? a = some (PySem.W.instObj B d) ∧ R (.ok (.ret .notImplemented)) z) :=
  .of_wp fun pr wd Ar R z h => by
    obtain ⟨hp, g, dr, tk, os⟩ := z
    obtain ⟨hl, h⟩ := h
    unfold PySem.W.instObj at hl
    wp_walk using wpAny_loadPart' hl, wpAny_load hl
    exact ⟨_, rfl, h⟩
theorem oi_sub : PySem.W.subIn K (.type "int") (.ref C) = some false := by
  have e : fastBuiltinMro "int" = some [.type "int", .type "object"] := by decide +kernel
  show (fastBuiltinMro "int").map (fun l => l.contains (.ref C)) = some false
  rw [e]
  first
    | rfl
    | simp
theorem oi_rc (hu : A.units < cLine) (X : K.In s.heap) (I : PySem.W.InstAt s.heap o (PySem.W.instObj C dx) C od) (hm : PySem.W.mroIn K C (.type "object") = some true)
    (hs : PySem.W.findIn K (.ref C) "__eq__" = some (some (.builtin "object.__eq__"))) {R : Value → Shared → Prop} (h : R (.bool false) s) : wpAny (model P w) A (richCompare .Eq (.ref o) (.int i t)) R E s := by
  have m1 : wpAny (model P w) A (tryCompare (.ref o) "__eq__" (.int i t)) (fun r z => r = none ∧ z = s) E s := by
    unfold tryCompare
    refine wpAny_bind (HN.ifBound_objEq X I hs (oi_call X I hm ?_))
    exact wpAny_pure ⟨rfl, rfl⟩
  have m2 : wpAny (model P w) A (tryCompare (.int i t) "__eq__" (.ref o)) (fun r z => r = none ∧ z = s) E s :=
    wpAny_tryCompare_declines (typeIs_int s i t) F.slot_int_eq_refl (call_meets F.slot_int_eq_refl (typeIs_int s i t) F.entry_int_eq (F.args_int_eq_2 _ _) (oi_int i t o C dx) ⟨I.at_, ⟨rfl, rfl, rfl⟩⟩)
  simp only [richCompare, cmpInfo_Eq, oneThing_ref]
  refine wpAny_holding (wpAny_bind (wpAny_cRoomFor hu ?_))
  refine wpAny_bind (I.type.here (wpAny_bind (wpAny_typeOf (typeIs_int s i t) ?_)))
  split
  · refine wpAny_bind ((PySem.W.looks_subIn X oi_sub).here ?_)
    simp only [Bool.false_eq_true, if_false, Bool.not_false, if_true]
    refine wpAny_bind (m := tryCompare (.ref o) _ (.int i t)) (wpAny_mono m1 (fun r s1 z => ?_) fun _ _ e => e)
    obtain ⟨rfl, rfl⟩ := z
    refine wpAny_bind (m := tryCompare (.int i t) _ (.ref o)) (wpAny_mono m2 (fun r s2 z => ?_) fun _ _ e => e)
    obtain ⟨rfl, rfl⟩ := z
    exact wpAny_bind (wpAny_rule (wpAny_bind (oi_same (wpAny_pure h))))
  · rename_i z
    exact absurd (by simp) z
end
/-! the answers of except and isinstance for own classes -/
theorem exm_self {K : PySem.W.Frag} {C : Addr} (be : PySem.W.subIn K (.ref C) (.type "BaseException") = some true) (iC : PySem.W.isClsIn K C = true) (tC : PySem.W.typeIn K (.ref C) = some (.type "type")) (sC : PySem.W.subIn K (.ref C) (.ref C) = some true) :
    PySem.W.exmOne K (.ref C) (.ref C) = some true := by
  unfold PySem.W.isClsIn at iC
  unfold PySem.W.exmOne PySem.W.kitCls
  simp only [be, iC, tC, sC]
  rfl
theorem kit_ref {K : PySem.W.Frag} {C D : Addr} (iD : PySem.W.isClsIn K D = true) (tD : PySem.W.typeIn K (.ref D) = some (.type "type")) (s : PySem.W.subIn K (.ref C) (.ref D) = some true) : PySem.W.kitOne K (.ref C) (.ref D) = some true := by
  unfold PySem.W.isClsIn at iD
  unfold PySem.W.kitOne PySem.W.kitCls
  simp only [iD, tD, s]
  split <;> rfl
theorem kit_typ {K : PySem.W.Frag} {C : Addr} {T : String} {b : Bool} (m : PySem.W.kitMeta T = true) (s : PySem.W.subIn K (.ref C) (.type T) = some b) : PySem.W.kitOne K (.ref C) (.type T) = some b := by
  unfold PySem.W.kitOne PySem.W.kitCls
  simp only [m, s]
  rfl
/-- a class without an __eq__ of its own -/
structure EqC (K : PySem.W.Frag) (C : Addr) : Prop where
  mo : PySem.W.mroIn K C (.type "object") = some true
  eq : PySem.W.findIn K (.ref C) "__eq__" = some (some (.builtin "object.__eq__"))
def rEqI (K : PySem.W.Frag) : R2 := fun x y H Q => ∃ a C dx fs i, x = .ref a ∧ y = .int i ∧ H a = some (.ins C dx fs) ∧ EqC K C ∧ Q (.bl false) H
theorem op_eqI {X : Cx} (hu : X.A.units < cLine) : OpR X (compareOp .Eq) (rEqI X.K) := by
  intro pins s σ H x y v u Q I rx ry h
  obtain ⟨a, C, dx, fs, i, rfl, rfl, ha, hE, q⟩ := h
  cases rx
  obtain ⟨t, rfl⟩ := ry
  obtain ⟨mA, O, _⟩ := ins_get I.hok ha
  obtain ⟨od, J, _⟩ := O.look
  exact oi_rc hu I.kIn J hE.mo hE.eq ⟨.bl false, H, I, rfl, q⟩
/-- x == i, where x may be an instance of the classes Cs -/
def oEqI (C : Addr) : TrO := fun x y os k => match x, y with
  | .ref a, .int _ => ∃ (n : Nat) (fs : List (Nat × D)), os[n]? = some (a, OO.ins C fs) ∧ k (.bl false) os
  | x, y => oEq x y os k
theorem cmo_eqI {lvl : Nat} {X : Cx} {C : Addr} (hr : Room lvl X.A) (hC : EqC X.K C) : CmO X (compareOp .Eq) (oEqI C) := by
  intro x y os k h
  unfold oEqI at h
  split at h
  · rename_i a i
    obtain ⟨n, fs, ho, q⟩ := h
    refine JO.mk (op_eqI (by have := hr.units; omega)) fun F V0 H v u Q r rx ry c => ?_
    obtain rfl := rx.toRef
    cases ry
    obtain ⟨_, _, ho', h3, dx, vf, rfl, _⟩ := r.own _ (List.mem_of_getElem? ho)
    exact ⟨a, C, dx, vf, i, rfl, rfl, h3, hC, c V0 os H _ _ (Same.refl _) r rwB q⟩
  · exact cmo_eq hr x y os k h
end EV

set_option Elab.async false
set_option linter.all false
set_option maxRecDepth 100000
/-! E15: calls with keywords. -/
namespace EV
open PySem PySem.Spec PyProof.Rows L2
/-- the weakest judgement of keywords -/
@[irreducible] def wK (X : Cx) (kws : List Keyword) : TA := fun σ H Q => ∀ (pos : Pos) (pins : List (Addr × Obj)) (s : Shared), Inv X pins σ H s → wpAny (model X.prog X.w) X.A (evalAll ((backToKw pos (keywordEach kws X.env)).map (·.2))) (AP X pins σ Q) X.xe s
theorem wK_pk {X : Cx} {kws : List Keyword} : PK X kws (wK X kws) := by unfold wK; exact ⟨fun pos pins s _ _ _ I h => h pos pins s I⟩
theorem wK_of {X : Cx} {kws : List Keyword} {t : TA} (h : PK X kws t) {σ : L2.St} {H : Hp} {Q : List V → Hp → Prop} (q : t σ H Q) : wK X kws σ H Q := by unfold wK; exact fun pos pins s I => h.run pos pins s σ H Q I q
def JK (X : Cx) (kx : Kx) (kws : List Keyword) (env : DEnv) (os : Os) (k : List D → Os → Prop) : Prop :=
  ∀ (F V0 H : Hp) (σ : L2.St) (Q : List V → Hp → Prop) (W : WX), Rel X.K F V0 os H → SR X.K V0 σ env → XkOk X F V0 σ kx W →
    (∀ (V1 : Hp) (os1 : Os) (H1 : Hp) (vs : List V) (ws : List D), Same V0 V1 → Rel X.K F V1 os1 H1 → RpA X.K V1 vs ws → k ws os1 → Q vs H1) → wK X kws σ H Q
def CmK (X : Cx) (kws : List Keyword) (t : TrA) (n : Nat) : Prop := ∀ kx env os k, t kx env os k → JK X kx kws env os fun ws os1 => ws.length = n ∧ k ws os1
section
variable {X : Cx} {e : Expr} {es : List Expr} {kws : List Keyword} {te : TrE} {tl tk : TrA} {n m : Nat} {nn : Option Str} {kpos p pos : Pos} {x : Str} {lvl : Nat} {T : FT} {C : Addr}
theorem ck_nil : CmK X [] aN 0 := fun kx env os kl q F V0 H σ Q W r sr ek c => wK_of pk_nil (c V0 os H [] [] (Same.refl _) r .nil ⟨rfl, q⟩)
theorem ck_cons (h : Cm X e te) (h2 : CmK X kws tk n) : CmK X (⟨nn, e, kpos⟩ :: kws) (aC te tk) (n + 1) := by
  intro kx env os kl q F V0 H σ Q W r sr ek c
  refine wK_of (pk_cons wE_pe wK_pk) ?_
  refine h _ _ _ _ q F V0 H σ _ W r sr ek fun V1 os1 H1 v w s1 r1 rv q => ?_
  exact h2 _ _ _ _ q F V1 H1 σ _ W r1 (sr.mono s1) (ek.mono s1) fun V2 os2 H2 vs ws s2 r2 rs ⟨hl, q2⟩ => c V2 os2 H2 (v :: vs) (w :: ws) (s1.trans s2) r2 (.cons (rv.mono s2) rs) ⟨congrArg (· + 1) hl, q2⟩
/-- a class by its name, made with keywords alone -/
structure CalKI (P : Program) (w : World) (K : PySem.W.Frag) (mg : Str → Option Value) (base : Heap) (lvl : Nat) (C : Addr) (x : Str) (n : Nat) (T : FT) (ks : List Str) (gD : List D → List D) : Prop where
  ex : ∃ (f : Addr) (fd : FuncData) (ps : List Str) (g : List Value → List Value → List Value) (gV : List V → List V → List V) (gT : List V → List V),
    FnOk P w K mg base (L2.CX P w) lvl f fd ps (spX K n T) ∧ Mk K C f ∧ KBn K fd ps 1 ks g gV ∧ mg x = some (.ref C) ∧ (∀ o zs, gV [o] zs = o :: gT zs) ∧
      (∀ (V0 : Hp) (zs : List V) (ws : List D), RpA K V0 zs ws → RpA K V0 (gT zs) (gD ws)) ∧ ∀ zs : List V, zs.length = ks.length → (gT zs).length + 1 = n
theorem run_makeKS {CX : CXT} {sp : Sp} {E : XK} {f : Addr} {fd : FuncData} {ps ks : List Str} {pins : List (Addr × Obj)} {σ : L2.St} {H : Hp} {s : Shared} {Q : VK} {g : List Value → List Value → List Value} {gV : List V → List V → List V} {ws : List Value} {zs : List V}
    (M : Mk X.K C f) (G : FnOk X.prog X.w X.K X.mg X.base CX lvl f fd ps sp) (hr : Room (lvl + 1) X.A) (hb : KBn X.K fd ps 1 ks g gV) (hx : PassesAt CX X σ E) (I : Inv X pins σ H s) (rz : Vals zs ws) (l2 : zs.length = ks.length)
    (h : ∀ x dx, H x = none → H dx = none → dx ≠ x → sp (gV [.ref x] zs) (upd (upd H dx (.own x)) x (.ins C dx [])) (fun v H2 => v = .non ∧ Q (.ref x) H2) E) :
    wpAny (model X.prog X.w) X.A (call (.ref C) [] (ks.zip ws)) (EP X pins σ Q) X.xe s := by
  have hq := h (s.heap.objs.size + 1) s.heap.objs.size (I.hok.fresh (Nat.le_add_right _ 1)) (I.hok.fresh (Nat.le_refl _)) (Nat.ne_of_lt (Nat.lt_add_one _))
  have I2 := Inv.made (C := C) I
  have r2 := hb.rel (vs := [V.ref (s.heap.objs.size + 1)]) (us := [Value.ref (s.heap.objs.size + 1)]) (.cons rfl .nil) rz
  have bd := hb.to _ [Value.ref (s.heap.objs.size + 1)] ws I2.kIn rfl (rz.length.symm.trans l2)
  refine wpAny_call (make_map (f := f) I.kIn M.makes M.init (beq_iff_eq.mp M.fn) (codeAny_mono (G.run _ X.stack _ _ ⟨[Value.ref (s.heap.objs.size + 1)], ks.zip ws⟩ _ _ _ E (hr.make C [] (ks.zip ws)) (I2.env0.make C [] (ks.zip ws)) bd r2 hq) fun r s' hq' => ?_))
  cases r with
  | error e => exact hx pins _ _ e s' I2 hq'
  | ok fl =>
    cases fl with
    | ret u =>
      obtain ⟨v, H', I3, rv, ev, q3⟩ := I2.after hq'
      subst ev
      exact ⟨rv, V.ref (s.heap.objs.size + 1), H', I3, rfl, q3⟩
    | next => exact hq'.elim
    | brk => exact hq'.elim
    | cont => exact hq'.elim
def eMakeK (C : Addr) (T : FT) (gD : List D → List D) (tk : TrA) : TrE := fun kx env os k => tk kx env os fun ws os1 => makeX T C (gD ws) os1 k kx
theorem cm_makeK {ks : List Str} {gD : List D → List D} (M : CalKI X.prog X.w X.K X.mg X.base lvl C x n T ks gD) (hr : Room (lvl + 1) X.A) (hg : Gl X x) (hk : CmK X kws tk ks.length) (hdb : (x == ("__debug__" : Str)) = false)
    (hall : (backToKw pos (keywordEach kws X.env)).all (·.1.isSome) = true) (hks : (backToKw pos (keywordEach kws X.env)).filterMap (·.1) = ks) (hpl : ((backTo pos (starEach [] X.env)).any (·.1) || (backToKw pos (keywordEach kws X.env)).any (·.1.isNone)) = false) :
    Cm X (.Call (.Name x p) [] kws pos) (eMakeK C T gD tk) := by
  obtain ⟨f, fd, ps, g, gV, gT, G, mk, hb, hm, h1, h2, h3⟩ := M.ex
  intro kx env os k h F V0 H σ Q W r sr ek c
  refine wE_mk fun pins s I => ?_
  refine wpAny_Call_Name_kw (ld_glob I hg hm ?_ hdb)
  refine PySem.W.callWith_KW0 (h₀ := X.base) I.ok.mod.kin mk.kp hall ?_ hpl
  refine thn (wK_pk.run pos pins s σ H (fun zs H1 => zs.length = ks.length ∧ ∀ x dx, H1 x = none → H1 dx = none → dx ≠ x → spX X.K n T (.ref x :: gT zs) (upd (upd H1 dx (.own x)) x (.ins C dx [])) (fun v H2 => v = .non ∧ Q (.ref x) H2) (WE W σ)) I ?_) fun ws s2 ⟨zs, H2, I2, rz, l2, q2⟩ => ⟨I2.kIn, ?_⟩
  · exact hk _ _ _ _ h F V0 H σ _ W r sr ek fun V1 os1 H1 vs ws s1 r1 rs ⟨hl, q⟩ => ⟨rs.length.trans hl, made_of r1 (h2 _ _ _ rs) (h3 _ (rs.length.trans hl)) q (ek.mono s1) fun V2 os2 H2 v w s2 r2 rv q2 => c V2 os2 H2 v w (s1.trans s2) r2 rv q2⟩
  · rw [hks]
    exact run_makeKS mk G hr hb (passAt ek.tk σ) I2 rz l2 fun x dx a b d => by rw [h1]; exact q2 x dx a b d
/-- a def by its name, called with n0 values and keywords -/
structure CalKX (P : Program) (w : World) (K : PySem.W.Frag) (mg : Str → Option Value) (base : Heap) (lvl : Nat) (x : Str) (n n0 : Nat) (T : FT) (ks : List Str) (gD : List D → List D → List D) : Prop where
  ex : ∃ (f : Addr) (fd : FuncData) (ps : List Str) (g : List Value → List Value → List Value) (gV : List V → List V → List V),
    FnOk P w K mg base (L2.CX P w) lvl f fd ps (spX K n T) ∧ mg x = some (.ref f) ∧ PySem.W.keepIn K (.ref f) = true ∧ KBn K fd ps n0 ks g gV ∧
      (∀ (V0 : Hp) (vs zs : List V) (us ws : List D), RpA K V0 vs us → RpA K V0 zs ws → RpA K V0 (gV vs zs) (gD us ws)) ∧ ∀ vs zs : List V, vs.length = n0 → zs.length = ks.length → (gV vs zs).length = n
theorem run_fnKS {CX : CXT} {sp : Sp} {E : XK} {f : Addr} {fd : FuncData} {ps ks : List Str} {pins : List (Addr × Obj)} {σ : L2.St} {H : Hp} {s : Shared} {Q : VK} {g : List Value → List Value → List Value} {gV : List V → List V → List V} {us ws : List Value} {vs zs : List V}
    (G : FnOk X.prog X.w X.K X.mg X.base CX lvl f fd ps sp) (hr : Room lvl X.A) (hb : KBn X.K fd ps n ks g gV) (hx : PassesAt CX X σ E) (I : Inv X pins σ H s) (rv : Vals vs us) (rz : Vals zs ws) (l1 : vs.length = n) (l2 : zs.length = ks.length) (h : sp (gV vs zs) H Q E) :
    wpAny (model X.prog X.w) X.A (call (.ref f) us (ks.zip ws)) (EP X pins σ Q) X.xe s := by
  have r2 := hb.rel rv rz
  have bd := hb.to s us ws I.kIn (rv.length.symm.trans l1) (rz.length.symm.trans l2)
  refine wpAny_call (codeAny_mono (G.run X.A X.stack s H ⟨us, ks.zip ws⟩ _ _ Q E hr I.env0 bd r2 h) fun r s' hq => ?_)
  cases r with
  | error e => exact hx pins H s e s' I hq
  | ok fl =>
    cases fl with
    | ret u => exact I.after hq
    | next => exact hq.elim
    | brk => exact hq.elim
    | cont => exact hq.elim
def eCallK (T : FT) (gD : List D → List D → List D) (tl tk : TrA) : TrE := fun kx env os k => tl kx env os fun us os1 => tk kx env os1 fun ws os2 => callX T (gD us ws) os2 k kx
theorem cm_callK {ks : List Str} {gD : List D → List D → List D} (CC : CalKX X.prog X.w X.K X.mg X.base lvl x n m T ks gD) (hr : Room lvl X.A) (hg : Gl X x) (ha : CmA X (e :: es) tl m) (hk : CmK X kws tk ks.length) (hdb : (x == ("__debug__" : Str)) = false)
    (hall : (backToKw pos (keywordEach kws X.env)).all (·.1.isSome) = true) (hks : (backToKw pos (keywordEach kws X.env)).filterMap (·.1) = ks) (he : starEach (e :: es) X.env = (false, eval e X.env) :: starEach es X.env)
    (hpl : ((backTo pos (starEach (e :: es) X.env)).any (·.1) || (backToKw pos (keywordEach kws X.env)).any (·.1.isNone)) = false) :
    Cm X (.Call (.Name x p) (e :: es) kws pos) (eCallK T gD tl tk) := by
  obtain ⟨f, fd, ps, g, gV, G, hm, hkp, hb, h2, h3⟩ := CC.ex
  intro kx env os k h F V0 H σ Q W r sr ek c
  refine wE_mk fun pins s I => ?_
  refine wpAny_Call_Name_kw (ld_glob I hg hm ?_ hdb)
  refine PySem.W.callWith_KW (h₀ := X.base) I.ok.mod.kin hkp hall (thn (wA_pa.run pos pins s σ H (fun vs H1 => wK X kws σ H1 fun zs H2 => vs.length = m ∧ zs.length = ks.length ∧ spX X.K n T (gV vs zs) H2 Q (WE W σ)) I ?_) fun us s1 ⟨vs, H1, I1, r1, q⟩ => ?_) hpl he
  · refine ha.2 _ _ _ _ h F V0 H σ _ W r sr ek fun V1 os1 H1 vs us s1 r1 rs ⟨hl, q⟩ => ?_
    refine hk _ _ _ _ q F V1 H1 σ _ W r1 (sr.mono s1) (ek.mono s1) fun V2 os2 H2 zs ws s2 r2 rz ⟨hl2, q⟩ => ?_
    have l1 := rs.length.trans hl
    have l2 := rz.length.trans hl2
    exact ⟨l1, l2, sp_of r2 (h2 _ _ _ _ _ (rs.mono s2) rz) (h3 _ _ l1 l2) q (ek.mono (s1.trans s2)) fun V3 os3 H3 v w s3 r3 rv q2 => c V3 os3 H3 v w ((s1.trans s2).trans s3) r3 rv q2⟩
  · refine thn (wK_pk.run pos pins s1 σ H1 _ I1 q) fun ws s2 ⟨zs, H2, I2, rz, l1, l2, q2⟩ => ⟨I2.kIn, ?_⟩
    rw [hks]
    exact run_fnKS G hr hb (passAt ek.tk σ) I2 r1 rz l1 l2 q2
end
/-! the parameters in their order: from the keywords' values (true), or a default (false) -/
def pick {α : Type} : List (Bool × Nat) → List α → List α → List α
  | [], _, _ => []
  | (true, i) :: r, ms, zs => zs[i]?.toList ++ pick r ms zs
  | (false, i) :: r, ms, zs => ms[i]?.toList ++ pick r ms zs
theorem paired_at {α β : Type} {R : α → β → Prop} : ∀ {xs : List α} {ys : List β} (i : Nat), Paired R xs ys → Paired R xs[i]?.toList ys[i]?.toList
  | _, _, _, .nil => by simp; exact .nil
  | _, _, 0, .cons h _ => .cons h .nil
  | _, _, i + 1, .cons _ r => by simp only [List.getElem?_cons_succ]; exact paired_at i r
theorem paired_app {α β : Type} {R : α → β → Prop} : ∀ {xs xs2 : List α} {ys ys2 : List β}, Paired R xs ys → Paired R xs2 ys2 → Paired R (xs ++ xs2) (ys ++ ys2)
  | _, _, _, _, .nil, h => h
  | _, _, _, _, .cons a r, h => .cons a (paired_app r h)
theorem paired_pick {α β : Type} {R : α → β → Prop} {ms zs : List α} {ns ws : List β} (h1 : Paired R ms ns) (h2 : Paired R zs ws) : ∀ idx : List (Bool × Nat), Paired R (pick idx ms zs) (pick idx ns ws)
  | [] => .nil
  | (true, i) :: r => paired_app (paired_at i h2) (paired_pick h1 h2 r)
  | (false, i) :: r => paired_app (paired_at i h1) (paired_pick h1 h2 r)
theorem rpA_at {K : PySem.W.Frag} {V0 : Hp} : ∀ {xs : List V} {ys : List D} (i : Nat), RpA K V0 xs ys → RpA K V0 xs[i]?.toList ys[i]?.toList
  | _, _, _, .nil => by simp; exact .nil
  | _, _, 0, .cons h _ => .cons h .nil
  | _, _, i + 1, .cons _ r => by simp only [List.getElem?_cons_succ]; exact rpA_at i r
theorem rpA_pick {K : PySem.W.Frag} {V0 : Hp} {ms zs : List V} {ns ws : List D} (h1 : RpA K V0 ms ns) (h2 : RpA K V0 zs ws) : ∀ idx : List (Bool × Nat), RpA K V0 (pick idx ms zs) (pick idx ns ws)
  | [] => .nil
  | (true, i) :: r => (rpA_at i h2).append (rpA_pick h1 h2 r)
  | (false, i) :: r => (rpA_at i h1).append (rpA_pick h1 h2 r)
def pickOk (a b : Nat) : List (Bool × Nat) → Bool
  | [] => true
  | (true, i) :: r => decide (i < a) && pickOk a b r
  | (false, i) :: r => decide (i < b) && pickOk a b r
theorem pick_len {α : Type} {ms zs : List α} : ∀ {idx : List (Bool × Nat)}, pickOk zs.length ms.length idx = true → (pick idx ms zs).length = idx.length
  | [], _ => rfl
  | (true, i) :: r, h => by
    rw [pickOk, Bool.and_eq_true, decide_eq_true_eq] at h
    rw [pick, List.getElem?_eq_getElem h.1, List.length_append, pick_len h.2]
    simp; omega
  | (false, i) :: r, h => by
    rw [pickOk, Bool.and_eq_true, decide_eq_true_eq] at h
    rw [pick, List.getElem?_eq_getElem h.1, List.length_append, pick_len h.2]
    simp; omega
theorem len_cons {α : Type} {l : List α} {n : Nat} (h : l.length = n + 1) : ∃ a r, l = a :: r ∧ r.length = n := by
  cases l with
  | nil => exact absurd h (by simp)
  | cons a r => exact ⟨a, r, rfl, by simpa using h⟩
section
variable {P : Program} {w : World} {K : PySem.W.Frag} {mg : Str → Option Value} {base : Heap} {lvl n n0 : Nat} {C f : Addr} {x : Str} {T : FT} {fd : FuncData} {ps ks : List Str} {idx : List (Bool × Nat)} {mV : List V} {mD : List D}
theorem calKI_of (G : FnOk P w K mg base (L2.CX P w) lvl f fd ps (spX K n T)) (M : Mk K C f) (hb : ∃ mv : List Value, KBn K fd ps 1 ks (fun us ws => us ++ pick idx mv ws) (fun vs zs => vs ++ pick idx mV zs)) (hm : mg x = some (.ref C))
    (hr : ∀ V0 : Hp, RpA K V0 mV mD) (hi : pickOk ks.length mV.length idx = true) (hn : idx.length + 1 = n) : CalKI P w K mg base lvl C x n T ks (fun ws => pick idx mD ws) := by
  obtain ⟨mv, hb⟩ := hb
  refine ⟨f, fd, ps, _, _, fun zs => pick idx mV zs, G, M, hb, hm, fun _ _ => rfl, fun V0 zs ws h => rpA_pick (hr V0) h idx, fun zs hz => ?_⟩
  rw [pick_len (by rw [hz]; exact hi), hn]
theorem calKX_of (G : FnOk P w K mg base (L2.CX P w) lvl f fd ps (spX K n T)) (hk : PySem.W.keepIn K (.ref f) = true) (hb : ∃ mv : List Value, KBn K fd ps n0 ks (fun us ws => us ++ pick idx mv ws) (fun vs zs => vs ++ pick idx mV zs)) (hm : mg x = some (.ref f))
    (hr : ∀ V0 : Hp, RpA K V0 mV mD) (hi : pickOk ks.length mV.length idx = true) (hn : n0 + idx.length = n) : CalKX P w K mg base lvl x n n0 T ks (fun us ws => us ++ pick idx mD ws) := by
  obtain ⟨mv, hb⟩ := hb
  refine ⟨f, fd, ps, _, _, G, hm, hk, hb, fun V0 vs zs us ws h1 h2 => h1.append (rpA_pick (hr V0) h2 idx), fun vs zs hv hz => ?_⟩
  rw [List.length_append, pick_len (by rw [hz]; exact hi), hv, hn]
end
end EV

set_option Elab.async false
set_option linter.all false
set_option maxRecDepth 100000
namespace EV
open PySem PySem.Spec PyProof.Rows L2
/-! keywords at any number: the binder's loops -/
theorem forIn_steps {α σ : Type} {f : α → σ → Sem (ForInStep σ)} (g : σ → α → σ) (P : List α → σ → Prop) (hs : ∀ a r s, P (a :: r) s → f a s = pure (.yield (g s a)) ∧ P r (g s a)) : ∀ (l : List α) (s : σ), P l s → forIn l s f = pure (l.foldl g s)
  | [], s, _ => rfl
  | a :: l, s, h => by
    obtain ⟨e, h2⟩ := hs a l s h
    rw [List.forIn_cons, e, pure_bind]
    exact forIn_steps g P hs l _ h2
theorem lk_none {k : Str} : ∀ {l : List (Str × Value)}, k ∉ l.map (·.1) → l.lookup k = none
  | [], _ => rfl
  | (a, b) :: l, h => by
    rw [List.map_cons, List.mem_cons, not_or] at h
    rw [List.lookup_cons, show (k == a) = false from by simpa using h.1]
    exact lk_none h.2
theorem lk_some {k : Str} : ∀ {l : List (Str × Value)}, k ∈ l.map (·.1) → (l.lookup k).isSome = true
  | [], h => by simp at h
  | (a, b) :: l, h => by
    rw [List.lookup_cons]
    by_cases e : k = a
    · rw [show (k == a) = true from by simpa using e]; rfl
    · rw [show (k == a) = false from by simpa using e]
      rw [List.map_cons, List.mem_cons] at h
      exact lk_some (h.resolve_left e)
theorem foldl_snoc {β : Type} : ∀ (l : List (Str × Value)) (s : List (Str × Value)) (e : β), l.foldl (fun (z : List (Str × Value) × β) x => (z.1 ++ [(x.1, x.2)], z.2)) (s, e) = (s ++ l, e)
  | [], s, e => by simp
  | x :: l, s, e => by
    rw [List.foldl_cons, foldl_snoc l]
    simp
def fillUp : List Str → List (Str × Value) → List (Str × Value) → List (Str × Value) → Prop
  | [], sl, [], sl2 => sl2 = sl
  | n :: r, sl, q, sl2 => if (sl.lookup n).isSome = true then fillUp r sl q sl2 else match q with
    | [] => False
    | (m, v) :: q => m = n ∧ fillUp r (sl ++ [(n, v)]) q sl2
  | [], _, _ :: _, _ => False
theorem chain_loop {α β : Type} {D : Addr} {R : α} {f : Str → List (Str × Value) × β → Sem (ForInStep (List (Str × Value) × β))} {k1 : Str → List (Str × Value) × β → Option Value → Sem (ForInStep (List (Str × Value) × β))} {cont : List (Str × Value) × β → Sem α} {sl2 : List (Str × Value)} {e : β}
    (hf : ∀ n s, f n s = if (s.1.lookup n).isNone = true then nsGet D n >>= k1 n s else pure (.yield s)) (hk : ∀ n s v, k1 n s (some v) = pure (.yield (s.1 ++ [(n, v)], s.2))) (hc : cont (sl2, e) = pure R) :
    ∀ (ko : List Str) (sl : List (Str × Value)) (q : List (Str × Value)), fillUp ko sl q sl2 → KwChain D q (forIn ko (sl, e) f >>= cont) R
  | [], sl, [], h => by
    have h : sl2 = sl := h
    subst h
    show (pure (sl2, e) >>= cont) = pure R
    rw [pure_bind]; exact hc
  | [], _, _ :: _, h => False.elim h
  | n :: r, sl, q, h => by
    rw [List.forIn_cons, hf]
    unfold fillUp at h
    cases hl : (sl.lookup n).isSome with
    | true =>
      rw [hl, if_pos rfl] at h
      rw [if_neg (by rw [Option.isNone_iff_eq_none]; intro z; rw [z] at hl; cases hl), pure_bind]
      exact chain_loop hf hk hc r sl q h
    | false =>
      rw [hl, if_neg Bool.false_ne_true] at h
      rw [if_pos (by rw [Option.isNone_iff_eq_none]; cases z : sl.lookup n with
        | none => rfl
        | some _ => rw [z] at hl; cases hl)]
      cases q with
      | nil => exact False.elim h
      | cons a q =>
        obtain ⟨m, v⟩ := a
        obtain ⟨rfl, h⟩ := h
        exact ⟨_, _, _, _, _, _, rfl, hk _ _ v, chain_loop hf hk hc r _ q h⟩
theorem bind_kw {fd : FuncData} {D : Addr} {ns ko : List Str} {kw q sl2 R : List (Str × Value)} {us : List Value} (h1 : fd.params.posonlyargs = []) (h2 : fd.params.args.map (·.arg) = ns) (h3 : fd.params.kwonlyargs.map (·.arg) = ko) (h4 : fd.params.vararg = none) (h5 : fd.params.kwarg = none) (h6 : fd.defaults = .none) (h7 : fd.kwdefaults = .ref D)
    (hu : us.length = ns.length) (hn : (ns ++ kw.map (·.1)).Nodup) (hm : ∀ p ∈ kw, ko.contains p.1 = true) (hq : fillUp ko (ns.zip us ++ kw) q sl2) (hR : (ns ++ ko).filterMap (fun n => (sl2.lookup n).map (n, ·)) = R) : KwChain D q (bindArgs fd ⟨us, kw⟩) R := by
  unfold bindArgs
  simp only [h1, h2, h3, h4, h5, h6, h7, List.map_nil, List.nil_append]
  rw [forIn_steps (fun z x => (z.1 ++ [(x.1, x.2)], z.2)) (fun l s => (∀ p ∈ l, ko.contains p.1 = true) ∧ (l.map (·.1)).Nodup ∧ ∀ p ∈ l, p.1 ∉ s.1.map (·.1))]
  · rw [foldl_snoc, pure_bind]
    show KwChain D q (do
      let z ← (pure none : Sem (Option (Array Value)))
      _) R
    rw [pure_bind]
    have e0 : ((none : Option (Array Value)).getD #[]).toList = [] := rfl
    simp only [e0, List.drop_nil, List.length_nil, Nat.sub_zero, List.take_length, List.drop_length, List.zip_nil_right, List.forIn_nil, pure_bind]
    rw [if_neg (by rw [hu]; simp)]
    have e1 : ns.filter (fun n => (List.lookup n (ns.zip us ++ kw)).isNone) = [] := by
      rw [List.filter_eq_nil_iff]
      intro n hn' z
      have hz : n ∈ (ns.zip us ++ kw).map (·.1) := by
        rw [List.map_append, List.map_fst_zip (by omega)]
        exact List.mem_append_left _ hn'
      have := lk_some hz
      rw [Option.isNone_iff_eq_none] at z
      rw [z] at this
      cases this
    rw [e1, if_neg (by simp)]
    refine chain_loop (sl2 := sl2) (e := []) (k1 := fun n s d => match d with
      | some v => pure (.yield (s.1 ++ [(n, v)], s.2))
      | none => pure (.yield (s.1, s.2 ++ [n]))) (fun n s => ?_) (fun n s v => rfl) ?_ ko _ q hq
    · rfl
    · dsimp only
      rw [if_neg (by simp), hR]
  · intro a r s ⟨c1, c2, c3⟩
    dsimp only
    rw [if_pos (by rw [c1 a (List.mem_cons_self ..)]; simp), if_neg (by rw [lk_none (c3 a (List.mem_cons_self ..))]; exact Bool.false_ne_true)]
    refine ⟨rfl, fun p hp => c1 p (List.mem_cons_of_mem _ hp), (List.nodup_cons.mp c2).2, fun p hp => ?_⟩
    rw [List.map_append, List.mem_append, not_or]
    refine ⟨c3 p (List.mem_cons_of_mem _ hp), ?_⟩
    intro z
    rw [List.map_cons, List.map_nil, List.mem_singleton] at z
    have z : p.1 = a.1 := z
    exact (List.nodup_cons.mp c2).1 (List.mem_map.mpr ⟨p, hp, z⟩)
  · obtain ⟨_, n2, n3⟩ := List.nodup_append.mp hn
    refine ⟨hm, n2, fun p hp z => ?_⟩
    rw [List.map_fst_zip (by omega)] at z
    exact n3 _ z _ (List.mem_map_of_mem hp) rfl
theorem fillUp_lack : ∀ (ko : List Str) (sl : List (Str × Value)) (mv : List Value), ko.Nodup → mv.length = (ko.filter fun n => !(sl.map (·.1)).contains n).length →
    fillUp ko sl ((ko.filter fun n => !(sl.map (·.1)).contains n).zip mv) (sl ++ (ko.filter fun n => !(sl.map (·.1)).contains n).zip mv)
  | [], sl, mv, _, _ => by simp [fillUp]
  | n :: r, sl, mv, hn, hm => by
    rw [List.nodup_cons] at hn
    unfold fillUp
    by_cases e : n ∈ sl.map (·.1)
    · rw [List.filter_cons_of_neg (by simpa using e)] at hm ⊢
      rw [if_pos (lk_some e)]
      exact fillUp_lack r sl mv hn.2 hm
    · rw [List.filter_cons_of_pos (by simpa using e)] at hm ⊢
      rw [lk_none e, if_neg (by exact Bool.false_ne_true)]
      cases mv with
      | nil => cases hm
      | cons v mv =>
        rw [List.zip_cons_cons]
        refine ⟨rfl, ?_⟩
        have ef : (r.filter fun n => !(sl.map (·.1)).contains n) = r.filter fun m => !((sl ++ [(n, v)]).map (·.1)).contains m := by
          refine List.filter_congr fun m hm' => ?_
          have hne : m ≠ n := fun z => hn.1 (z ▸ hm')
          simp [hne]
        have ih := fillUp_lack r (sl ++ [(n, v)]) mv hn.2 (by rw [← ef]; simpa using hm)
        rw [← ef, List.append_assoc, List.singleton_append] at ih
        exact ih
/-- the chain of a call with keywords, by closed facts about the names -/
theorem kw_chain {fd : FuncData} {D : Addr} {us ws mv : List Value} {R : List (Str × Value)} (ns ko ks lack : List Str) (h1 : fd.params.posonlyargs = []) (h2 : fd.params.args.map (·.arg) = ns) (h3 : fd.params.kwonlyargs.map (·.arg) = ko) (h4 : fd.params.vararg = none) (h5 : fd.params.kwarg = none) (h6 : fd.defaults = .none) (h7 : fd.kwdefaults = .ref D)
    (hu : us.length = ns.length) (hw : ws.length = ks.length) (hm : mv.length = lack.length) (hnd : (ns ++ ks).Nodup) (hc : ks.all ko.contains = true) (hl : (ko.filter fun n => !(ns ++ ks).contains n) = lack) (hko : ko.Nodup)
    (hR : (ns ++ ko).filterMap (fun n => (((ns.zip us ++ ks.zip ws) ++ lack.zip mv).lookup n).map (n, ·)) = R) : KwChain D (lack.zip mv) (bindArgs fd ⟨us, ks.zip ws⟩) R := by
  have ek : (ks.zip ws).map (·.1) = ks := List.map_fst_zip (by omega)
  have es : (ns.zip us ++ ks.zip ws).map (·.1) = ns ++ ks := by rw [List.map_append, ek, List.map_fst_zip (by omega)]
  refine bind_kw h1 h2 h3 h4 h5 h6 h7 hu (by rw [ek]; exact hnd) (fun p hp => ?_) ?_ hR
  · exact List.all_eq_true.mp hc p.1 (by rw [← ek]; exact List.mem_map_of_mem hp)
  · have h := fillUp_lack ko (ns.zip us ++ ks.zip ws) mv hko (by rw [es, hl]; exact hm)
    rw [es, hl] at h
    exact h
end EV

set_option Elab.async false
set_option linter.all false
set_option maxRecDepth 100000
/-! E17: enumerate over a tuple and a text, zip over tuples, for over a text, tuple(xs), index of texts. -/
namespace EV
open PySem PySem.Spec PyProof.Rows L2
/-! ### enumerate over anything that draws -/
/-- items told by yv, n of them, while C stands; each in a new pair -/
def Jen (n : Nat) (yv : Nat → V → Prop) (C : Hp → Prop) : It :=
  ⟨fun i H => i < n ∧ C H, fun i H v H' => ∃ T x, v = .ref T ∧ H T = none ∧ H' = upd H T (.tup [.int (i : Nat), x]) ∧ yv i x, fun i H => n ≤ i ∧ C H⟩
theorem turn_enumD {P : Program} {w : World} {K : PySem.W.Frag} {elts : List Expr} {kk : Nat} {tpos : Pos} {e it : Addr} {ty : String} {n : Nat} {yv : Nat → V → Prop} {C : Hp → Prop} {In : Nat → Heap → Prop} (hne : e ≠ it)
    (hobj : ∀ i h, In i h → ∃ o vs, h.get? it = some o ∧ o.cls = .type ty ∧ o.data = .fields vs)
    (hkp : ∀ i h h', In i h → (∀ o, h.get? it = some o → h'.get? it = some o) → In i h')
    (hd : ∀ (X : Cx), X.prog = P → X.w = w → X.K = K → X.calm = true → ∀ (pins : List (Addr × Obj)) (s : Shared) (σ : L2.St) (H : Hp) (i : Nat) (old : Value) (c : Int), Inv X pins σ H s → In i s.heap → IsEnum s.heap e it c old → C H →
      ∃ (fp : List Addr) (Pv : Nat → Value → Prop) (St : Nat → Heap → Prop), Draws P w X.A.in1 it fp n Pv St ∧ e ∉ fp ∧ St i s.heap ∧ (∀ j h, St j h → In j h) ∧ (i ≤ n) ∧ ∀ v, Pv i v → ∃ x, RelV x v ∧ yv i x) :
    Turn P w K (.Tuple elts kk tpos) (Jen n yv C) [e, it] e (fun i h => (∃ old, IsEnum h e it ((i : Nat) : Int) old) ∧ In i h) where
  mem := by simp
  obj := fun i h st b hb => by
    obtain ⟨⟨old, he⟩, hI⟩ := st
    obtain ⟨o, vs, ho, hc, hdd⟩ := hobj i h hI
    have e' : b = e ∨ b = it := by simpa using hb
    rcases e' with z | z
    · rw [z]; exact ⟨_, he, fun v q => nomatch q⟩
    · rw [z]; exact ⟨o, ho, fun v q => by rw [hdd] at q; cases q⟩
  keep := fun i h h' st k => let ⟨⟨old, he⟩, hi⟩ := st; ⟨⟨old, k e (by simp) _ he⟩, hkp i h h' hi fun o q => k it (by simp) o q⟩
  item := by
    intro X hP hw hK hc i pins s σ H E I hf st hg
    obtain ⟨hlt, hC⟩ := hg
    obtain ⟨⟨old, he⟩, hit⟩ := st
    obtain ⟨fp, Pv, St, D, hef, hst, hin, _, hyv⟩ := hd X hP hw hK hc pins s σ H i old _ I hit he hC
    subst hP hw hK
    obtain ⟨oi, vi, hoi, _, _⟩ := hobj i _ hit
    have hel : e < s.heap.objs.size := Heap.lt_size he
    have hil : it < s.heap.objs.size := Heap.lt_size hoi
    refine wpAny_pyNext_enum_itemD D he hst hlt hne hef fun x' h' tk hpx ho hst' hT hsz hk => ?_
    obtain ⟨x, rx, hy⟩ := hyv x' hpx
    refine ⟨_, rfl, wpAny_letOwnedTupleGo_enum (s := { s with heap := h', toks := tk + 1 }) ho fun h'' he' sb => ?_⟩
    have hT2 : h''.get? s.heap.objs.size = some { cls := .type "tuple", data := .seq #[.int i tk, x'] } := (sb.2 _ (Nat.ne_of_gt hel)).trans hT
    have nw : ObjOk X.prog X.w (upd H s.heap.objs.size (.tup [.int (i : Nat), x])) h'' s.heap.objs.size (.tup [.int (i : Nat), x]) :=
      ⟨by show 2 ≤ sizeLine; decide, [.int i tk, x'], .cons ⟨_, rfl⟩ (.cons rx .nil), ⟨_, hT2, rfl, _, rfl⟩⟩
    have I1 : Inv X pins σ (upd H s.heap.objs.size (.tup [.int (i : Nat), x])) { s with heap := h'', toks := tk + 1 } :=
      I.turnedNew (ch := [e, it]) (fun b ob hb q => (sb.2 b (fun z => hb (by simp [z]))).trans (hk b ob (fun z => hb (by simp [z])) (fun z => hb (by simp [z])) q)) hf (Nat.le_refl _) nw
    refine ⟨.ref s.heap.objs.size, _, I1, rfl, ⟨_, x, rfl, I.hok.fresh (Nat.le_refl _), rfl, hy⟩, ⟨⟨x', ?_⟩, hkp _ _ _ (hin _ _ hst') fun o q => (sb.2 it (Ne.symm hne)).trans q⟩, fun b hb => ?_⟩
    · have e1 : ((i + 1 : Nat) : Int) = (i : Int) + 1 := by omega
      rw [e1]; exact he'
    · have hb' : b < s.heap.objs.size := by
        have e' : b = e ∨ b = it := by simpa using hb
        rcases e' with z | z
        · rw [z]; exact hel
        · rw [z]; exact hil
      rw [upd_ne (Nat.ne_of_lt hb')]
      exact (hf b hb).1
  done := by
    intro X hP hw hK hc i pins s σ H E I hf st hg
    obtain ⟨hle, hC⟩ := hg
    obtain ⟨⟨old, he⟩, hit⟩ := st
    obtain ⟨fp, Pv, St, D, hef, hst, hin, hle2, hyv⟩ := hd X hP hw hK hc pins s σ H i old _ I hit he hC
    subst hP hw hK
    obtain ⟨f0, f1, f2, f3, f4, f5⟩ := hf it (by simp)
    have ei : i = n := Nat.le_antisymm hle2 hle
    rw [ei] at hst
    exact wpAny_pyNext_enum_endD D he hst fun h' eb => ⟨rfl, I.turned (t' := s.toks) (fun b o hb q => eb b o hb q) f0 f1 f3 f4 f5⟩
  self := fun A i s Q E st h => let ⟨⟨_, he⟩, _⟩ := st; wpAny_pyIter_enum he h
/-- the characters of a text -/
def chs (x : Str) : List D := x.cps.toList.map fun c => D.str ⟨#[c]⟩
set_option maxHeartbeats 1000000 in
theorem new_enumB {v : Value} {ob : Obj} {HB : Heap → Prop} (B : Begins v ob HB) :
    Meets (Builtin.«enumerate.__new__» ⟨[.type "enumerate", v], []⟩) (fun _ R sh => HB sh.heap ∧
      R (.ok (.ret (.ref (sh.heap.push ob).objs.size))) { sh with heap := (sh.heap.push ob).push { cls := .type "enumerate", data := .fields #[.none, .bool false, .ref sh.heap.objs.size, rawInt 0, .none, .none] } }) :=
  .of_wp fun prog w A R sh hh => by
    obtain ⟨hp, g, dr, tk, os⟩ := sh
    obtain ⟨hB, hR⟩ := hh
    have hsub := sub_enumerate
    have it1 : ∀ {A' : Around} {E' : Value → Shared → Prop} {Q' : Value → Shared → Prop}, Q' (.ref hp.objs.size) ⟨hp.push ob, g, dr, tk, os⟩ → wpAny (model prog w) A' (pyIter v) Q' E' ⟨hp, g, dr, tk, os⟩ :=
      fun q => B.iter prog w _ _ ⟨hp, g, dr, tk, os⟩ _ hB q
    wp_walk using it1
    refine wpAny_stack_any fun st => wpAny_pure ?_
    split
    · rename_i c _ _ _ _ _
      cases (c == Value.type "enumerate")
      all_goals (wp_walk using it1; exact ⟨_, rfl, hR⟩)
    · wp_walk using it1
      exact ⟨_, rfl, hR⟩
theorem call_enumB {prog : Program} {w : World} {A : Around} {E : Value → Shared → Prop} {sh : Shared} {v : Value} {ob : Obj} {HB : Heap → Prop} {Q : Value → Shared → Prop} (B : Begins v ob HB) (hB : HB sh.heap)
    (hq : ∀ h', IsEnum h' (sh.heap.objs.size + 1) sh.heap.objs.size 0 .none → h'.get? sh.heap.objs.size = some ob → h'.objs.size = sh.heap.objs.size + 2 →
      (∀ b o, sh.heap.get? b = some o → h'.get? b = some o) → Q (.ref (sh.heap.objs.size + 1)) { sh with heap := h' }) :
    wpAny (model prog w) A (call (.type "enumerate") [v]) Q E sh := by
  refine callType_new F.called_enumerate (by decide) (F.typeCall_enumerate_1 _) (F.newCall_enumerate_1 _) (fun obj => F.args_object_init_2 obj _) F.entry_enumerate_new (new_enumB B) ⟨hB, ?_⟩
  have hz : (sh.heap.push ob).objs.size = sh.heap.objs.size + 1 := Heap.size_push ..
  show _ ∧ _
  rw [hz]
  have he := Heap.get?_push_size (sh.heap.push ob) (o := { cls := .type "enumerate", data := .fields #[.none, .bool false, .ref sh.heap.objs.size, rawInt 0, .none, .none] }) rfl
  rw [hz] at he
  exact ⟨⟨_, he, rfl⟩, hq _ he (Heap.get?_push_of_some _ (Heap.get?_push_size _ B.free)) (by rw [Heap.size_push, hz]) fun b o y => Heap.get?_push_of_some _ (Heap.get?_push_of_some _ y)⟩
def JenT (K : PySem.W.Frag) (a : Addr) (xs : List V) : It := Jen xs.length (fun i v => xs[i]? = some v) (fun H => SqT K H a xs)
def JenS (x : Str) : It := Jen x.cps.size (fun i v => ∃ c, x.cps[i]? = some c ∧ v = .str ⟨#[c]⟩) (fun _ => True)
theorem turn_enumT {P : Program} {w : World} {K : PySem.W.Frag} {elts : List Expr} {kk : Nat} {tpos : Pos} {a : Addr} {xs : List V} (e it : Addr) (hne : e ≠ it) :
    Turn P w K (.Tuple elts kk tpos) (JenT K a xs) [e, it] e (fun i h => (∃ old, IsEnum h e it ((i : Nat) : Int) old) ∧ h.IsTupleIter it a i ∧ i ≤ xs.length) := by
  refine turn_enumD (ty := "tuple_iterator") hne (fun i h hi => ?_) (fun i h h' hi hk => ⟨hi.1.at fun o q => hk o q, hi.2⟩) fun X hP hw hK hc pins s σ H i old c I hi he hC => ?_
  · obtain ⟨⟨o, ho, hc, hd⟩, _⟩ := hi
    exact ⟨o, _, ho, hc, hd⟩
  · subst hP hw hK
    obtain ⟨its, rv, p, hz⟩ := I.tuple hC
    have hl := rv.length
    have hh : X.A.in1.handled = none := I.ok.hd hc
    have ht : a ≠ it := fun z => by
      obtain ⟨⟨o1, h1, c1, _⟩, _⟩ := hi
      obtain ⟨o2, h2, c2, _⟩ := p
      rw [z, h1] at h2; cases h2
      rw [c1] at c2; exact absurd c2 (by decide)
    have hte : e ≠ a := fun z => by
      obtain ⟨o2, h2, c2, _⟩ := p
      rw [← z] at h2
      rw [show s.heap.get? e = _ from he] at h2; cases h2
      exact absurd (show Value.type "enumerate" = Value.type "tuple" from c2) (by decide)
    have D := Draws.tuple (prog := X.prog) (w := X.w) hh it a ht its.toArray
    rw [show its.toArray.size = xs.length by simp only [List.size_toArray]; omega] at D
    refine ⟨_, _, fun j h => (h.IsTupleIter it a j ∧ h.IsTuple a its.toArray) ∧ j ≤ xs.length, ⟨fun j h st => D.live j h st.1, fun j h h' st q => ⟨D.frame j h h' st.1 q, st.2⟩, fun j s Q E hj st hQ => D.item j s Q E hj st.1 fun x h' tk p1 p2 p3 => hQ x h' tk p1 ⟨p2, hj⟩ p3, fun s Q E st hE => D.done s Q E st.1 hE⟩, by simp [hne, hte], ⟨⟨hi.1, p⟩, hi.2⟩, fun j h st => ⟨st.1.1, st.2⟩, hi.2, fun v hv => ?_⟩
    have hv : its[i]? = some v := by simpa using hv
    have hlt : i < xs.length := by have := (List.getElem?_eq_some_iff.mp hv).1; omega
    obtain ⟨u, hu, ru⟩ := rv.get (List.getElem?_eq_getElem hlt)
    rw [hv] at hu; cases hu
    exact ⟨_, ru, List.getElem?_eq_getElem hlt⟩
theorem turn_enumS {P : Program} {w : World} {K : PySem.W.Frag} {elts : List Expr} {kk : Nat} {tpos : Pos} {x : Str} {t : Tok} (e it : Addr) (hne : e ≠ it) :
    Turn P w K (.Tuple elts kk tpos) (JenS x) [e, it] e (fun i h => (∃ old, IsEnum h e it ((i : Nat) : Int) old) ∧ h.IsStrIter it (strIterType x) x t i ∧ i ≤ x.cps.size) := by
  refine turn_enumD (ty := strIterType x) hne (fun i h hi => ?_) (fun i h h' hi hk => ⟨let ⟨o, ho, r⟩ := hi.1; ⟨o, hk o ho, r⟩, hi.2⟩) fun X hP hw hK hc pins s σ H i old c I hi he hC => ?_
  · obtain ⟨⟨o, ho, hc, hd⟩, _⟩ := hi
    exact ⟨o, _, ho, hc, hd⟩
  · subst hP hw hK
    have hh : X.A.in1.handled = none := I.ok.hd hc
    have D := Draws.text (prog := X.prog) (w := X.w) hh it x t
    refine ⟨_, _, fun j h => h.IsStrIter it (strIterType x) x t j ∧ j ≤ x.cps.size, ⟨fun j h st => D.live j h st.1, fun j h h' st q => ⟨D.frame j h h' st.1 q, st.2⟩, fun j s Q E hj st hQ => D.item j s Q E hj st.1 fun v h' tk p1 p2 p3 => hQ v h' tk p1 ⟨p2, hj⟩ p3, fun s Q E st hE => D.done s Q E st.1 hE⟩, by simp [hne], hi, fun j h st => st, hi.2, fun v hv => ?_⟩
    obtain ⟨c, u, hcx, rfl⟩ := hv
    exact ⟨.str ⟨#[c]⟩, ⟨u, rfl⟩, c, hcx, rfl⟩
def iEnAny (K : PySem.W.Frag) (ta : TA) : TI := fun σ H R => ta σ H fun vs H1 => ∃ v, vs = [v] ∧ ((∃ a xs, v = .ref a ∧ SqL K H1 a xs ∧ R (Ite K a) H1) ∨ (∃ a xs, v = .ref a ∧ SqT K H1 a xs ∧ R (JenT K a xs) H1) ∨ ∃ x, v = .str x ∧ R (JenS x) H1)
theorem pi_enumAny {X : Cx} {e : Expr} {ta : TA} {p pos tpos : Pos} {elts : List Expr} {kk : Nat} (hg : Gl X "enumerate") (hm : X.mg "enumerate" = none) (ha : PA X [e] ta) (hs : starEach [e] X.env = [(false, eval e X.env)]) :
    PI X (.Tuple elts kk tpos) (.Call (.Name "enumerate" p) [e] [] pos) (iEnAny X.K ta) := by
  refine ⟨fun pins s σ H R I h => ?_⟩
  refine Call_ (ld_blt I hg hm boot_enumerate (PyProof.Rows.callWith_type1 (thn (ha.run pos pins s σ H _ I h) fun us s1 ⟨vs, H1, I1, r1, q1⟩ => ?_) hs rfl))
  have fpo : ∀ b ∈ [s1.heap.objs.size + 1, s1.heap.objs.size], FpOk X pins H1 b := fun b hb => by
    have e' : b = s1.heap.objs.size + 1 ∨ b = s1.heap.objs.size := by simpa using hb
    have hle : s1.heap.objs.size ≤ b := by
      rcases e' with z | z
      · rw [z]; exact Nat.le_add_right _ _
      · rw [z]; exact Nat.le_refl _
    exact I1.fpOk hle (I1.hok.fresh hle)
  obtain ⟨v, ex, q1⟩ := q1
  subst ex
  cases r1 with
  | cons r rr =>
    cases rr
    rcases q1 with ⟨a, xs, rfl, hq, q⟩ | ⟨a, xs, rfl, hq, q⟩ | ⟨x, rfl, q⟩
    · cases r
      obtain ⟨its, rv, p', hz⟩ := I1.list hq
      refine call_enumerate_list p'.isList fun h' he hit hsz hk => wpAny_pyIter_enum he ?_
      exact ⟨_, _, _, _, H1, rfl, I1.kept (t' := s1.toks) hk, turn_enum a (s1.heap.objs.size + 1) s1.heap.objs.size, ⟨⟨.none, he⟩, hit, Nat.succ_ne_self _⟩, fpo, q⟩
    · cases r
      obtain ⟨its, rv, p', hz⟩ := I1.tuple hq
      refine call_enumB (begins_tuple a its.toArray) p' fun h' he hit hsz hk => wpAny_pyIter_enum he ?_
      exact ⟨_, _, _, _, H1, rfl, I1.kept (t' := s1.toks) hk, turn_enumT (s1.heap.objs.size + 1) s1.heap.objs.size (Nat.succ_ne_self _), ⟨⟨.none, he⟩, ⟨_, hit, rfl, rfl⟩, Nat.zero_le _⟩, fpo, q⟩
    · obtain ⟨t, rfl⟩ := r
      refine call_enumB (begins_text x t) trivial fun h' he hit hsz hk => wpAny_pyIter_enum he ?_
      exact ⟨_, _, _, _, H1, rfl, I1.kept (t' := s1.toks) hk, turn_enumS (x := x) (t := t) (s1.heap.objs.size + 1) s1.heap.objs.size (Nat.succ_ne_self _), ⟨⟨.none, he⟩, ⟨_, hit, rfl, rfl⟩, Nat.zero_le _⟩, fpo, q⟩

theorem gi_enumT {K : PySem.W.Frag} {V1 : Hp} {a : Addr} {xs : List V} {ds : List D} (h : SqT K V1 a xs) (r : RpA K V1 xs ds) : GI K V1 (JenT K a xs) (enumW 0 ds) none := by
  have hl := r.length
  have hs : ∀ {F V2 : Hp} {os : Os} {H : Hp}, Same V1 V2 → Rel K F V2 os H → SqT K H a xs := fun s2 r2 => same_sqT (s2.trans r2.vi) h
  refine ⟨fun i F V2 os H s2 r2 _ hi => ⟨by rw [enumW_len] at hi; omega, hs s2 r2⟩, fun i F V2 os H s2 r2 _ hi => ⟨by rw [enumW_len] at hi; omega, hs s2 r2⟩, fun i F V2 os H x H' w s2 r2 _ y e => ?_⟩
  obtain ⟨T, v, rfl, hT, rfl, ex⟩ := y
  obtain ⟨d, ed, rd⟩ := r.getV ex
  obtain ⟨d', ed', rfl⟩ := enumW_get e
  rw [ed] at ed'; cases ed'
  obtain ⟨s3, r3, rp⟩ := rel_newT (vs := [.int (i : Nat), v]) (ds := [.int (i : Nat), d]) r2 hT (.cons (.int _) (.cons (Rp.mono s2 rd) .nil))
  rw [Int.zero_add]
  exact ⟨_, s3, r3, rp⟩
theorem chs_len (x : Str) : (chs x).length = x.cps.size := by simp [chs]
theorem chs_get {x : Str} {i : Nat} {w : D} (h : (chs x)[i]? = some w) : ∃ c, x.cps[i]? = some c ∧ w = .str ⟨#[c]⟩ := by
  unfold chs at h
  rw [List.getElem?_map] at h
  obtain ⟨c, hc, rfl⟩ := Option.map_eq_some_iff.mp h
  exact ⟨c, by simpa using hc, rfl⟩
theorem gi_enumS {K : PySem.W.Frag} {V1 : Hp} {x : Str} : GI K V1 (JenS x) (enumW 0 (chs x)) none := by
  refine ⟨fun i F V2 os H s2 r2 _ hi => ⟨by rw [enumW_len, chs_len] at hi; exact hi, trivial⟩, fun i F V2 os H s2 r2 _ hi => ⟨by rw [enumW_len, chs_len] at hi; exact hi, trivial⟩, fun i F V2 os H v H' w s2 r2 _ y e => ?_⟩
  obtain ⟨T, v, rfl, hT, rfl, c, hc, rfl⟩ := y
  obtain ⟨d', ed', rfl⟩ := enumW_get e
  obtain ⟨c', hc', rfl⟩ := chs_get ed'
  rw [hc] at hc'; cases hc'
  obtain ⟨s3, r3, rp⟩ := rel_newT (vs := [.int (i : Nat), .str ⟨#[c]⟩]) (ds := [.int (i : Nat), .str ⟨#[c]⟩]) r2 hT (.cons (.int _) (.cons (.str _) .nil))
  rw [Int.zero_add]
  exact ⟨_, s3, r3, rp⟩
theorem gi_str {K : PySem.W.Frag} {V1 : Hp} {x : Str} : GI K V1 (Its x) (chs x) none := by
  refine ⟨fun i F V2 os H s2 r2 _ hi => by rw [chs_len] at hi; exact hi, fun i F V2 os H s2 r2 _ hi => by rw [chs_len] at hi; exact hi, fun i F V2 os H v H' w s2 r2 _ y e => ?_⟩
  obtain ⟨rfl, c, hc, rfl⟩ := y
  obtain ⟨c', hc', rfl⟩ := chs_get e
  rw [hc] at hc'; cases hc'
  exact ⟨V2, Same.refl _, r2, .str _⟩
/-- enumerate(..): a list, owned or data, a tuple, a text -/
def iEnA (te : TrE) : TrI := fun kx env os ki => te kx env os fun w os1 => match w with
  | .lst ds => ki (enumW 0 ds) none os1
  | .tup ds => ki (enumW 0 ds) none os1
  | .str x => ki (enumW 0 (chs x)) none os1
  | .ref p => ∃ (n : Nat) (ws : List D), os1[n]? = some (p, OO.lst ws) ∧ ki (enumW 0 ws) (some (p, ws)) os1
  | _ => False
theorem ci_enA {X : Cx} {e : Expr} {te : TrE} {p pos : Pos} {elts : List Expr} {kk : Nat} {tpos : Pos} (hg : Gl X "enumerate") (hm : X.mg "enumerate" = none) (h : Cm X e te) (hs : starEach [e] X.env = [(false, eval e X.env)]) :
    CmI X (.Tuple elts kk tpos) (.Call (.Name "enumerate" p) [e] [] pos) (iEnA te) := by
  intro kx env os ki q F V0 H σ R W r sr ek c
  refine wPI_of (pi_enumAny hg hm (pa_cons wE_pe pa_nil hs) hs) ?_
  refine h _ _ _ _ q F V0 H σ _ W r sr ek fun V1 os1 H1 v w s1 r1 rv q => ?_
  split at q
  · obtain ⟨p, xs, rfl, h1, h2⟩ := rp_lst rv
    exact ⟨_, rfl, .inl ⟨p, xs, rfl, r1.vi.seq h1, c V1 os1 H1 _ _ _ s1 r1 (gi_enum h1 h2) q⟩⟩
  · obtain ⟨p, xs, rfl, h1, h2⟩ := rp_tup rv
    exact ⟨_, rfl, .inr (.inl ⟨p, xs, rfl, same_sqT r1.vi h1, c V1 os1 H1 _ _ _ s1 r1 (gi_enumT h1 h2) q⟩)⟩
  · cases rv
    exact ⟨_, rfl, .inr (.inr ⟨_, rfl, c V1 os1 H1 _ _ _ s1 r1 gi_enumS q⟩)⟩
  · obtain ⟨n, ws, ho, q⟩ := q
    obtain rfl := rv.toRef
    obtain ⟨_, _, ho', h3, vs, rfl, h4⟩ := r1.own _ (List.mem_of_getElem? ho)
    exact ⟨_, rfl, .inl ⟨_, vs, rfl, SqL.of h3, c V1 os1 H1 _ _ _ s1 r1 gi_enum_own q⟩⟩
  · exact q.elim
/-- for c in a text -/
def iStrD (te : TrE) : TrI := fun kx env os ki => te kx env os fun w os1 => match w with
  | .str x => ki (chs x) none os1
  | _ => False
theorem ci_strD {X : Cx} {e tge : Expr} {te : TrE} (h : Cm X e te) : CmI X tge e (iStrD te) := by
  intro kx env os ki q F V0 H σ R W r sr ek c
  refine wPI_of (pi_str wE_pe) ?_
  refine h _ _ _ _ q F V0 H σ _ W r sr ek fun V1 os1 H1 v w s1 r1 rv q => ?_
  split at q
  · cases rv
    exact ⟨_, rfl, c V1 os1 H1 _ _ _ s1 r1 gi_str q⟩
  · exact q.elim
theorem gi_zipT {K : PySem.W.Frag} {V1 : Hp} {a b : Addr} {xs ys : List V} {ds es : List D} (h : SqT K V1 a xs) (r : RpA K V1 xs ds) (h' : SqT K V1 b ys) (r' : RpA K V1 ys es) : GI K V1 (RZ.ItzT K a b) (zipW ds es) none := by
  have hl := r.length
  have hl' := r'.length
  have hs : ∀ {F V2 : Hp} {os : Os} {H : Hp}, Same V1 V2 → Rel K F V2 os H → SqT K H a xs ∧ SqT K H b ys := fun s2 r2 => ⟨same_sqT (s2.trans r2.vi) h, same_sqT (s2.trans r2.vi) h'⟩
  refine ⟨fun i F V2 os H s2 r2 _ hi => ?_, fun i F V2 os H s2 r2 _ hi => ?_, fun i F V2 os H x H' w s2 r2 _ y e => ?_⟩
  · rw [zipW_len] at hi
    exact ⟨xs, ys, xs[i]'(by omega), ys[i]'(by omega), (hs s2 r2).1, (hs s2 r2).2, by simp, by simp⟩
  · rw [zipW_len] at hi
    exact ⟨xs, ys, (hs s2 r2).1, (hs s2 r2).2, by omega⟩
  · obtain ⟨T, u, v, rfl, hT, rfl, y1, y2⟩ := y
    obtain ⟨d, ed, rd⟩ := r.getV (y1 xs (hs s2 r2).1)
    obtain ⟨d2, ed2, rd2⟩ := r'.getV (y2 ys (hs s2 r2).2)
    obtain ⟨d', e', ed', ee', rfl⟩ := zipW_get e
    rw [ed] at ed'; cases ed'
    rw [ed2] at ee'; cases ee'
    obtain ⟨s3, r3, rp⟩ := rel_newT (vs := [u, v]) (ds := [d, d2]) r2 hT (.cons (Rp.mono s2 rd) (.cons (Rp.mono s2 rd2) .nil))
    exact ⟨_, s3, r3, rp⟩
/-- zip of two lists, of two tuples -/
def iZipA (ta tb : TrE) : TrI := fun kx env os ki => ta kx env os fun w os1 => tb kx env os1 fun u os2 => match w with
  | .lst ds => (match u with
    | .lst es => ki (zipW ds es) none os2
    | _ => False)
  | .tup ds => (match u with
    | .tup es => ki (zipW ds es) none os2
    | _ => False)
  | _ => False
theorem ci_zipA {X : Cx} {a b : Expr} {ta tb : TrE} {p pos : Pos} {elts : List Expr} {kk : Nat} {tpos : Pos} (hg : Gl X "zip") (hm : X.mg "zip" = none) (h : Cm X a ta) (h2 : Cm X b tb)
    (hs : starEach [a, b] X.env = (false, eval a X.env) :: starEach [b] X.env) (hs2 : starEach [b] X.env = [(false, eval b X.env)]) (hpl : (backTo pos (starEach [b] X.env)).any (·.1) = false) :
    CmI X (.Tuple elts kk tpos) (.Call (.Name "zip" p) [a, b] [] pos) (iZipA ta tb) := by
  intro kx env os ki q F V0 H σ R W r sr ek c
  refine wPI_of (RZ.pi_zipA hg hm (pa_cons wE_pe (pa_cons wE_pe pa_nil hs2) hs) hs hpl) ?_
  refine h _ _ _ _ q F V0 H σ _ W r sr ek fun V1 os1 H1 v w s1 r1 rv q => ?_
  refine h2 _ _ _ _ q F V1 H1 σ _ W r1 (sr.mono s1) (ek.mono s1) fun V2 os2 H2 u y s2 r2 ru q => ?_
  split at q
  · split at q
    · obtain ⟨p, xs, rfl, h1, h2⟩ := rp_lst rv
      obtain ⟨p', ys, rfl, h3, h4⟩ := rp_lst ru
      exact ⟨p, p', xs, ys, rfl, .inl ⟨(s2.trans r2.vi).seq h1, r2.vi.seq h3, c V2 os2 H2 _ _ _ (s1.trans s2) r2 (gi_zip (s2.seq h1) (RpA.mono s2 h2) h3 h4) q⟩⟩
    · exact q.elim
  · split at q
    · obtain ⟨p, xs, rfl, h1, h2⟩ := rp_tup rv
      obtain ⟨p', ys, rfl, h3, h4⟩ := rp_tup ru
      exact ⟨p, p', xs, ys, rfl, .inr ⟨same_sqT (s2.trans r2.vi) h1, same_sqT r2.vi h3, c V2 os2 H2 _ _ _ (s1.trans s2) r2 (gi_zipT (same_sqT s2 h1) (RpA.mono s2 h2) h3 h4) q⟩⟩
    · exact q.elim
  · exact q.elim
/-- tuple(xs) -/
def cTup : TrC := fun ws os k => match ws with
  | [w] => (match w with
    | .tup ds => k (.tup ds) os
    | w => lstK w os fun ds => k (.tup ds) os)
  | _ => False
theorem cmc_tup {X : Cx} : CmC X (.type "tuple") cTup := by
  intro ws os k h
  unfold cTup at h
  split at h
  · split at h
    · exact JC.mk call_tuple_of fun F V0 H vs Q r rs c => by
        obtain ⟨v, rfl, rv⟩ := rs.one
        obtain ⟨a, xs, rfl, h1, h2⟩ := rp_tup rv
        exact ⟨a, xs, rfl, .inr ⟨same_sqT r.vi h1, c V0 os H _ _ (Same.refl _) r rv h⟩⟩
    · obtain ⟨ds, hd, q⟩ := lstK_of h
      exact JC.mk call_tuple_of fun F V0 H vs Q r rs c => by
        obtain ⟨v, rfl, rv⟩ := rs.one
        obtain ⟨a, xs, rfl, h1, h2⟩ := lstOf_of r rv hd
        refine ⟨a, xs, rfl, .inl ⟨h1, fun l hl => ?_⟩⟩
        obtain ⟨s2, r2, rp⟩ := rel_newT r hl h2
        exact c _ os _ _ (.tup ds) s2 r2 rp q
  · exact h.elim
/-! ### index of texts -/
theorem sidx_ne : ∀ (ns : List Str) (i : Str) (m : Nat), m < ns.idxOf i → ns[m]? ≠ some i
  | [], i, m, h => by simp at h
  | a :: r, i, 0, h => by
    rw [List.idxOf_cons] at h
    intro e
    have e : a = i := by simpa using e
    rw [e] at h
    simp at h
  | a :: r, i, m + 1, h => by
    rw [List.idxOf_cons] at h
    rw [List.getElem?_cons_succ]
    by_cases e : a = i
    · rw [e] at h; simp at h
    · rw [show (a == i) = false from beq_eq_false_iff_ne.mpr e] at h
      exact sidx_ne r i m (by simpa using h)
theorem rpA_str {K : PySem.W.Frag} {V0 : Hp} : ∀ {ys : List Str} {vs : List V}, RpA K V0 vs (ys.map D.str) → vs = ys.map V.str
  | [], _, h => by cases h; rfl
  | y :: ys, _, h => by
    cases h with
    | cons a b => cases a; rw [rpA_str b]; rfl
section
variable {X : Cx} {pos pos' apos cpos tpos : Pos} {o e : Expr} {to te : TrE}
/-- a tuple of texts that is a constant of the module -/
structure GlbT (K : PySem.W.Frag) (mg : Str → Option Value) (x : Str) (ys : List Str) : Prop where
  ex : ∃ (a : Addr) (ob : Obj), mg x = some (.ref a) ∧ K.lookup a = some ob ∧ ob.cls = .type "tuple" ∧ ob.dict = none ∧ ∀ V0 : Hp, Rp K V0 (.ref a) (.tup (ys.map D.str))
/-- T.index(e), T a constant -/
def eTIdx (ys : List Str) (te : TrE) : TrE := fun kx env os k => te kx env os fun y os2 => match y with
  | .str z => z ∈ ys ∧ k (.int (ys.idxOf z : Nat)) os2
  | _ => False
/-- xs.index(e): texts -/
def eLIdxS (to te : TrE) : TrE := fun kx env os k => to kx env os fun w os1 => eLCnt.lstH w os1 (te kx env os1 fun y os2 => match y with
  | .str z => ∃ ys : List Str, LstOf os2 w (ys.map D.str) ∧ z ∈ ys ∧ k (.int (ys.idxOf z : Nat)) os2
  | _ => False)
theorem cm_lidxS (h : Cm X o to) (h2 : Cm X e te) (hbase : attributeBase o "index" X.env (eval o X.env) = eval o X.env)
    (hfew : ((backTo cpos (starEach [e] X.env)).all (fun x => !x.1) && (backToKw cpos (keywordEach [] X.env)).all (fun x => x.1.isSome)
      && decide ([e].length + ([] : List Keyword).length + (if ([] : List Keyword).isEmpty then 0 else 1) < 30)) = true)
    (hline : (apos.endLine == cpos.line) = true) (hs : starEach [e] X.env = (false, eval e X.env) :: starEach [] X.env) :
    Cm X (.Call (.Attribute o "index" apos) [e] [] cpos) (eLIdxS to te) := by
  intro kx env os k q F V0 H σ Q W r sr ek c
  refine wE_of (pe_bm PySem.F.plainAttrs_list PySem.F.slot_list_index PySem.F.type_list_index mt_index wE_pe (pa_cons wE_pe pa_nil hs) hbase hfew hline hs) ?_
  refine h _ _ _ _ q F V0 H σ _ W r sr ek fun V1 os1 H1 v w s1 r1 rv q => ?_
  obtain ⟨a, rfl, ty, q⟩ := tyL_of r1 rv q
  refine ⟨ty, ?_⟩
  refine h2 _ _ _ _ q F V1 H1 σ _ W r1 (sr.mono s1) (ek.mono s1) fun V2 os2 H2 u y s2 r2 ru q => ?_
  split at q
  · rename_i i
    obtain ⟨ns, hl, hi, q⟩ := q
    obtain ⟨a', vs, e', h3, h4⟩ := lstOf_of r2 (rv.mono s2) hl
    cases e'
    have e3 := rpA_str h4
    subst e3
    cases ru
    have hj := List.idxOf_lt_length_iff.mpr hi
    refine ⟨a, _, .str i, ns.idxOf i, .str i, rfl, rfl, h3, rfl, List.all_eq_true.mpr fun x hx => ?_, ?_, ?_, fun m z' hm hz => ?_, c V2 os2 H2 _ _ (s1.trans s2) r2 rwI q⟩
    · obtain ⟨n, _, rfl⟩ := List.mem_map.mp hx; rfl
    · rw [List.getElem?_map, List.getElem?_eq_getElem hj, List.getElem_idxOf hj]; rfl
    · simp [eqV]
    · rw [List.getElem?_map] at hz
      obtain ⟨n, hn, rfl⟩ := Option.map_eq_some_iff.mp hz
      have ne : n ≠ i := fun e => sidx_ne ns i m hm (by rw [hn, e])
      simp [eqV, ne]
  · exact q.elim
theorem cm_tidx {x : Str} {ys : List Str} {p : Pos} (g : GlbT X.K X.mg x ys) (hg : Gl X x) (hd : (x == ("__debug__" : Str)) = false) (h2 : Cm X e te) (hbase : attributeBase (.Name x p) "index" X.env (eval (.Name x p) X.env) = eval (.Name x p) X.env)
    (hfew : ((backTo cpos (starEach [e] X.env)).all (fun x => !x.1) && (backToKw cpos (keywordEach [] X.env)).all (fun x => x.1.isSome)
      && decide ([e].length + ([] : List Keyword).length + (if ([] : List Keyword).isEmpty then 0 else 1) < 30)) = true)
    (hline : (apos.endLine == cpos.line) = true) (hs : starEach [e] X.env = (false, eval e X.env) :: starEach [] X.env) :
    Cm X (.Call (.Attribute (.Name x p) "index" apos) [e] [] cpos) (eTIdx ys te) := by
  obtain ⟨a, ob, h1, h3, h4, h5, h6⟩ := g.ex
  intro kx env os k q F V0 H σ Q W r sr ek c
  refine wE_of (pe_bm PySem.F.plainAttrs_tuple PySem.F.slot_tuple_index PySem.F.type_tuple_index mt_tup_index (pe_glob hg h1 (v := .ref a) rfl hd) (pa_cons wE_pe pa_nil hs) hbase hfew hline hs) ?_
  refine ⟨.inr (.inl ⟨rfl, ob, h3, h4, h5⟩), ?_⟩
  refine h2 _ _ _ _ q F V0 H σ _ W r sr ek fun V2 os2 H2 u y s2 r2 ru q => ?_
  unfold eTIdx at q
  split at q
  · rename_i z
    obtain ⟨hi, q⟩ := q
    cases ru
    obtain ⟨a', xs, e', h7, h8⟩ := rp_tup (h6 V2)
    cases e'
    have e3 := rpA_str h8
    subst e3
    have hj := List.idxOf_lt_length_iff.mpr hi
    exact ⟨a, ys, z, ys.idxOf z, rfl, rfl, same_sqT r2.vi h7, by rw [List.getElem?_eq_getElem hj, List.getElem_idxOf hj], fun m hm => sidx_ne ys z m hm, c V2 os2 H2 _ _ s2 r2 rwI q⟩
  · exact q.elim
end
end EV

set_option Elab.async false
set_option linter.all false
set_option maxRecDepth 100000
/-! E18: defs that call themselves: nothing is promised without fuel. -/
namespace EV
open PySem PySem.Spec PyProof.Rows L2
def noT : FT := fun _ _ _ _ => False
theorem okNo {P : Program} {w : World} {K : PySem.W.Frag} {mg : Str → Option Value} {base : Heap} {x qual : Str} {st : Stmt} {f : Addr} {fd : FuncData} {N ps : List Str} {k n : Nat} (F : Fun K x qual st f fd) (sc : FnScope N ps (defScope st)) (hn : ps.length = n) :
    FnOk P w K mg base (L2.CX P w) (k + 1) f fd ps (spX K n noT) := by
  refine F.okX sc (fun vs H Q E h => h.1.trans hn.symm) fun cdv A outer s H vs Q E hr hsp => ?_
  obtain ⟨hl, F0, V0, os, ws, k0, x0, r, ra, hT, c, cx⟩ := hsp
  exact hT.elim
section
variable {X : Cx} {o e : Expr} {apos cpos : Pos} {to te : TrE}
theorem list_extendW (l : Addr) (items : Array Value) (n : Nat) (b : Addr) (items2 : Array Value) (n2 : Nat) (dd2 : Option Addr) (sl2 : Array (Option Value)) (hc0 : ¬(!items.isEmpty && Builtin.List.listTooLong (items.size + items2.size)) = true) (hc1 : items.size ≤ sizeLine) (hs2 : items.size + items2.size ≤ sizeLine + 1) :
    Meets (Builtin.«list.extend» ⟨[.ref l, .ref b], []⟩) (fun _ R s => s.heap.get? l = some { cls := .type "list", dict := none, data := .seq items n, slots := #[] } ∧ s.heap.get? b = some { cls := .type "list", dict := dd2, data := .seq items2 n2, slots := sl2 } ∧ R (.ok (.ret Value.none)) { s with heap := s.heap.update l (Obj.mapSeq fun x => x ++ items2), toks := s.toks }) :=
  .of_wp fun prog w A R s h => by
    obtain ⟨hp, g, d, tk, os⟩ := s; obtain ⟨hl, hb, h⟩ := h; have f1 := AutoSeq1.idx_int; have f2 := AutoSeq1.sub_tuple_tuple; have f3 := AutoSeq1.sub_list_list; have f4 := AutoSeq1.sub_tuple_list; have f5 := AutoSeq1.sub_list_tuple
    have hz' : (items ++ items2).size ≤ sizeLine + 1 := by rw [Array.size_append]; exact hs2
    wp_walk using (wpAny_updateSeq hl rfl (hz := hc1) (_hz' := hz')), AutoSeq1.wpAny_loadPart' hl, AutoSeq1.wpAny_loadPart' hb; exact ⟨_, rfl, h⟩
def rExtS (K : PySem.W.Frag) : V → List V → Hp → VK → Prop := fun x vs H Q => ∃ l b xs zs, x = .ref l ∧ vs = [.ref b] ∧ H l = some (.lst xs) ∧ SqL K H b zs ∧ xs.length + zs.length ≤ sizeLine ∧ Q .non (upd H l (.lst (xs ++ zs)))
theorem mt_extS : MtM X "list.extend" (rExtS X.K) := by
  intro pins s σ H x vs v us Q I rx rv h
  obtain ⟨l, b, xs, zs, rfl, rfl, hH, hB, hz, q⟩ := h
  cases rx
  obtain ⟨u, rfl, ru⟩ := rv.one
  cases ru
  obtain ⟨z, its, n, r, hl, e⟩ := I.lstM hH
  obtain ⟨its2, r2, ⟨⟨cls2, dd2, data2, sl2⟩, n2, ho2, hc2, hn2, hd2⟩, _⟩ := I.list hB
  simp only at hc2 hd2
  subst hc2 hd2
  have hl2 : zs.length = its2.length := r2.length
  have hsz : its.toArray.size + its2.toArray.size ≤ sizeLine := by rw [List.size_toArray, List.size_toArray]; omega
  have hlong : ¬ (!its.toArray.isEmpty && Builtin.List.listTooLong (its.toArray.size + its2.toArray.size)) = true := by
    rw [notLongL hsz, Bool.and_false]
    exact Bool.false_ne_true
  refine call_meets F.slot_list_extend ⟨_, e, rfl⟩ F.entry_list_extend (F.args_list_extend_2 _ _)
    (list_extendW l its.toArray n b its2.toArray n2 _ _ hlong (by rw [List.size_toArray]; omega) (by omega)) ⟨e, ho2, ?_⟩
  refine ⟨.non, _, I.lset (its' := its ++ its2) hH e (by simp) (r.append r2) ?_, rfl, q⟩
  rw [List.length_append]
  omega
theorem cm_ext (h : Cm X o to) (h2 : Cm X e te) (hbase : attributeBase o "extend" X.env (eval o X.env) = eval o X.env)
    (hfew : ((backTo cpos (starEach [e] X.env)).all (fun x => !x.1) && (backToKw cpos (keywordEach [] X.env)).all (fun x => x.1.isSome)
      && decide ([e].length + ([] : List Keyword).length + (if ([] : List Keyword).isEmpty then 0 else 1) < 30)) = true)
    (hline : (apos.endLine == cpos.line) = true) (hs : starEach [e] X.env = (false, eval e X.env) :: starEach [] X.env) :
    Cm X (.Call (.Attribute o "extend" apos) [e] [] cpos) (eExt to te) := by
  intro kx env os k q F V0 H σ Q W r sr ek c
  refine wE_of (pe_bm PySem.F.plainAttrs_list PySem.F.slot_list_extend PySem.F.type_list_extend mt_extS wE_pe (pa_cons wE_pe pa_nil hs) hbase hfew hline hs) ?_
  refine h _ _ _ _ q F V0 H σ _ W r sr ek fun V1 os1 H1 v w s1 r1 rv q => ?_
  obtain ⟨pl, n, ws, rfl, ho, q⟩ := onL_ref q
  obtain rfl := rv.toRef
  obtain ⟨vs, h3, h4, ty⟩ := own_ty r1 ho
  refine ⟨ty, ?_⟩
  refine h2 _ _ _ _ q F V1 H1 σ _ W r1 (sr.mono s1) (ek.mono s1) fun V2 os2 H2 u y s2 r2 ru ⟨m, us, ds, ho2, hy, hl, q⟩ => ?_
  obtain ⟨vs2, h5, h6, _⟩ := own_ty r2 ho2
  obtain ⟨b, ys, rfl, h7, h8⟩ := lstOf_of r2 ru hy
  refine ⟨pl, b, vs2, ys, rfl, rfl, h5, h7, by rw [h6.length, h8.length]; exact hl, ?_⟩
  exact c V2 _ _ _ .non (s1.trans s2) (r2.mut ho2 (oo' := .lst (us ++ ds)) ⟨vs2 ++ ys, rfl, h6.append h8⟩) rwN q
end
section
variable {X : Cx} {tge a : Expr} {p p2 pos pos2 : Pos} {ta : TrE}
/-- reversed(range(n)) -/
def iRv1 (ta : TrE) : TrI := fun kx env os ki => ta kx env os fun w os1 => match w with
  | .int j => -(2 ^ 62) ≤ j ∧ j < 2 ^ 62 ∧ ki (rng ((j.toNat : Int) - 1) (-1) j.toNat) none os1
  | _ => False
theorem ci_rev1 (hg2 : Gl X "reversed") (hm2 : X.mg "reversed" = none) (hg : Gl X "range") (hm : X.mg "range" = none) (h : Cm X a ta) (hs : starEach [a] X.env = (false, eval a X.env) :: starEach [] X.env)
    (hs2 : starEach [.Call (.Name "range" p) [a] [] pos] X.env = (false, eval (.Call (.Name "range" p) [a] [] pos) X.env) :: starEach [] X.env) :
    CmI X tge (.Call (.Name "reversed" p2) [.Call (.Name "range" p) [a] [] pos] [] pos2) (iRv1 ta) := by
  intro kx env os ki q F V0 H σ R W r sr ek c
  refine wPI_of (pi_revR hg2 hm2 (prg_1 hg hm wE_pe hs) hs2) ?_
  refine h _ _ _ _ q F V0 H σ _ W r sr ek fun V1 os1 H1 v w s1 r1 rv q => ?_
  split at q
  · rename_i j
    cases rv
    refine ⟨_, rfl, by decide, by decide, q.1, q.2.1, ?_⟩
    have e0 : (j - 0).toNat = j.toNat := by rw [Int.sub_zero]
    have e1 : (0 : Int) + (((j - 0).toNat : Nat) : Int) - 1 = (j.toNat : Int) - 1 := by rw [e0, Int.zero_add]
    rw [e1, e0]
    exact c V1 os1 H1 _ _ _ s1 r1 (gi_rngC _ _ _) q.2.2
  · exact q.elim
end
/-! all(a list of bools), sorted(a dict of ints), sorted(pairs of ints) -/
theorem rpA_bl {K : PySem.W.Frag} {H : Hp} : ∀ {ns : List Bool} {vs : List V}, RpA K H vs (ns.map D.bl) → vs = ns.map V.bl
  | [], _, h => by cases h; rfl
  | n :: ns, _, h => by
    cases h with
    | cons a b => cases a; rw [rpA_bl b]; rfl
section
variable {X : Cx}
def cAll : TrC := fun ws os k => match ws with
  | [w] => ∃ bs : List Bool, LstOf os w (bs.map D.bl) ∧ k (.bl (bs.all id)) os
  | _ => False
theorem cmc_all (hc : X.calm = true) : CmC X (.builtin "all") cAll := by
  intro ws os k h
  unfold cAll at h
  split at h
  · obtain ⟨bs, h1, q⟩ := h
    exact JC.mk (cr_all hc) fun F V0 H vs Q r rs c => by
      obtain ⟨v, rfl, rv⟩ := rs.one
      obtain ⟨a, xs, rfl, hs, ra⟩ := lstOf_of r rv h1
      have e := rpA_bl ra
      subst e
      exact ⟨a, bs, rfl, hs, c V0 os H _ _ (Same.refl _) r rwB q⟩
  · exact h.elim
def cSortDI : TrC := fun ws os k => match ws with
  | [w] => ∃ (kvs : List (Key × D)) (ks : List Int), DctOf os w kvs ∧ kvs.map (·.1) = ks.map Sum.inl ∧ ks.length < 64 ∧ ∀ ms : List Int, ms.Perm ks → ms.Pairwise (· ≤ ·) → k (.lst (ms.map D.int)) os
  | _ => False
theorem rpK_keys {K : PySem.W.Frag} {H : Hp} : ∀ {vs : List (Key × V)} {kvs : List (Key × D)}, RpK K H vs kvs → vs.map (·.1) = kvs.map (·.1)
  | _, _, .nil => rfl
  | _, _, .cons _ r => by rw [List.map_cons, List.map_cons, rpK_keys r]
theorem cmc_sortDI (hc : X.calm = true) : CmC X (.builtin "sorted") cSortDI := by
  intro ws os k h
  unfold cSortDI at h
  split at h
  · obtain ⟨kvs, ks, h1, h2, h3, q⟩ := h
    exact JC.mk (call_sortedDI hc) fun F V0 H vs Q r rs c => by
      obtain ⟨v, rfl, rv⟩ := rs.one
      obtain ⟨a, xs, rfl, hs, ra⟩ := dctOf_of r rv h1
      refine ⟨a, xs, ks, rfl, hs, (rpK_keys ra).trans h2, h3, fun ms p h1 h2 hp => ?_⟩
      obtain ⟨s2, r2, rp⟩ := rel_newL r hp (rpA_ints (K := X.K) (H := V0) ms)
      exact c _ os _ _ (.lst (ms.map D.int)) s2 r2 rp (q ms h1 h2)
  · exact h.elim
def rSortedPS (K : PySem.W.Frag) : List V → Hp → VK → Prop := fun vs H Q => ∃ (a : Addr) (xs : List V) (ps : List (Int × Int)) (k : V → Int × Int), vs = [V.ref a] ∧ SqL K H a xs ∧ (∀ x ∈ xs, ∃ t, x = V.ref t ∧ SqT K H t [.int (k x).1, .int (k x).2]) ∧
  (∀ (i : Nat) (x : V) (p : Int × Int), xs[i]? = some x → ps[i]? = some p → ∃ t, x = V.ref t ∧ SqT K H t [.int p.1, .int p.2]) ∧ xs.length = ps.length ∧
  ∀ ys p, SrtO.Srtd (ltP k) ys → SrtO.Stb (ltP k) ys xs → xs.map k = ps → H p = none → Q (.ref p) (upd H p (.lst ys))
theorem cr_sortedPS : CallR X (.builtin "sorted") (rSortedPS X.K) := by
  intro pins s σ H vs us Q I r h
  obtain ⟨a, xs, ps, k, rfl, hs, hx, hp, hlen, q⟩ := h
  have hk : xs.map k = ps := by
    apply List.ext_getElem?
    intro i
    rw [List.getElem?_map]
    by_cases hi : i < xs.length
    · have e1 : xs[i]? = some xs[i] := List.getElem?_eq_getElem hi
      have e2 : ps[i]? = some (ps[i]'(hlen ▸ hi)) := List.getElem?_eq_getElem _
      rw [e1, e2]
      obtain ⟨t, et, ht⟩ := hp i _ _ e1 e2
      obtain ⟨t', et', ht'⟩ := hx _ (List.getElem_mem hi)
      rw [et] at et'
      cases et'
      have e := I.tuple_inj ht ht'
      injection e with f1 f2
      injection f2 with f2 _
      injection f1 with f1
      injection f2 with f2
      exact congrArg some (Prod.ext f1.symm f2.symm)
    · rw [List.getElem?_eq_none (by omega), List.getElem?_eq_none (by omega)]
      rfl
  obtain ⟨its, rv, hl, hz⟩ := I.list hs
  obtain ⟨u, rfl, ru⟩ := vals1 r
  obtain rfl : u = Value.ref a := ru
  obtain ⟨e1, e2⟩ := refs_back rv fun x m => by
    obtain ⟨t, e, _⟩ := hx x m
    exact ⟨t, e⟩
  refine SrtO.sorted_pairsO (k := fun u => k (backV u)) hl.isList (by rw [← rv.length]; exact hz) (fun v hv => ?_) fun h' d out h1 h2 kp hd hn => ?_
  · obtain ⟨t, rfl⟩ := e2 v hv
    have hm : V.ref t ∈ xs := by rw [e1]; exact List.mem_map.mpr ⟨_, hv, rfl⟩
    obtain ⟨t', e, ht⟩ := hx _ hm
    cases e
    obtain ⟨its2, r2, ⟨o, ho, hc, n, hd⟩, _⟩ := I.tuple ht
    obtain ⟨u1, u2, rfl, ri, rj⟩ := vals2 r2
    obtain ⟨t1, rfl⟩ := ri
    obtain ⟨t2, rfl⟩ := rj
    exact ⟨t, o, t1, t2, n, rfl, ho, hc, hd⟩
  · have h3 : ∀ u ∈ out, ∃ a, u = Value.ref a := fun u hu => e2 u (h2.perm.mem_iff.mp hu)
    obtain ⟨n, hn⟩ := hn
    have hb : SrtO.Stb (ltP k) (out.map backV) xs := by
      rw [e1]
      exact SrtO.Stb.map (ltP_swo k) backV h2
    refine ⟨.ref d, upd H d (.lst (out.map backV)), I.laid (t' := s.toks) kp hd ⟨?_, out, n, vals_back h3, hn⟩, rfl, q _ d (SrtO.srtd_map h1) hb hk (I.hok.fresh hd)⟩
    rw [hb.len]
    exact hz
def prD (p : Int × Int) : D := .tup [.int p.1, .int p.2]
theorem rp_pr {K : PySem.W.Frag} {H : Hp} {v : V} {p : Int × Int} (h : Rp K H v (prD p)) : ∃ t, v = .ref t ∧ SqT K H t [.int p.1, .int p.2] := by
  obtain ⟨a, xs, rfl, h1, h2⟩ := rp_tup h
  cases h2 with
  | cons b c => cases b; cases c with
    | cons d e => cases d; cases e; exact ⟨a, rfl, h1⟩
theorem rpA_map {K : PySem.W.Frag} {H : Hp} {k : V → Int × Int} : ∀ ys : List V, (∀ y ∈ ys, Rp K H y (prD (k y))) → RpA K H ys ((ys.map k).map prD)
  | [], _ => .nil
  | y :: ys, h => .cons (h y List.mem_cons_self) (rpA_map ys fun z hz => h z (List.mem_cons_of_mem _ hz))
/-- sorted of pairs of ints -/
def cSortP : TrC := fun ws os k => match ws with
  | [w] => ∃ ps : List (Int × Int), LstOf os w (ps.map prD) ∧ ∀ ms : List (Int × Int), ms.Perm ps → ms.Pairwise (fun p q => p.1 < q.1 ∨ (p.1 = q.1 ∧ p.2 ≤ q.2)) → k (.lst (ms.map prD)) os
  | _ => False
theorem cmc_sortP : CmC X (.builtin "sorted") cSortP := by
  intro ws os kk h
  unfold cSortP at h
  split at h
  · obtain ⟨ps, h1, q⟩ := h
    exact JC.mk cr_sortedPS fun F V0 H vs Q r rs c => by
      obtain ⟨v, rfl, rv⟩ := rs.one
      obtain ⟨a, xs, rfl, hs, ra⟩ := lstOf_of r rv h1
      have hl : xs.length = ps.length := by rw [ra.length, List.length_map]
      have hat : ∀ (i : Nat) (x : V) (p : Int × Int), xs[i]? = some x → ps[i]? = some p → Rp X.K V0 x (prD p) := fun i x p e1 e2 => by
        obtain ⟨d, e3, r3⟩ := ra.getV e1
        rw [List.getElem?_map, e2] at e3
        cases e3
        exact r3
      have hch : ∀ x : V, ∃ p : Int × Int, x ∈ xs → Rp X.K V0 x (prD p) := fun x => by
        by_cases hx : x ∈ xs
        · obtain ⟨i, hi⟩ := List.mem_iff_getElem?.mp hx
          have hi2 : i < ps.length := by rw [← hl]; exact (List.getElem?_eq_some_iff.mp hi).1
          exact ⟨ps[i], fun _ => hat i x _ hi (List.getElem?_eq_getElem hi2)⟩
        · exact ⟨(0, 0), fun h => absurd h hx⟩
      let k : V → Int × Int := fun x => Classical.choose (hch x)
      have hk : ∀ x ∈ xs, Rp X.K V0 x (prD (k x)) := fun x hx => Classical.choose_spec (hch x) hx
      refine ⟨a, xs, ps, k, rfl, hs, fun x hx => ?_, fun i x p e1 e2 => ?_, hl, fun ys p g1 g2 g3 hp => ?_⟩
      · obtain ⟨t, e, h⟩ := rp_pr (hk x hx)
        exact ⟨t, e, same_sqT r.vi h⟩
      · obtain ⟨t, e, h⟩ := rp_pr (hat i x p e1 e2)
        exact ⟨t, e, same_sqT r.vi h⟩
      · obtain ⟨s2, r2, rp⟩ := rel_newL r hp (rpA_map (k := k) ys fun y hy => hk y (g2.perm.mem_iff.mp hy))
        refine c _ os _ _ (.lst ((ys.map k).map prD)) s2 r2 rp (q (ys.map k) (g3 ▸ g2.perm.map k) ?_)
        rw [List.pairwise_map]
        refine g1.imp fun {x y} h => ?_
        have := SrtO.lexB_no.mp h
        omega
  · exact h.elim
/-! > of two pairs of ints -/
def rGtP (K : PySem.W.Frag) : R2 := fun x y H Q => ∃ (a b : Addr) (i j i2 j2 : Int), x = .ref a ∧ y = .ref b ∧ SqT K H a [.int i, .int j] ∧ SqT K H b [.int i2, .int j2] ∧ Q (.bl (decide (i2 < i ∨ (i = i2 ∧ j2 < j)))) H
theorem op_gtP (hu : X.A.units < cLine) : OpR X (compareOp .Gt) (rGtP X.K) := by
  intro pins s σ H x y v u Q I rx ry h
  obtain ⟨a, b, i, j, i2, j2, rfl, rfl, ha, hb, q⟩ := h
  cases rx
  cases ry
  obtain ⟨its, r1, p1, _⟩ := I.tuple ha
  obtain ⟨its2, r2, p2, _⟩ := I.tuple hb
  obtain ⟨_, _, rfl, ⟨t1, rfl⟩, ⟨t2, rfl⟩⟩ := vals2 r1
  obtain ⟨_, _, rfl, ⟨t3, rfl⟩, ⟨t4, rfl⟩⟩ := vals2 r2
  have ee : ∀ (x y : Int) (t u : Tok), PySem.SeqAt.EqAt X.A.in1 s (.int x t) (.int y u) (decide (x = y)) := fun x y t u => by
    have z : (x == y) = decide (x = y) := by
      by_cases q : x = y
      · rw [decide_eq_true q]; exact beq_iff_eq.mpr q
      · rw [decide_eq_false q]; exact beq_eq_false_iff_ne.mpr q
    rw [← z]
    exact PySem.SeqAt.EqAt.int_int _ _ _ _
  have R := Ob.RcOp.tuples_gt (A := X.A) (s := s) (e := fun n => if n = 0 then decide (i = i2) else decide (j = j2)) (r := fun n => if n = 0 then decide (i2 < i) else decide (j2 < j)) p1 p2 hu (fun n h1 h2 => by
    match n, h1, h2 with
    | 0, _, _ => exact ee i i2 t1 t3
    | 1, _, _ => exact ee j j2 t2 t4) (fun n h1 h2 _ => by
    match n, h1, h2 with
    | 0, _, _ => exact Ob.RcOp.gt_int _ _ _ _
    | 1, _, _ => exact Ob.RcOp.gt_int _ _ _ _)
  have eb : Ob.lexAt (fun n => if n = 0 then decide (i = i2) else decide (j = j2)) (fun n => if n = 0 then decide (i2 < i) else decide (j2 < j)) false 0 2 = decide (i2 < i ∨ (i = i2 ∧ j2 < j)) := by
    simp only [Ob.lexAt]
    by_cases h1 : i = i2
    · by_cases h2 : j = j2
      · simp [h1, h2]
      · simp [h1, h2]
    · simp [h1]
  have z : wpAny (model X.prog X.w) X.A (compareOp .Gt (.ref a) (.ref b)) (EP X pins σ Q) X.xe s := R X.prog X.w X.xe (EP X pins σ Q) ⟨.bl _, H, I, rfl, by
    have e2 : (Ob.lexAt (fun n => if n = 0 then decide (i = i2) else decide (j = j2)) (fun n => if n = 0 then decide (i2 < i) else decide (j2 < j)) (decide (([Value.int i t1, Value.int j t2] : List Value).toArray.size > ([Value.int i2 t3, Value.int j2 t4] : List Value).toArray.size)) 0 (min ([Value.int i t1, Value.int j t2] : List Value).toArray.size ([Value.int i2 t3, Value.int j2 t4] : List Value).toArray.size)) = decide (i2 < i ∨ (i = i2 ∧ j2 < j)) := eb
    rw [e2]
    exact q⟩
  exact z
def oGtP : TrO := fun x y os k => match x, y with
  | .tup [.int i, .int j], .tup [.int i2, .int j2] => k (.bl (decide (i2 < i ∨ (i = i2 ∧ j2 < j)))) os
  | _, _ => False
theorem cmo_gtP {lvl : Nat} (hr : Room lvl X.A) : CmO X (compareOp .Gt) oGtP := by
  intro x y os k h
  unfold oGtP at h
  split at h
  · rename_i i j i2 j2
    refine JO.mk (op_gtP (by have := hr.units; omega)) fun F V0 H v u Q r rx ry c => ?_
    obtain ⟨t, rfl, h1⟩ := rp_pr (p := (i, j)) rx
    obtain ⟨t2, rfl, h2⟩ := rp_pr (p := (i2, j2)) ry
    exact ⟨t, t2, i, j, i2, j2, rfl, rfl, same_sqT r.vi h1, same_sqT r.vi h2, c V0 os H _ _ (Same.refl _) r rwB h⟩
  · exact h.elim
end
end EV

set_option Elab.async false
set_option linter.all false
set_option maxRecDepth 100000
/-! E19: the law's own def, called from the top (no repr is under way there); repr of data. -/
namespace EV
open PySem PySem.Spec PyProof.Rows L2
/-- the table of modules stands below -/
def SysIn (base : Heap) : Prop := ∃ (o : Obj) (es : Array DictEntry) (n : Nat), base.get? sysModules = some o ∧ o.data = .dict es n
/-- what the law's def promises when the top calls it -/
structure FnAt (P : Program) (w : World) (K : PySem.W.Frag) (mg : Str → Option Value) (base : Heap) (k : Nat) (f : Addr) (fd : FuncData) (ps : List Str) (sp : Sp) : Prop where
  run : ∀ (s : Shared) (H : Hp) (args : Args) (us : List Value) (vs : List V) (Q : VK), Room k callerA → Env0 P w K mg base callerA [] s H → BindsTo s fd args (ps.zip us) → Vals vs us → sp vs H Q (fun _ _ _ => False) →
    codeAny (model P w) callerA (.call (.ref f) args) (CR (L2.CX P w) [] P w H s Q fun _ _ _ => False) s
theorem FnAt.imp {P : Program} {w : World} {K : PySem.W.Frag} {mg : Str → Option Value} {base : Heap} {k : Nat} {f : Addr} {fd : FuncData} {ps : List Str} {sp sp2 : Sp} (F : FnAt P w K mg base k f fd ps sp) (h : ∀ vs H Q E, sp2 vs H Q E → sp vs H Q E) : FnAt P w K mg base k f fd ps sp2 :=
  ⟨fun s H args us vs Q hr he hb hv hs => F.run s H args us vs Q hr he hb hv (h _ _ _ _ hs)⟩
section
variable {P : Program} {w : World} {K : PySem.W.Frag} {mg : Str → Option Value} {base : Heap}
theorem atX {x qual : Str} {st : Stmt} {f : Addr} {fd : FuncData} {N ps : List Str} {k n m : Nat} {tb : TrS} (F : Fun K x qual st f fd) (sc : FnScope N ps (defScope st)) (hn : ps.length = n) (hm : N.length = m) (hnm : n ≤ m)
    (h : ∀ (cdv : Value) (s : Shared) (H : Hp), Room k (callerA.deeper (envOfC qual (defScope st) s.heap.objs.size f cdv)) →
      CmSs (cxOf (L2.CX P w) P w K mg base N qual (defScope st) f cdv callerA [] s H fun _ _ _ => False) (defBody st) tb) : FnAt P w K mg base (k + 1) f fd ps (spX K n (fnT m tb)) := by
  obtain ⟨oc, od, kV, doc, pm, an, cdv, ct, osl, rfl, lk, hcd⟩ := F.ex
  refine ⟨fun s H args us vs Q hr e0 hb rv hsp => ?_⟩
  have sp0 := hsp
  obtain ⟨hl, F0, V0, os, ws, k0, x0, r, ra, hT, c, cx⟩ := hsp
  have hlp : vs.length = ps.length := hl.trans hn.symm
  have KX : K.In s.heap := e0.mod.kin.keeps fun b o e => (e0.bs b o e).1
  have lim : s.heap.NoLimit := e0.mod.nolimit.keeps fun b o e => (e0.bs b o e).1
  have hkind : ∀ y ∈ ps.zip us, (defScope st).names.lookup y.1 = some .local ∨ ((defScope st).names.lookup y.1 = some .cell ∧ ((cellsFrom (s.heap.objs.size + 1) (defScope st).names []).lookup y.1).isSome = true) := by
    rintro ⟨n1, v1⟩ hy
    exact (sc.par n1 (List.of_mem_zip hy).1).imp id fun q => ⟨q, PySem.W.cellsFrom_some _ _ _ (.inl q)⟩
  refine codeAny_call_function hr.depth (KX _ _ lk) rfl sc.co sc.gen rfl (PySem.W.codeRec_of KX hcd) (hb _ _ _ _ ?_)
  refine wpAny_newFunctionEnv_cells sc.kind hkind fun env he s1 x => ?_
  subst he
  refine ⟨lim.keeps x.toInCall.keep, codeAny_func ?_⟩
  have hw : ws.length ≤ N.length := by rw [← ra.length]; omega
  have I := inv_start (CX := L2.CX P w) (E := fun _ _ _ => False) sc hr.hd e0 hlp rv x
  subst hm
  have ht : wSs (cxOf (L2.CX P w) P w K mg base N qual (defScope st) f cdv callerA [] s H fun _ _ _ => False) (defBody st) { nx := fun _ H' => Q .non H', rt := Q } (L2.start N vs) H := by
    refine h cdv s H (hr.deeper _) _ _ _ _ hT F0 V0 H _ _ (fun _ _ _ _ => False) r (sr_startE ra hw) ⟨fun V1 os1 H1 σ1 env1 s1 r1 sr1 q => ?_, fun V1 os1 H1 v w s1 r1 rv q => ?_, fun _ _ _ _ _ _ _ _ z => z.elim, fun _ _ _ _ _ _ _ _ z => z.elim,
      takes_of rfl rfl rfl rfl, fun V1 os1 H1 σ1 env1 cls d x s1 r1 sr1 ex q => ?_⟩
    · obtain ⟨os2, hs, q⟩ := dropX_of q
      exact c V1 os2 H1 _ _ s1 (r1.wk hs) rwN q
    · obtain ⟨os2, hs, q⟩ := dropX_of q
      exact c V1 os2 H1 v w s1 (r1.wk hs) rv q
    · obtain ⟨os2, hs, q⟩ := dropE_of q
      exact cx V1 os2 H1 cls d x s1 (r1.wk hs) ex q
  refine wpAny_mono (wSs_pss.run [] s1 (L2.start N vs) H _ I ht) (fun fl s2 hs => ?_) fun e s2 hs => hs
  cases fl with
  | ret u =>
    obtain ⟨v, σ2, H2, J, rv2, q⟩ := hs
    exact ⟨v, H2, J.os, J.bare, J.base, J.hok, rv2, q⟩
  | next =>
    obtain ⟨σ2, H2, J, q⟩ := hs
    exact ⟨V.non, H2, J.os, J.bare, J.base, J.hok, rfl, q⟩
  | brk => exact hs.elim fun _ z => z.elim fun _ z => z.2.elim
  | cont => exact hs.elim fun _ z => z.elim fun _ z => z.2.elim
end
/-- the law's def from the top, over any ground of tracked things -/
theorem top_at {P : Program} {w : World} {K : PySem.W.Frag} {mg mb : Str → Option Value} {k : Nat} {fa a : Addr} {fd : FuncData} {x : Str} {sp : Sp} {s1 : Shared} {us : List Value} {H : Hp}
    (KX : K.In s1.heap) (hm : s1.heap.Ns mainGlobals mg) (hb : s1.heap.Ns builtinsNs mb) (hbb : ∀ x : Str, x ≠ "__name__" → mb x = bootBuiltins x) (hlim : s1.heap.NoLimit) (hg : s1.gens = #[])
    (ha : s1.heap.get? a = some { cls := .type "list", data := .seq us.toArray }) (hr : Room k callerA) (F : ∀ base : Heap, K.In base → base.Ns mainGlobals mg → (SysIn s1.heap → SysIn base) → FnAt P w K mg base k fa fd [x] sp)
    (hbind : ∀ (s : Shared) (u : Value), BindsTo s fd ⟨[u], []⟩ [(x, u)]) (hO : Only H) (hok : HOk P w H s1.heap) (hA : ∀ b, H b ≠ none → b = a) (hK : H a ≠ none → K.lookup a = none)
    (hsp : sp [.ref a] H (fun v _ => v = .bl true) fun _ _ _ => False) :
    codeAny (model P w) callerA (.call (.ref fa) ⟨[.ref a], []⟩) (fun r s2 => r = .ok (.ret (.bool true)) ∧ OldK s1.heap s2.heap ∧ s2.os = s1.os ∧ AllBare s2.gens) s1 := by
  have seen : ∀ {b : Addr} {o : Obj}, s1.heap.get? b = some o → (b ≠ a ∨ H a = none) → (hidT s1.heap H).get? b = some o := fun {b o} e h => hidT_get e (by
    by_cases hn : H b = none
    · exact hn
    · have eb := hA b hn
      subst eb
      exact h.elim (fun z => absurd rfl z) id)
  have notD : ∀ {b : Addr} {o : Obj} {es : Array DictEntry} {ep : Nat}, s1.heap.get? b = some o → o.data = .dict es ep → b ≠ a := fun {b o es ep} e d z => by
    rw [z, ha] at e
    cases e
    cases (show Data.seq us.toArray _ = Data.dict es ep from d)
  have nsT : ∀ {b : Addr} {m : Str → Option Value}, s1.heap.Ns b m → (hidT s1.heap H).Ns b m := fun ⟨o, es, ep, e, d, r⟩ => ⟨o, es, ep, seen e (.inl (notD e d)), d, r⟩
  have KT : K.In (hidT s1.heap H) := fun b o e => seen (KX b o e) (by
    by_cases hn : H a = none
    · exact .inr hn
    · refine .inl fun z => ?_
      rw [z, hK hn] at e
      cases e)
  have limT : (hidT s1.heap H).NoLimit := by
    obtain ⟨mc, h1, h2⟩ := hlim
    exact ⟨mc, nsT h1, h2⟩
  have noF : ∀ {b : Addr}, b ∈ ([] : List Addr) → False := fun z => nomatch z
  have env : Env0 P w K mg (hidT s1.heap H) callerA [] s1 H := ⟨rfl, ⟨KT, nsT hm, ⟨mb, nsT hb, hbb⟩, limT⟩, fun _ _ e => of_hidT e, Nat.le_of_eq (hidT_size _ _), trivial, fun _ z => (noF z).elim, hok, .of_eq hg⟩
  have run := (F _ KT (nsT hm) fun ⟨o, es, n, e, d⟩ => ⟨o, es, n, seen e (.inl (notD e d)), d⟩).run s1 H ⟨[.ref a], []⟩ [.ref a] [.ref a] _ hr env (hbind s1 (.ref a)) (.cons rfl .nil) hsp
  refine codeAny_mono run fun r s2 h => ?_
  match r, h with
  | .error e, h => exact (cx_no h).elim
  | .ok .next, h => exact False.elim h
  | .ok .brk, h => exact False.elim h
  | .ok .cont, h => exact False.elim h
  | .ok (.ret u), ⟨v, H2, eos, bare, un, hok2, rv, q⟩ =>
    have q2 : v = .bl true := q
    subst q2
    obtain rfl : u = Value.bool true := rv
    refine ⟨rfl, OldK.of_keep fun b o e => ?_, eos, bare⟩
    rcases hO b with z | ⟨ob, xs, z⟩
    · exact un.keep b o e z (fun z => (noF z).elim) fun z => (noF z).elim
    · obtain ⟨e1, _⟩ := hok b _ z
      obtain ⟨e2, _⟩ := hok2 b _ (un.frzs b ob _ z)
      rw [e] at e1
      cases e1
      exact e2
theorem top_law {P : Program} {w : World} {K : PySem.W.Frag} {mg mb : Str → Option Value} {k : Nat} {fa a : Addr} {fd : FuncData} {x : Str} {sp : Sp} {s1 : Shared} {us : List Value} {ns : List Int}
    (KX : K.In s1.heap) (hm : s1.heap.Ns mainGlobals mg) (hb : s1.heap.Ns builtinsNs mb) (hbb : ∀ x : Str, x ≠ "__name__" → mb x = bootBuiltins x) (hlim : s1.heap.NoLimit) (hg : s1.gens = #[])
    (ha : s1.heap.get? a = some { cls := .type "list", data := .seq us.toArray }) (hi : IntsAre us ns) (hl : ns.length ≤ sizeLine) (hr : Room k callerA) (F : ∀ base : Heap, K.In base → base.Ns mainGlobals mg → (SysIn s1.heap → SysIn base) → FnAt P w K mg base k fa fd [x] sp)
    (hbind : ∀ (s : Shared) (u : Value), BindsTo s fd ⟨[u], []⟩ [(x, u)]) (hsp : ∀ H : Hp, SqL K H a (ns.map V.int) → sp [.ref a] H (fun v _ => v = .bl true) fun _ _ _ => False) :
    codeAny (model P w) callerA (.call (.ref fa) ⟨[.ref a], []⟩) (fun r s2 => r = .ok (.ret (.bool true)) ∧ OldK s1.heap s2.heap ∧ s2.os = s1.os ∧ AllBare s2.gens) s1 := by
  have rv := vals_ints hi
  have lu := hi.length
  by_cases hk : K.lookup a = none
  · let H : Hp := fun b => if b = a then some (.frz { cls := .type "list", data := .seq us.toArray } (.lst (ns.map V.int))) else none
    have Ha : H a = some (.frz { cls := .type "list", data := .seq us.toArray } (.lst (ns.map V.int))) := if_pos rfl
    have Hn : ∀ {b : Addr}, b ≠ a → H b = none := fun h => if_neg h
    refine top_at (H := H) KX hm hb hbb hlim hg ha hr F hbind (fun b => ?_) (fun b u z => ?_) (fun b z => ?_) (fun _ => hk) (hsp H (.inl (.inr ⟨_, Ha⟩)))
    · by_cases h : b = a
      · exact .inr ⟨_, _, h ▸ Ha⟩
      · exact .inl (Hn h)
    · by_cases h : b = a
      · subst h
        rw [Ha] at z
        cases z
        exact ⟨ha, by rw [List.length_map]; exact hl, us, _, rv, ha⟩
      · rw [Hn h] at z
        cases z
    · by_cases h : b = a
      · exact h
      · exact absurd (Hn h) z
  · obtain ⟨o, ho⟩ := Option.ne_none_iff_exists'.mp hk
    have e := KX a o ho
    rw [ha] at e
    cases e
    exact top_at (H := fun _ => none) KX hm hb hbb hlim hg ha hr F hbind (fun _ => .inl rfl) (fun b u z => nomatch z) (fun b z => absurd rfl z) (fun z => absurd rfl z)
      (hsp _ (.inr ⟨_, us.toArray, _, ho, rfl, rfl, rfl, by rw [List.size_toArray, lu]; exact hl, by simpa using rv⟩))
theorem walk_at_top {l : PySem.W.OpenLaw} {k : Nat} {q : Program} {loose : List Str} {XP : (Str → Option Value) → Heap → Prop} {YP : World → Heap → Prop} {d : DefRec} {K : Params → PySem.W.Frag} {x : Str} {T : FT}
    (hn : l.most = some 63) (hdf : d.params.defaults = []) (hr : Room k callerA) (hY : ∀ (w : World) (h : Heap), YP w h → (K w.params).In h)
    (F : ∀ (w : World) (mg : Str → Option Value) (fa : Addr) (h : Heap), (K w.params).In h → h.Ns mainGlobals mg → mg d.name = some (.ref fa) →
      ∃ fd : FuncData, (∀ (s : Shared) (u : Value), BindsTo s fd ⟨[u], []⟩ [(x, u)]) ∧ ∀ base : Heap, (K w.params).In base → base.Ns mainGlobals mg → (importsNone q = true → SysIn base) → FnAt l.prog w (K w.params) mg base k fa fd [x] (spX (K w.params) 1 T))
    (hT : ∀ ns : List Int, ns.length ≤ 63 → T [.lst (ns.map D.int)] [] (fun w _ => w = .bl true) (fun _ _ => False)) : PySem.W.WalkO q loose XP YP l.row.toRowW d [] (fun f vs => PySem.call f vs) := by
  refine Att.attach_call hn hdf fun w s0 s1 mg mb fa o pm cd doc a us ns G Y ho hd hcd hmg hobj hints hlen hg => ?_
  have KX := hY w _ Y
  obtain ⟨fd, hb, hF⟩ := F w mg fa _ KX G.T.g hmg
  refine top_law KX G.T.g G.T.b G.T.builtins G.T.nolimit hg hobj hints (Nat.le_trans hlen (by decide)) hr (fun base h1 h2 h3 => hF base h1 h2 fun hq => h3 ?_) hb fun H hS => law_spX (K w.params) T hT H a ns hlen hS
  obtain ⟨mm, ⟨o, es, ep, e, r⟩, _⟩ := (G.T.seer hq).mods
  exact ⟨o, es, ep, e, r.1⟩
/-! ### repr of data -/
def isTL : D → Bool
  | .tup _ => true
  | .lst _ => true
  | _ => false
section
variable {X : Cx}
def rRepr (K : PySem.W.Frag) : List V → Hp → VK → Prop := fun xs H Q => ∃ (a : Addr) (d : PyData), xs = [.ref a] ∧ Dp K H (.ref a) d ∧ d.showable = true ∧ d.hasDict = false ∧ d.depth ≤ 64 ∧ d.shown.length ≤ sizeLine ∧ Q (.str d.shown) H
theorem cr_repr (hg : X.A.guards = some []) (hu : X.A.units + 80 < cLine) : CallR X (.builtin "repr") (rRepr X.K) := by
  intro pins s σ H xs us Q I r h
  obtain ⟨a, d, rfl, hd, hs, hn, hdp, hz, q⟩ := h
  obtain ⟨u, rfl, ru⟩ := r.one
  obtain ⟨as, rd⟩ := Dp.reads I d _ u hd ru
  cases ru
  exact repr_of_reads' rd hs (PyData.noDict_hsm hn) hg (by omega) (fun _ _ e => e) (fun h2 u2 tk hk => ⟨.str _, H, I.kept hk, ⟨_, rfl⟩, q⟩) hz
def cRepr : TrC := fun ws os k => match ws with
  | [w] => ∃ d, AsD os w d ∧ shp d 60 = true ∧ (toP d).showable = true ∧ isTL d = true ∧ (toP d).shown.length ≤ sizeLine ∧ k (.str (toP d).shown) os
  | _ => False
theorem cmc_repr {lvl : Nat} (hg : X.A.guards = some []) (hr : Room lvl X.A) : CmC X (.builtin "repr") cRepr := by
  intro ws os k h
  unfold cRepr at h
  split at h
  · obtain ⟨d, h1, h2, h3, h4, h5, q⟩ := h
    refine JC.mk (cr_repr hg (by have := hr.un; omega)) fun F V0 H vs Q r rs c => ?_
    obtain ⟨v, rfl, rv⟩ := rs.one
    have hd := asD_dp r h1 h2 rv
    obtain ⟨l1, l2⟩ := shp_lay h2
    have hv : ∃ a, v = .ref a := by
      cases d with
      | lst ds => cases hd; exact ⟨_, rfl⟩
      | tup ds => cases hd; exact ⟨_, rfl⟩
      | _ => cases h4
    obtain ⟨a, rfl⟩ := hv
    exact ⟨a, toP d, rfl, hd, h3, PyData.hasDict_of_canLay _ l1, by omega, h5, c V0 os H _ _ (Same.refl _) r rwS q⟩
  · exact h.elim
end
/-! a bound of a text that repr gives -/
mutual
def shwOk : D → Bool
  | .non => true
  | .bl _ => true
  | .int i => decide (-10000000000000000000000000000000000000000 < i ∧ i < 10000000000000000000000000000000000000000)
  | .str x => x.cps.toList.all fun c => decide (c < 65536)
  | .tup ds => shwOkA ds
  | .lst ds => shwOkA ds
  | _ => false
def shwOkA : List D → Bool
  | [] => true
  | d :: ds => shwOk d && shwOkA ds
end
mutual
def shwN : D → Nat
  | .int _ => 45
  | .str x => 10 * x.length + 2
  | .tup ds => 5 + shwNA ds
  | .lst ds => 5 + shwNA ds
  | _ => 5
def shwNA : List D → Nat
  | [] => 0
  | d :: ds => shwN d + 2 + shwNA ds
end
theorem int_shw {i : Int} (h : -10000000000000000000000000000000000000000 < i ∧ i < 10000000000000000000000000000000000000000) : (PyData.int i).showable = true ∧ (PyData.int i).shown.length ≤ 45 := by
  have hn : i.natAbs < 10 ^ 40 := by
    have e : (10 : Nat) ^ 40 = 10000000000000000000000000000000000000000 := by decide
    rw [e]
    omega
  constructor
  · rw [PyData.showable]
    refine decide_eq_true ?_
    by_cases h0 : i.natAbs = 0
    · rw [h0]
      decide
    · have : i.natAbs < 2 ^ 1920 := Nat.lt_of_lt_of_le hn (by decide +kernel)
      exact (Nat.log2_lt h0).mpr this
  · rw [PyData.shown, PySem.ofString_length]
    have := int_text_length_le10 (a := i) (k := 40) (by decide) hn
    omega
theorem shownAll_map (ds : List D) : PyData.shownAll (toPs ds) = ds.map fun d => (toP d).shown := by
  induction ds with
  | nil => rfl
  | cons d ds ih => rw [toPs, PyData.shownAll, ih]; rfl
mutual
theorem shw_of : ∀ {d : D}, shwOk d = true → (toP d).showable = true ∧ (toP d).shown.length ≤ shwN d
  | .non, _ => ⟨by simp [toP, PyData.showable], by rw [toP, PyData.shown]; decide⟩
  | .bl b, _ => ⟨by simp [toP, PyData.showable], by rw [toP, PyData.shown]; cases b <;> decide⟩
  | .int i, h => by
    rw [shwOk, decide_eq_true_iff] at h
    rw [toP]
    exact int_shw h
  | .str x, h => by
    rw [shwOk, List.all_eq_true] at h
    rw [toP]
    refine ⟨by simp [PyData.showable], ?_⟩
    rw [PyData.shown]
    exact StrLaws.reprText_len x fun c hc => Nat.lt_of_lt_of_le (of_decide_eq_true (h c hc)) (by decide)
  | .tup ds, h => by
    rw [shwOk] at h
    obtain ⟨h1, h2, h3⟩ := shwA_of h
    rw [toP, PyData.showable, PyData.shown, shwN]
    have := tupleText_len_le (PyData.shownAll (toPs ds))
    exact ⟨h1, by omega⟩
  | .lst ds, h => by
    rw [shwOk] at h
    obtain ⟨h1, h2, h3⟩ := shwA_of h
    rw [toP, PyData.showable, PyData.shown, shwN]
    have := listText_len_le (PyData.shownAll (toPs ds))
    exact ⟨h1, by omega⟩
  | .ty _, h => by cases h
  | .dK _, h => by cases h
  | .dT _, h => by cases h
  | .exn .., h => by cases h
  | .ref _, h => by cases h
theorem shwA_of : ∀ {ds : List D}, shwOkA ds = true → PyData.showableAll (toPs ds) = true ∧ ((PyData.shownAll (toPs ds)).map (·.length)).sum + 2 * (PyData.shownAll (toPs ds)).length ≤ shwNA ds ∧ True
  | [], _ => ⟨by rw [toPs, PyData.showableAll], by rw [toPs, PyData.shownAll]; exact Nat.le_refl _, trivial⟩
  | d :: ds, h => by
    rw [shwOkA, Bool.and_eq_true] at h
    obtain ⟨h1, h2⟩ := shw_of h.1
    obtain ⟨h3, h4, _⟩ := shwA_of h.2
    rw [toPs, PyData.showableAll, PyData.shownAll, shwNA, List.map_cons, List.sum_cons, List.length_cons, h1, h3]
    exact ⟨rfl, by omega, trivial⟩
end
theorem cRepr_of {d : D} {os : Os} {k : D → Os → Prop} (h1 : shp d 60 = true) (h2 : shwOk d = true) (h3 : isTL d = true) (h4 : shwN d ≤ sizeLine) (q : k (.str (toP d).shown) os) : cRepr [d] os k :=
  ⟨d, .same d, h1, (shw_of h2).1, h3, Nat.le_trans (shw_of h2).2 h4, q⟩
end EV

set_option Elab.async false
set_option linter.all false
set_option maxRecDepth 100000
/-! E20: dicts written out; repr of data with dicts. -/
namespace EV
open PySem PySem.Spec PyProof.Rows L2
section
variable {X : Cx} {pos : Pos}
/-- the pairs of a dict that is written out, its keys constants -/
structure CmP (X : Cx) (pos : Pos) (keys : List (Option Expr)) (values : List Expr) (ks : List Key) (tl : TrA) : Prop where
  ex : ∃ trs, PPs X pos keys values trs ∧ ∀ (kx : Kx) (env : DEnv) (os : Os) (kl : List D → Os → Prop), tl kx env os kl → ∀ (F V0 H : Hp) (σ : L2.St) (Q : List (V × V) → Hp → Prop) (W : WX), Rel X.K F V0 os H → SR X.K V0 σ env → XkOk X F V0 σ kx W →
    (∀ (V1 : Hp) (os1 : Os) (H1 : Hp) (vs : List V) (ws : List D), Same V0 V1 → Rel X.K F V1 os1 H1 → RpA X.K V1 vs ws → vs.length = ks.length → kl ws os1 → Q ((ks.zip vs).map fun kv => (kV kv.1, kv.2)) H1) → tPairs trs σ H Q
theorem cp_nil : CmP X pos [] [] [] aN := ⟨[], pps_nil, fun kx env os kl q F V0 H σ Q W r sr ek c => c V0 os H [] [] (Same.refl _) r .nil rfl q⟩
theorem cp_consK {k v : Expr} {keys : List (Option Expr)} {values : List Expr} {ky : Key} {ks : List Key} {tv : TrE} {tl : TrA} (hk : PE X k (tC (kV ky))) (hv : Cm X v tv) (h : CmP X pos keys values ks tl) :
    CmP X pos (some k :: keys) (v :: values) (ky :: ks) (aC tv tl) := by
  obtain ⟨trs, p, run⟩ := h.ex
  refine ⟨_, pps_cons hk (wE_pe (X := X) (e := v)) p, fun kx env os kl q F V0 H σ Q W r sr ek c => ?_⟩
  refine hv _ _ _ _ q F V0 H σ _ W r sr ek fun V1 os1 H1 y w s1 r1 rv q => ?_
  refine run kx env os1 _ q F V1 H1 σ _ W r1 (sr.mono s1) (ek.mono s1) fun V2 os2 H2 vs ws s2 r2 rs hl q => ?_
  exact c V2 os2 H2 (y :: vs) (w :: ws) (s1.trans s2) r2 (.cons (rv.mono s2) rs) (congrArg (· + 1) hl) q
theorem cp_str {x : Str} {j} {p : Pos} {v : Expr} {keys : List (Option Expr)} {values : List Expr} {ks : List Key} {tv : TrE} {tl : TrA} (hv : Cm X v tv) (h : CmP X pos keys values ks tl) :
    CmP X pos (some (.Constant (.str x) j p) :: keys) (v :: values) (.inr x :: ks) (aC tv tl) := cp_consK (ky := .inr x) pe_str hv h
theorem cp_int {x : Int} {j} {p : Pos} {v : Expr} {keys : List (Option Expr)} {values : List Expr} {ks : List Key} {tv : TrE} {tl : TrA} (hv : Cm X v tv) (h : CmP X pos keys values ks tl) :
    CmP X pos (some (.Constant (.int x) j p) :: keys) (v :: values) (.inl x :: ks) (aC tv tl) := cp_consK (ky := .inl x) pe_int hv h
@[irreducible] def atK (os : Os) (p : Addr) (k : Nat → Prop) : Prop := ∃ n : Nat, os[n]? = some (p, OO.dK []) ∧ k n
theorem atK_mk {os : Os} {p : Addr} {k : Nat → Prop} (n : Nat) (h : os[n]? = some (p, OO.dK [])) (q : k n) : atK os p k := by unfold atK; exact ⟨n, h, q⟩
theorem atK_of {os : Os} {p : Addr} {k : Nat → Prop} (h : atK os p k) : ∃ n : Nat, os[n]? = some (p, OO.dK []) ∧ k n := by unfold atK at h; exact h
def eDisp (ks : List Key) (tl : TrA) : TrE := fun kx env os k => ∀ p, tl kx env ((p, .dK []) :: os) fun ws os2 => atK os2 p fun n => k (.ref p) (os2.set n (p, .dK (ks.zip ws)))
theorem zip_fst {α β : Type} : ∀ (l : List α) (r : List β), ((l.zip r).map (·.1)).Sublist l
  | [], _ => .slnil
  | _ :: _, [] => by rw [List.zip_nil_right]; exact List.nil_sublist _
  | a :: l, b :: r => (zip_fst l r).cons_cons a
theorem mergeK_new : ∀ (more kvs : List (Key × V)), ((kvs ++ more).map (·.1)).Nodup → mergeK kvs more = kvs ++ more
  | [], kvs, _ => (List.append_nil _).symm
  | p :: r, kvs, h => by
    have h1 : ¬ (kvs.any fun kv => decide (kv.1 = p.1)) = true := fun z => by
      obtain ⟨q, hq, e⟩ := List.any_eq_true.mp z
      rw [List.map_append, List.nodup_append] at h
      exact h.2.2 q.1 (List.mem_map.mpr ⟨q, hq, rfl⟩) p.1 (List.mem_map.mpr ⟨p, List.mem_cons_self, rfl⟩) (of_decide_eq_true e)
    have e1 : putK kvs p.1 p.2 = kvs ++ [p] := by
      unfold putK
      rw [if_neg h1]
    show mergeK (putK kvs p.1 p.2) r = _
    rw [e1, mergeK_new r (kvs ++ [p]) (by rw [List.append_assoc]; exact h), List.append_assoc]
    rfl
theorem rpK_zip {K : PySem.W.Frag} {V0 : Hp} : ∀ {ks : List Key} {vs : List V} {ws : List D}, RpA K V0 vs ws → RpK K V0 (ks.zip vs) (ks.zip ws)
  | [], _, _, _ => by rw [List.zip_nil_left, List.zip_nil_left]; exact .nil
  | _ :: _, _, _, .nil => by rw [List.zip_nil_right, List.zip_nil_right]; exact .nil
  | _ :: ks, _, _, .cons h r => .cons h (rpK_zip r)
theorem cm_disp {keys : List (Option Expr)} {values : List Expr} {ks : List Key} {tl : TrA} (h : CmP X pos keys values ks tl) (hall : keys.all (·.isSome) = true) (hl : keys.length = values.length) (h0 : keys ≠ []) (h15 : keys.length ≤ 15) (hk : ks.length ≤ 15) (hnd : ks.Nodup) :
    Cm X (.Dict keys values pos) (eDisp ks tl) := by
  obtain ⟨trs, p, run⟩ := h.ex
  intro kx env os k q F V0 H σ Q W r sr ek c
  refine wE_of (pe_disp p hall hl h0 h15) fun a ha => ?_
  refine run _ _ _ _ (q a) F V0 _ σ _ W (r.addO ha (oo := .dK []) ⟨[], rfl, .nil⟩) sr ek fun V1 os1 H1 vs ws s1 r1 rs hlv q => ?_
  obtain ⟨n, ho, q⟩ := atK_of q
  obtain ⟨_, _, oo, h3, us, rfl, h4⟩ := r1.own _ (List.mem_of_getElem? ho)
  cases h4
  refine ⟨h3, ks.zip vs, rfl, Nat.le_trans (by rw [List.length_zip]; exact Nat.min_le_left _ _) hk, ?_⟩
  have hn : ((([] : List (Key × V)) ++ ks.zip vs).map (·.1)).Nodup := by
    rw [List.nil_append]
    exact hnd.sublist (zip_fst _ _)
  rw [mergeK_new _ [] hn, List.nil_append]
  exact c V1 _ _ (.ref a) _ s1 (r1.mut ho (oo' := .dK (ks.zip ws)) ⟨_, rfl, rpK_zip rs⟩) (.ref a) q
end
/-! ### repr of things that have dicts inside -/
mutual
/-- w, read whole -/
inductive AsP (os : Os) : D → PyData → Prop
  | non : AsP os .non .none
  | bl (b : Bool) : AsP os (.bl b) (.bool b)
  | int (i : Int) : AsP os (.int i) (.int i)
  | str (x : Str) : AsP os (.str x) (.str x)
  | tup {ws : List D} {ds : List PyData} : AsPs os ws ds → AsP os (.tup ws) (.tuple ds)
  | lst {ws : List D} {ds : List PyData} : AsPs os ws ds → AsP os (.lst ws) (.list ds)
  | own {p : Addr} {n : Nat} {ws : List D} {ds : List PyData} : os[n]? = some (p, .lst ws) → AsPs os ws ds → AsP os (.ref p) (.list ds)
  | dK {kvs : List (Key × D)} {es : List (PyData × PyData)} : AsPk os kvs es → AsP os (.dK kvs) (.dict es)
  | ownK {p : Addr} {n : Nat} {kvs : List (Key × D)} {es : List (PyData × PyData)} : os[n]? = some (p, .dK kvs) → AsPk os kvs es → AsP os (.ref p) (.dict es)
inductive AsPs (os : Os) : List D → List PyData → Prop
  | nil : AsPs os [] []
  | cons {w : D} {d : PyData} {ws : List D} {ds : List PyData} : AsP os w d → AsPs os ws ds → AsPs os (w :: ws) (d :: ds)
inductive AsPk (os : Os) : List (Key × D) → List (PyData × PyData) → Prop
  | nil : AsPk os [] []
  | int {i : Int} {w : D} {d : PyData} {ws : List (Key × D)} {ds : List (PyData × PyData)} : AsP os w d → AsPk os ws ds → AsPk os ((.inl i, w) :: ws) ((.int i, d) :: ds)
  | str {x : Str} {w : D} {d : PyData} {ws : List (Key × D)} {ds : List (PyData × PyData)} : AsP os w d → AsPk os ws ds → AsPk os ((.inr x, w) :: ws) ((.str x, d) :: ds)
end
section
variable {X : Cx} {pins : List (Addr × Obj)} {σ : L2.St} {H F V0 : Hp} {s : Shared} {os : Os}
theorem not_sys (I : Inv X pins σ H s) (hb : SysIn X.base) {a : Addr} {o : Obj} {vs : Array Value} {n : Nat} (h : s.heap.get? a = some o) (hd : o.data = .seq vs n) : a ≠ sysModules := fun e => by
  obtain ⟨o2, es, m, h2, h3⟩ := hb
  have h4 := I.bk _ _ h2
  rw [e, h4] at h
  cases h
  rw [hd] at h3
  cases h3
theorem not_mem_app {a : Addr} {l m : List Addr} (h1 : a ∉ l) (h2 : a ∉ m) : a ∉ l ++ m := fun h => (List.mem_append.mp h).elim h1 h2
theorem not_mem_con {a b : Addr} {l : List Addr} (h1 : b ≠ a) (h2 : a ∉ l) : a ∉ b :: l := fun h => (List.mem_cons.mp h).elim (fun e => h1 e.symm) h2
def pkD : Key → PyData
  | .inl i => .int i
  | .inr x => .str x
theorem key_reads {h : Heap} {k : Key} {u : Value} (e : keyIs k u = true) : Reads h u (pkD k) [] := by
  rcases keyIs_shape e with ⟨i, t, rfl, rfl⟩ | ⟨x, t, rfl, rfl⟩
  · exact Reads.int i t
  · exact Reads.str x t
mutual
theorem asP_reads (I : Inv X pins σ H s) (hb : SysIn X.base) (r : Rel X.K F V0 os H) : ∀ {w : D} {d : PyData} {v : V} {u : Value}, AsP os w d → Rp X.K V0 v w → RelV v u → ∃ as, Reads s.heap u d as ∧ sysModules ∉ as
  | _, _, _, _, .non, rv, ru => by cases rv; cases ru; exact ⟨_, Reads.none, fun h => nomatch h⟩
  | _, _, _, _, .bl b, rv, ru => by cases rv; cases ru; exact ⟨_, Reads.bool b, fun h => nomatch h⟩
  | _, _, _, _, .int i, rv, ru => by cases rv; obtain ⟨t, rfl⟩ := ru; exact ⟨_, Reads.int i t, fun h => nomatch h⟩
  | _, _, _, _, .str x, rv, ru => by cases rv; obtain ⟨t, rfl⟩ := ru; exact ⟨_, Reads.str x t, fun h => nomatch h⟩
  | _, _, _, _, .tup h, rv, ru => by
    cases rv with
    | tup h1 h2 =>
      cases ru
      obtain ⟨its, rvs, ⟨o, ho, hc, n, hd⟩, _⟩ := I.tuple (same_sqT r.vi h1)
      obtain ⟨as, q1, q2⟩ := asPs_reads I hb r h h2 rvs
      exact ⟨_, Reads.tuple ho hc hd q1, q2⟩
  | _, _, _, _, .lst h, rv, ru => by
    cases rv with
    | lst h1 h2 =>
      cases ru
      obtain ⟨its, rvs, ⟨o, n, ho, hc, _, hd⟩, _⟩ := I.list (r.vi.seq h1)
      obtain ⟨as, q1, q2⟩ := asPs_reads I hb r h h2 rvs
      exact ⟨_, Reads.list ho hc hd q1, not_mem_con (not_sys I hb ho hd) q2⟩
  | _, _, _, _, .own ho h, rv, ru => by
    obtain rfl := rv.toRef
    cases ru
    obtain ⟨_, _, oo, h3, vs, rfl, h4⟩ := r.own _ (List.mem_of_getElem? ho)
    obtain ⟨its, rvs, ⟨o, n, ho, hc, _, hd⟩, _⟩ := I.list (SqL.of h3)
    obtain ⟨as, q1, q2⟩ := asPs_reads I hb r h h4 rvs
    exact ⟨_, Reads.list ho hc hd q1, not_mem_con (not_sys I hb ho hd) q2⟩
  | _, _, _, _, .dK h, rv, ru => by
    cases rv with
    | dK h1 h2 =>
      cases ru
      obtain ⟨o, h1⟩ := h1
      obtain ⟨z, hs, vs, rel, ob, es, ep, ho, hx, hd, _, pr, _⟩ := dk_rd I.hok (.inr ⟨o, r.vi _ _ h1⟩)
      obtain ⟨as, bs, q1, q2, q3, q4⟩ := asPk_reads I hb r h h2 rel pr
      exact ⟨_, Reads.dict ho hx.1 hd q1 q3, not_mem_app (not_mem_con (fun e => by rw [e] at hs; simp at hs) q2) q4⟩
  | _, _, _, _, .ownK ho h, rv, ru => by
    obtain rfl := rv.toRef
    cases ru
    obtain ⟨_, _, oo, h3, vs, rfl, h4⟩ := r.own _ (List.mem_of_getElem? ho)
    obtain ⟨z, hs, vs, rel, ob, es, ep, ho, hx, hd, _, pr, _⟩ := dk_rd I.hok (.inl h3)
    obtain ⟨as, bs, q1, q2, q3, q4⟩ := asPk_reads I hb r h h4 rel pr
    exact ⟨_, Reads.dict ho hx.1 hd q1 q3, not_mem_app (not_mem_con (fun e => by rw [e] at hs; simp at hs) q2) q4⟩
theorem asPs_reads (I : Inv X pins σ H s) (hb : SysIn X.base) (r : Rel X.K F V0 os H) : ∀ {ws : List D} {ds : List PyData} {vs : List V} {us : List Value}, AsPs os ws ds → RpA X.K V0 vs ws → Vals vs us → ∃ as, ReadsAll s.heap us ds as ∧ sysModules ∉ as
  | _, _, _, _, .nil, rv, ru => by cases rv; cases ru; exact ⟨_, ReadsAll.nil, fun h => nomatch h⟩
  | _, _, _, _, .cons h1 h2, rv, ru => by
    cases rv with
    | cons a b =>
      cases ru with
      | cons c d =>
        obtain ⟨as, q1, q2⟩ := asP_reads I hb r h1 a c
        obtain ⟨bs, q3, q4⟩ := asPs_reads I hb r h2 b d
        exact ⟨_, ReadsAll.cons q1 q3, not_mem_app q2 q4⟩
theorem asPk_reads (I : Inv X pins σ H s) (hb : SysIn X.base) (r : Rel X.K F V0 os H) : ∀ {kvs : List (Key × D)} {es : List (PyData × PyData)} {vs : List (Key × V)} {ws : List (Key × Value)} {ents : List DictEntry}, AsPk os kvs es → RpK X.K V0 vs kvs → KV vs ws → Pairs (mixKind X.prog X.w) ents ws →
    ∃ as bs, ReadsAll s.heap (ents.map (·.key)) (es.map (·.1)) as ∧ sysModules ∉ as ∧ ReadsAll s.heap (ents.map (·.val)) (es.map (·.2)) bs ∧ sysModules ∉ bs
  | _, _, _, _, _, .nil, rv, ru, pr => by cases rv; cases ru; cases pr; exact ⟨_, _, ReadsAll.nil, (fun h => nomatch h), ReadsAll.nil, fun h => nomatch h⟩
  | _, _, _, _, _, .int h1 h2, rv, ru, pr => by
    cases rv with
    | cons a b =>
      cases ru with
      | cons c d =>
        cases pr with
        | cons e1 e2 e3 =>
          obtain ⟨as, bs, q1, q2, q3, q4⟩ := asPk_reads I hb r h2 b d e3
          obtain ⟨ds, q5, q6⟩ := asP_reads I hb r h1 a c.2
          have rk := key_reads (h := s.heap) e1
          rw [← c.1] at rk
          rw [← e2] at q5
          exact ⟨_, _, ReadsAll.cons rk q1, not_mem_app (fun h => nomatch h) q2, ReadsAll.cons q5 q3, not_mem_app q6 q4⟩
  | _, _, _, _, _, .str h1 h2, rv, ru, pr => by
    cases rv with
    | cons a b =>
      cases ru with
      | cons c d =>
        cases pr with
        | cons e1 e2 e3 =>
          obtain ⟨as, bs, q1, q2, q3, q4⟩ := asPk_reads I hb r h2 b d e3
          obtain ⟨ds, q5, q6⟩ := asP_reads I hb r h1 a c.2
          have rk := key_reads (h := s.heap) e1
          rw [← c.1] at rk
          rw [← e2] at q5
          exact ⟨_, _, ReadsAll.cons rk q1, not_mem_app (fun h => nomatch h) q2, ReadsAll.cons q5 q3, not_mem_app q6 q4⟩
end
end
/-! texts of such things are not too long -/
structure Tx (d : PyData) (n N : Nat) : Prop where
  s : d.showable = true
  p : d.depth ≤ n
  b : d.shown.length ≤ N
structure TxA (ds : List PyData) (n N : Nat) : Prop where
  s : PyData.showableAll ds = true
  p : PyData.depthAll ds ≤ n
  b : ((PyData.shownAll ds).map (·.length)).sum + 2 * (PyData.shownAll ds).length ≤ N
def isSeqP : PyData → Bool
  | .list _ => true
  | .tuple _ => true
  | .dict _ => true
  | _ => false
def cReprP : TrC := fun ws os k => match ws with
  | [w] => ∃ d, AsP os w d ∧ isSeqP d = true ∧ d.showable = true ∧ d.depth ≤ 60 ∧ d.shown.length ≤ sizeLine ∧ k (.str d.shown) os
  | _ => False
theorem asP_ref {K : PySem.W.Frag} {H : Hp} {os : Os} {w : D} {d : PyData} {v : V} (h : AsP os w d) (hd : isSeqP d = true) (rv : Rp K H v w) : ∃ a, v = .ref a := by
  cases h with
  | tup _ => cases rv; exact ⟨_, rfl⟩
  | lst _ => cases rv; exact ⟨_, rfl⟩
  | own _ _ => exact ⟨_, rv.toRef⟩
  | dK _ => cases rv; exact ⟨_, rfl⟩
  | ownK _ _ => exact ⟨_, rv.toRef⟩
  | non => cases hd
  | bl _ => cases hd
  | int _ => cases hd
  | str _ => cases hd
theorem cmc_reprP {X : Cx} {lvl : Nat} (hg : X.A.guards = some []) (hb : SysIn X.base) (hr : Room lvl X.A) : CmC X (.builtin "repr") cReprP := by
  intro ws os k h
  unfold cReprP at h
  split at h
  · obtain ⟨d, h1, h2, h3, h4, h5, q⟩ := h
    intro F V0 H vs Q r rs c pins s σ us I rvs
    obtain ⟨v, rfl, rv⟩ := rs.one
    obtain ⟨u, rfl, ru⟩ := rvs.one
    obtain ⟨a, rfl⟩ := asP_ref h1 h2 rv
    obtain ⟨as, rd, hn⟩ := asP_reads I hb r h1 rv ru
    cases ru
    have := hr.un
    exact repr_of_reads' rd h3 (fun _ => hn) hg (by omega) (fun _ _ e => e) (fun h2 u2 tk hk => ⟨.str _, H, I.kept hk, ⟨_, rfl⟩, c V0 os H _ _ (Same.refl _) r rwS q⟩) h5
  · exact h.elim
end EV

set_option Elab.async false
set_option linter.all false
set_option maxRecDepth 100000
/-! E21: chains as values, order of texts, max(.., default=..), dicts of the module. -/
namespace EV
open PySem PySem.Spec PyProof.Rows L2
section
variable {X : Cx} {os : Os} {k : D → Os → Prop} {env : DEnv} {pos p kp : Pos} {a b c d e : Expr} {ta tb tc td te : TrE}
/-! chains as values -/
def eChain (o o' : TrO) (ta tb tc : TrE) : TrE := fun kx env os k => ta kx env os fun x os1 => tb kx env os1 fun y os2 => o x y os2 fun w os3 => onB (fun b1 os3 =>
  (b1 = true → tc kx env os3 fun z os4 => o' y z os4 k) ∧ (b1 = false → k (.bl false) os3)) w os3
theorem cm_chain {op op' : CmpOp} {o o' : TrO} (ho : CmO X (compareOp op) o) (ho' : CmO X (compareOp op') o') (ha : Cm X a ta) (hb : Cm X b tb) (hc : Cm X c tc)
    (hm : lastMarks [op, op'] [b, c] = false) : Cm X (.Compare a [op, op'] [b, c] pos) (eChain o o' ta tb tc) := by
  intro kx env os k h F V0 H σ Q W r sr ek cc
  refine wE_of (pe_chain (r := wO X (compareOp op)) (r' := wO X (compareOp op')) wO_op wO_op wE_pe wE_pe wE_pe hm) ?_
  refine ha _ _ _ _ h F V0 H σ _ W r sr ek fun V1 os1 H1 v x s1 r1 rx hx => ?_
  refine hb _ _ _ _ hx F V1 H1 σ _ W r1 (sr.mono s1) (ek.mono s1) fun V2 os2 H2 u y s2 r2 ry hy => ?_
  refine ho _ _ _ _ hy F V2 H2 v u _ r2 (rx.mono s2) ry fun V3 os3 H3 z w s3 r3 rw' q => ?_
  obtain ⟨bo, e, q1, q2⟩ := onB_bl q
  subst e
  cases rw'
  refine ⟨bo, rfl, ?_⟩
  cases bo with
  | false => exact iteF (cc V3 os3 H3 _ _ ((s1.trans s2).trans s3) r3 (.bl false) (q2 rfl))
  | true =>
    refine iteT ?_
    refine hc _ _ _ _ (q1 rfl) F V3 H3 σ _ W r3 (sr.mono ((s1.trans s2).trans s3)) (ek.mono ((s1.trans s2).trans s3)) fun V4 os4 H4 v4 z4 s4 r4 rz hz => ?_
    exact ho' _ _ _ _ hz F V4 H4 u v4 _ r4 (ry.mono (s3.trans s4)) rz fun V5 os5 H5 z5 w5 s5 r5 rw5 q => cc V5 os5 H5 z5 w5 ((((s1.trans s2).trans s3).trans s4).trans s5) r5 rw5 q
def tChain3 (r r' r'' : R2) (ta tb tc td : TE) : TE := fun σ H Q => ta σ H fun x H1 => tb σ H1 fun y H2 => r x y H2 fun z H3 => ∃ k, z = .bl k ∧
  (if k = true then tc σ H3 fun u H4 => r' y u H4 fun z2 H5 => ∃ k2, z2 = .bl k2 ∧ (if k2 = true then td σ H5 fun w' H6 => r'' u w' H6 Q else Q (.bl false) H5) else Q (.bl false) H3)
theorem pe_chain3 {op op' op'' : CmpOp} {r r' r'' : R2} {sa sb sc sd : TE} (ho : OpR X (compareOp op) r) (ho' : OpR X (compareOp op') r') (ho'' : OpR X (compareOp op'') r'') (ha : PE X a sa) (hb : PE X b sb) (hc : PE X c sc) (hd : PE X d sd)
    (hm : lastMarks [op, op', op''] [b, c, d] = false) : PE X (.Compare a [op, op', op''] [b, c, d] pos) (tChain3 r r' r'' sa sb sc sd) := by
  refine ⟨fun pins s σ H Q I h => ?_⟩
  refine Compare_chain (thn (ha.run pins s σ H _ I h) fun v s1 ⟨x, H1, I1, r1, q1⟩ => chain_link (thn (hb.run pins s1 σ H1 _ I1 q1) fun u s2 ⟨y, H2, I2, r2, q2⟩ =>
    thn (ho pins s2 σ H2 x y v u _ I2 r1 r2 q2) fun d s3 ⟨z, H3, I3, r3, k, e, q3⟩ => ?_)) hm
  subst e
  cases r3
  refine wpAny_truthy_bool ?_
  cases k with
  | false => exact ite_ff ⟨.bl false, H3, I3, rfl, q3⟩
  | true =>
    refine ite_tt (chain_link (thn (hc.run pins s3 σ H3 _ I3 q3) fun u2 s4 ⟨y2, H4, I4, r4, q4⟩ => thn (ho' pins s4 σ H4 y y2 u u2 _ I4 r2 r4 q4) fun d2 s5 ⟨z2, H5, I5, r5, k2, e2, q5⟩ => ?_))
    subst e2
    cases r5
    refine wpAny_truthy_bool ?_
    cases k2 with
    | false => exact ite_ff ⟨.bl false, H5, I5, rfl, q5⟩
    | true => exact ite_tt (chain_last (thn (hd.run pins s5 σ H5 _ I5 q5) fun w' s6 ⟨z', H6, I6, r6, q6⟩ => ho'' pins s6 σ H6 y2 z' u2 w' Q I6 r4 r6 q6))
def eChain3 (o o' o'' : TrO) (ta tb tc td : TrE) : TrE := fun kx env os k => ta kx env os fun x os1 => tb kx env os1 fun y os2 => o x y os2 fun w os3 => onB (fun b1 os3 =>
  (b1 = true → tc kx env os3 fun z os4 => o' y z os4 fun w2 os5 => onB (fun b2 os5 => (b2 = true → td kx env os5 fun z2 os6 => o'' z z2 os6 k) ∧ (b2 = false → k (.bl false) os5)) w2 os5) ∧ (b1 = false → k (.bl false) os3)) w os3
theorem cm_chain3 {op op' op'' : CmpOp} {o o' o'' : TrO} (ho : CmO X (compareOp op) o) (ho' : CmO X (compareOp op') o') (ho'' : CmO X (compareOp op'') o'') (ha : Cm X a ta) (hb : Cm X b tb) (hc : Cm X c tc) (hd : Cm X d td)
    (hm : lastMarks [op, op', op''] [b, c, d] = false) : Cm X (.Compare a [op, op', op''] [b, c, d] pos) (eChain3 o o' o'' ta tb tc td) := by
  intro kx env os k h F V0 H σ Q W r sr ek cc
  refine wE_of (pe_chain3 (r := wO X (compareOp op)) (r' := wO X (compareOp op')) (r'' := wO X (compareOp op'')) wO_op wO_op wO_op wE_pe wE_pe wE_pe wE_pe hm) ?_
  refine ha _ _ _ _ h F V0 H σ _ W r sr ek fun V1 os1 H1 v x s1 r1 rx hx => ?_
  refine hb _ _ _ _ hx F V1 H1 σ _ W r1 (sr.mono s1) (ek.mono s1) fun V2 os2 H2 u y s2 r2 ry hy => ?_
  refine ho _ _ _ _ hy F V2 H2 v u _ r2 (rx.mono s2) ry fun V3 os3 H3 z w s3 r3 rw' q => ?_
  obtain ⟨bo, e, q1, q2⟩ := onB_bl q
  subst e
  cases rw'
  have s13 := (s1.trans s2).trans s3
  refine ⟨bo, rfl, ?_⟩
  cases bo with
  | false => exact iteF (cc V3 os3 H3 _ _ s13 r3 (.bl false) (q2 rfl))
  | true =>
    refine iteT ?_
    refine hc _ _ _ _ (q1 rfl) F V3 H3 σ _ W r3 (sr.mono s13) (ek.mono s13) fun V4 os4 H4 v4 z4 s4 r4 rz hz => ?_
    refine ho' _ _ _ _ hz F V4 H4 u v4 _ r4 (ry.mono (s3.trans s4)) rz fun V5 os5 H5 z5 w5 s5 r5 rw5 q => ?_
    obtain ⟨bo2, e2, q3, q4⟩ := onB_bl q
    subst e2
    cases rw5
    have s15 := (s13.trans s4).trans s5
    refine ⟨bo2, rfl, ?_⟩
    cases bo2 with
    | false => exact iteF (cc V5 os5 H5 _ _ s15 r5 (.bl false) (q4 rfl))
    | true =>
      refine iteT ?_
      refine hd _ _ _ _ (q3 rfl) F V5 H5 σ _ W r5 (sr.mono s15) (ek.mono s15) fun V6 os6 H6 v6 z6 s6 r6 r6z hz6 => ?_
      exact ho'' _ _ _ _ hz6 F V6 H6 v4 v6 _ r6 (rz.mono (s5.trans s6)) r6z fun V7 os7 H7 z7 w7 s7 r7 rw7 q => cc V7 os7 H7 z7 w7 ((s15.trans s6).trans s7) r7 rw7 q
/-! order of texts -/
def oLeS : TrO := fun x y os k => match x, y with
  | .str i, .str j => k (.bl (!decide (j.cps.toList < i.cps.toList))) os
  | _, _ => False
def oLtS : TrO := fun x y os k => match x, y with
  | .str i, .str j => k (.bl (decide (i.cps.toList < j.cps.toList))) os
  | _, _ => False
theorem cmo_leS : CmO X (compareOp .LtE) oLeS := by
  intro x y os k h
  unfold oLeS at h
  split at h
  · refine JO.mk op_le_str fun F V0 H v u Q r rx ry c => ?_
    cases rx
    cases ry
    exact ⟨_, _, rfl, rfl, c V0 os H _ _ (Same.refl _) r (.bl _) h⟩
  · exact h.elim
theorem cmo_ltS : CmO X (compareOp .Lt) oLtS := by
  intro x y os k h
  unfold oLtS at h
  split at h
  · refine JO.mk op_lt_str fun F V0 H v u Q r rx ry c => ?_
    cases rx
    cases ry
    exact ⟨_, _, rfl, rfl, c V0 os H _ _ (Same.refl _) r (.bl _) h⟩
  · exact h.elim
/-! max(a list of ints, default=d) -/
def mxI (n : Int) (r : List Int) : Int := r.foldl (fun a b => if a < b then b else a) n
theorem holdAll_ints {h : Heap} : ∀ {ns : List Int} {us : List Value}, Vals (ns.map V.int) us → PySem.W.HoldAll h us ns
  | [], _, r => by cases r; exact PySem.W.HoldAll.nil
  | n :: ns, _, r => by
    cases r with
    | cons a b =>
      obtain ⟨t, rfl⟩ := a
      exact PySem.W.HoldAll.cons ⟨_, Reads.int n t⟩ (holdAll_ints b)
theorem maxOf_int (n : Int) (r : List Int) : PySem.W.maxOf n r = mxI n r := by
  unfold PySem.W.maxOf mxI
  refine congrArg (fun f => List.foldl f n r) (funext fun a => funext fun b => ?_)
  by_cases h : a < b
  · rw [if_pos h]
    exact if_pos (by show decide (a < b) = true; exact decide_eq_true h)
  · rw [if_neg h]
    exact if_neg (by show ¬ decide (a < b) = true; rw [decide_eq_false h]; exact Bool.false_ne_true)
def tMaxD (K : PySem.W.Frag) (sa sd : TE) : TE := fun σ H Q => sa σ H fun v H1 => sd σ H1 fun u H2 => ∃ (p : Addr) (ns : List Int), v = .ref p ∧ SqL K H2 p (ns.map V.int) ∧ (ns = [] → Q u H2) ∧ ∀ n r, ns = n :: r → Q (.int (mxI n r)) H2
theorem pe_maxD {lvl : Nat} {sa sd : TE} (hc : X.calm = true) (hr : Room lvl X.A) (hg : Gl X "max") (hm : X.mg "max" = none) (ha : PE X e sa) (hd : PE X d sd)
    (hs : starEach [e] X.env = (false, eval e X.env) :: starEach [] X.env) (hpl : (backTo pos (starEach [e] X.env)).any (·.1) = false) :
    PE X (.Call (.Name "max" p) [e] [⟨some "default", d, kp⟩] pos) (tMaxD X.K sa sd) := by
  refine ⟨fun pins s σ H Q I h => ?_⟩
  refine wpAny_Call_Name_kw (ld_blt I hg hm (show bootBuiltins (Str.ofString "max") = some (.builtin "max") by decide +kernel) ?_ (by decide +kernel) (by decide +kernel))
  refine PyProof.Rows.callWith_kw ?_ (by rw [hs]; rfl) hpl rfl rfl
  rw [hs]
  refine Calls.spliced_cons (thn (ha.run pins s σ H _ I h) fun u s1 ⟨v, H1, I1, r1, q1⟩ => ?_)
  refine Calls.spliced_nil ?_
  refine PyProof.Rows.kws_cons (thn (hd.run pins s1 σ H1 _ I1 q1) fun u2 s2 ⟨v2, H2, I2, r2, q2⟩ => ?_)
  refine PyProof.Rows.kws_nil ?_
  obtain ⟨q, ns, rfl, hl, h0, h1⟩ := q2
  cases r1
  obtain ⟨its, rv, pl, hz⟩ := I2.list hl
  refine PySem.W.max_list_datum_default (α := Int) (xs := ns) (I2.ok.hd hc) pl.isList (by simpa using holdAll_ints rv) ?_ (fun e hp tk hk => ⟨v2, H2, I2.kept hk, r2, h0 e⟩) fun n r i w hp tk e _ ⟨as, hh⟩ hk => ?_
  · have := hr.un
    show X.A.units + 1 + _ < cLine
    simp only [PySem.W.Datum.depth]
    omega
  · refine ⟨.int (mxI n r), H2, I2.kept hk, ?_, h1 n r e⟩
    rw [maxOf_int] at hh
    cases hh with
    | int _ t => exact ⟨t, rfl⟩
def eMaxD (ta td : TrE) : TrE := fun kx env os k => ta kx env os fun w os1 => td kx env os1 fun y os2 => ∃ ns : List Int, LstOf os2 w (ns.map D.int) ∧ match ns with
  | [] => k y os2
  | n :: r => k (.int (mxI n r)) os2
theorem cm_maxD {lvl : Nat} (hc : X.calm = true) (hr : Room lvl X.A) (hg : Gl X "max") (hm : X.mg "max" = none) (ha : Cm X e ta) (hd : Cm X d td)
    (hs : starEach [e] X.env = (false, eval e X.env) :: starEach [] X.env) (hpl : (backTo pos (starEach [e] X.env)).any (·.1) = false) :
    Cm X (.Call (.Name "max" p) [e] [⟨some "default", d, kp⟩] pos) (eMaxD ta td) := by
  intro kx env os k q F V0 H σ Q W r sr ek c
  refine wE_of (pe_maxD hc hr hg hm wE_pe wE_pe hs hpl) ?_
  refine ha _ _ _ _ q F V0 H σ _ W r sr ek fun V1 os1 H1 v w s1 r1 rv q => ?_
  refine hd _ _ _ _ q F V1 H1 σ _ W r1 (sr.mono s1) (ek.mono s1) fun V2 os2 H2 u y s2 r2 ru q => ?_
  obtain ⟨ns, hl, q⟩ := q
  obtain ⟨a, vs, rfl, hsq, ra⟩ := lstOf_of r2 (rv.mono s2) hl
  obtain rfl : vs = ns.map V.int := rpA_int ra
  refine ⟨a, ns, rfl, hsq, fun e => ?_, fun n r e => ?_⟩
  · subst e
    exact c V2 os2 H2 u y (s1.trans s2) r2 ru q
  · subst e
    exact c V2 os2 H2 _ _ (s1.trans s2) r2 (.int _) q
/-! a dict of the module with text keys -/
def keyNames (l : List DictEntry) : List Str := l.map fun e => match e.key with
  | .str x _ => x
  | _ => Str.empty
structure GDict (K : PySem.W.Frag) (w : World) (d : Addr) (ks : List Str) : Prop where
  ex : ∃ es n, KDict K w d es n ∧ keyNames es.toList = ks
theorem nsIn_keys {K : PySem.W.Frag} {w : World} {d : Addr} {es : Array DictEntry} {n : Nat} (D : KDict K w d es n) (z : Str) : ∃ r, PySem.W.nsIn K d z = some r ∧ r.isSome = decide (z ∈ keyNames es.toList) := by
  unfold PySem.W.nsIn
  rw [D.at_]
  dsimp only
  have key : ∀ l : List DictEntry, PySem.W.KeysLit w.params l → (l.any (·.refKey)) = false ∧ (l.find? (·.key.isStr z)).isSome = decide (z ∈ keyNames l) := fun l => by
    induction l with
    | nil => intro _; exact ⟨rfl, by simp [keyNames]⟩
    | cons e l ih =>
      rintro ⟨⟨x, t, hk, hh⟩, hr⟩
      obtain ⟨i1, i2⟩ := ih hr
      refine ⟨?_, ?_⟩
      · rw [List.any_cons, i1, Bool.or_false]
        unfold DictEntry.refKey
        rw [hk]
      · have e1 : keyNames (e :: l) = x :: keyNames l := by
          unfold keyNames
          rw [List.map_cons, hk]
        rw [e1, List.find?_cons]
        have e2 : e.key.isStr z = decide (x = z) := by
          rw [hk]
          show (x == z) = decide (x = z)
          exact PySem.W.beq_decide x z
        rw [e2]
        by_cases h : x = z
        · simp [h]
        · have h2 : ¬ z = x := fun q => h q.symm
          rw [decide_eq_false h]
          simp only [List.mem_cons, h2, false_or]
          exact i2
  obtain ⟨h1, h2⟩ := key _ D.lit
  cases hf : es.toList.find? (·.key.isStr z) with
  | some e => exact ⟨some e.val, rfl, by rw [← h2, hf]; rfl⟩
  | none => exact ⟨none, by rw [h1]; rfl, by rw [← h2, hf]; rfl⟩
def oInC (d : Addr) (ks : List Str) : TrO := fun x y os k => match x, y with
  | .str z, .ref a => a = d ∧ k (.bl (decide (z ∈ ks))) os
  | _, _ => False
theorem cmo_inC {d : Addr} {ks : List Str} (G : GDict X.K X.w d ks) : CmO X (compareOp .In) (oInC d ks) := by
  intro x y os k h
  unfold oInC at h
  split at h
  · rename_i z a
    obtain ⟨e, q⟩ := h
    subst e
    obtain ⟨es, n, D, hk⟩ := G.ex
    refine JO.mk (op_in_kd D) fun F V0 H v u Q r rx ry c => ?_
    cases rx
    obtain rfl := ry.toRef
    obtain ⟨r2, h1, h2⟩ := nsIn_keys D z
    refine ⟨z, r2, rfl, rfl, h1, ?_⟩
    rw [h2, hk]
    exact c V0 os H _ _ (Same.refl _) r (.bl _) q
  · exact h.elim
end
end EV

set_option Elab.async false
set_option linter.all false
set_option maxRecDepth 100000
/-! E22: name = {.. for ..} on one line, where a name of the block is a cell. -/
namespace EV
open PySem PySem.Spec PyProof.Rows L2
section
variable {X : Cx}
theorem sw_trueD {kx vx : Expr} {gs : List Comprehension} {scope : Scope} {pos py : Pos} {y : Str} {l : Nat} {env : Env} (h1 : env.scope.kind = .function) (h2 : env.scope.names.lookup y = some .local) (h3 : (py.line == pos.line) = true)
    (h4 : (scope.names.any fun (n, k) => n == y && (k == .local || k == .cell)) = false) : swapsWith (.DictComp kx vx gs scope pos) (some (.Name y py)) l env = pure true := by
  have e1 : env.kindOf y = some .local := h2
  have e2 : env.blockKind = .function := by
    unfold Env.blockKind
    rw [h1]
    rfl
  unfold swapsWith
  simp only [e2, e1, h4, Expr.pos, h3]
  rfl
theorem ps_setDc {i : Nat} {y : Str} {py : Pos} {kx vx tg iter : Expr} {ifs : List Expr} {scope : Scope} {own : List (Str × Nat)} {pos spos : Pos} {wi : TI} {g : TG} {tt : TT} {tk tv : TE}
    (hc : X.calm = true) (hN : X.N.Nodup) (hy : X.N[i]? = some y) (hyl : X.env.scope.names.lookup y = some .local) (hsw : swapsWith (.DictComp kx vx [⟨tg, iter, ifs, 0⟩] scope pos) (some (.Name y py)) spos.line X.env = pure true)
    (hi : PI X tg iter wi) (ok : BlkOk X.N X.env.scope scope own) (hg : ∀ (s : Shared) (H : Hp) (C : Addr) (cl : List (Str × Addr)) (fp : List Addr), PG (Bk X scope s H C cl fp) tg g)
    (ht : ∀ (s : Shared) (H : Hp) (C : Addr) (cl : List (Str × Addr)) (fp : List Addr), PTs (Bk X scope s H C cl fp) ifs tt) (hk : ∀ (s : Shared) (H : Hp) (C : Addr) (cl : List (Str × Addr)) (fp : List Addr), PE (Bk X scope s H C cl fp) kx tk)
    (he : ∀ (s : Shared) (H : Hp) (C : Addr) (cl : List (Str × Addr)) (fp : List Addr), PE (Bk X scope s H C cl fp) vx tv) (hs : ∀ x, foldedSetIterable iter X.env x = pure x) :
    PS X (.Assign [.Name y py] (.DictComp kx vx [⟨tg, iter, ifs, 0⟩] scope pos) spos) (tAsg (tDc wi g tt tk tv (own.map (·.2))) (L2.gName i)) := by
  refine ⟨fun pins s σ H D I h => ?_⟩
  rw [exec_Assign_Name_used _ _ _ _ hsw]
  refine wpAny_bind (wpAny_standAt (wpAny_bind ?_))
  show wpAny _ X.A (do let _ ← comprehension (.DictComp kx vx [⟨tg, iter, ifs, 0⟩] scope pos) scope X.env (firstIterPos [⟨tg, iter, ifs, 0⟩] pos) newDict false (eval iter X.env) (some (assign (.Name y py) X.env))) _ _ s
  have h2 : tDc wi g tt tk tv (own.map (·.2)) σ H (fun x H1 => L2.gName i x σ H1 D.nx) := h
  refine wpAny_bind (thn (dc_core (Qf := fun _ s2 => SP X pins D .next s2) hc hN I hi ok hg ht hk he hs h2 fun L C s1 m H1 I1 q hn f => ?_) fun _ s2 hq => wpAny_pure (wpAny_pure hq))
  show wpAny _ _ (assign (.Name y py) X.env (.ref L)) _ _ _
  obtain ⟨f0, f1, f2, f3, f4, f5⟩ := f
  refine wpAny_assign_Name (store_ok2 (v := V.ref L) I1 hN hy (.inl hyl) rfl (fun s2 I2 ⟨a, sb, ha⟩ => ?_) (.inr hyl))
  have apart : C ≠ a := fun e => ha.elim (fun z => f1 (e.trans z)) fun z => f4 y a z e.symm
  exact ⟨m, hn.sameBut sb apart, fun h3 sb3 => ⟨_, H1, I2.turned (t' := s2.toks) (fun b o hb e => (sb3.2 b hb).trans e) f0 f1 f3 f4 f5, q⟩⟩
theorem c1_setDc {kxe vxe iter tge : Expr} {ifs : List Expr} {scope : Scope} {own : List (Str × Nat)} {pos spos py : Pos} {g : TG} {bn : TrB} {tt : TrT} {tek tev : TrE} {ti : TrI} {iy : Nat} {y : Str} (hc : X.calm = true) (hN : X.N.Nodup) (ok : BlkOk X.N X.env.scope scope own) (hb : BindOk X.K (own.map (·.2)) g bn)
    (hg : ∀ s H C cl fp, PG (Bk X scope s H C cl fp) tge g) (hi : CmI X tge iter ti) (ht : ∀ s H C cl fp, CmTs (Bk X scope s H C cl fp) ifs tt) (hek : ∀ s H C cl fp, Cm (Bk X scope s H C cl fp) kxe tek) (he : ∀ s H C cl fp, Cm (Bk X scope s H C cl fp) vxe tev)
    (hy : X.N[iy]? = some y) (hyl : X.env.scope.names.lookup y = some .local) (hsw : swapsWith (.DictComp kxe vxe [⟨tge, iter, ifs, 0⟩] scope pos) (some (.Name y py)) spos.line X.env = pure true)
    (hs : ∀ x, foldedSetIterable iter X.env x = pure x) : CmS X (.Assign [.Name y py] (.DictComp kxe vxe [⟨tge, iter, ifs, 0⟩] scope pos) spos) (sSet iy (eDc (own.map (·.2)) bn ti tt tek tev)) := by
  intro N R env os h F V0 H σ D W r sr ek
  refine wS1_of (ps_setDc (X := X) (i := iy) (own := own) (wi := wPI X tge iter) (g := g) (tt := fun σ H Q => ∀ s0 H0 C cl fp, wTs (Bk X scope s0 H0 C cl fp) ifs σ H Q) (tk := fun σ H Q => ∀ s0 H0 C cl fp, wE (Bk X scope s0 H0 C cl fp) kxe σ H Q) (tv := fun σ H Q => ∀ s0 H0 C cl fp, wE (Bk X scope s0 H0 C cl fp) vxe σ H Q) hc hN hy hyl hsw wPI_pi ok
    hg (fun s0 H0 C cl fp => ⟨fun pins s σ H Q I q => wTs_pts.run pins s σ H Q I (q s0 H0 C cl fp)⟩) (fun s0 H0 C cl fp => ⟨fun pins s σ H Q I q => wE_pe.run pins s σ H Q I (q s0 H0 C cl fp)⟩) (fun s0 H0 C cl fp => ⟨fun pins s σ H Q I q => wE_pe.run pins s σ H Q I (q s0 H0 C cl fp)⟩) hs) ?_
  unfold sSet eDc at h
  simp only [dcX_eq] at h
  refine tdc_of (k := fun w os1 => N (setE env iy (some w)) os1) hb hi ht hek he h r sr (ek.xk sr) fun V1 os1 H1 v w s1 r1 rv q => ?_
  exact ek.nx V1 os1 H1 _ _ s1 r1 (sr_setE (sr.mono s1) rv iy) q
end
end EV

set_option Elab.async false
set_option linter.all false
set_option maxRecDepth 100000
/-! E23: an owned dict in a local becomes data ahead of a statement. -/
namespace EV
open PySem PySem.Spec PyProof.Rows L2
theorem wS1_lock {X : Cx} {st : Stmt} {D : Ends} {σ : L2.St} {H : Hp} {d : Addr} {u} (hd : H d = some u) (mu : Mut (some u)) (h : ∀ od, wS1 X st D σ (upd H d (.frz od u))) : wS1 X st D σ H := by
  unfold wS1 at h ⊢
  intro pins s I
  obtain ⟨od, I2⟩ := I.lock hd mu
  exact h od pins s I2
def sFrzV (i : Nat) (t : TrS) : TrS := fun N R env os => match env[i]? with
  | some (some (.ref a)) => ∃ (n : Nat) (kvs : List (Key × D)), os[n]? = some (a, OO.dK kvs) ∧ t N R (env.set i (some (.dK kvs))) (os.eraseIdx n)
  | _ => t N R env os
theorem SR.frz {K : PySem.W.Frag} {V0 : Hp} {σ : L2.St} {env : DEnv} {i : Nat} {v : V} {w : D} (h : SR K V0 σ env) (hv : σ[i]? = some (some v)) (rv : Rp K V0 v w) : SR K V0 σ (env.set i (some w)) := by
  refine ⟨by rw [List.length_set]; exact h.1, fun j u q => ?_⟩
  by_cases e : i = j
  · subst e
    have hl : i < env.length := by
      rw [← h.1]
      exact (List.getElem?_eq_some_iff.mp hv).1
    rw [List.getElem?_set_self hl] at q
    cases q
    exact ⟨v, hv, rv⟩
  · rw [List.getElem?_set_ne e] at q
    exact h.2 j u q
theorem c1_frzV {X : Cx} {st : Stmt} {t : TrS} {i : Nat} (h : CmS X st t) : CmS X st (sFrzV i t) := by
  intro N R env os q F V0 H σ D W r sr ek
  unfold sFrzV at q
  split at q
  · rename_i a he
    obtain ⟨n, kvs, ho, q⟩ := q
    obtain ⟨v, hv, rv⟩ := sr.2 i _ he
    obtain rfl := rv.toRef
    obtain ⟨vs, h3, fz⟩ := r.freezeD ho
    refine wS1_lock h3 True.intro fun od => ?_
    obtain ⟨V1, s1, r1, rp⟩ := fz od
    exact h _ _ _ _ q F V1 _ σ D W r1 ((sr.mono s1).frz hv rp) (ek.mono s1)
  · exact h _ _ _ _ q F V0 H σ D W r sr ek
end EV

set_option Elab.async false
set_option linter.all false
set_option maxRecDepth 100000
/-! E24: a text times a number. -/
namespace EV
open PySem PySem.Spec PyProof.Rows L2
theorem op_mulS {X : Cx} : OpR X (binaryOp .Mult) (fun x y H Q => ∃ a n, x = V.str a ∧ y = V.int n ∧ PySem.MulOk a n ∧ Q (.str (Txt.mul a n)) H) := by
  intro pins s σ H x y v u Q I rx ry h
  obtain ⟨i, j, rfl, rfl, hz, q⟩ := h
  obtain ⟨t, rfl⟩ := rx
  obtain ⟨t', rfl⟩ := ry
  exact SB.mul hz (fun t' tk => ⟨.str (Txt.mul i j), H, I.tok _, ⟨_, rfl⟩, q⟩)
/-- a short text, not too often -/
def oMulS : TrO := fun x y os k => match x, y with
  | .str a, .int n => (a.length ≤ 4000 ∧ -4000 ≤ n ∧ n ≤ 4000) ∧ k (.str (Txt.mul a n)) os
  | _, _ => False
theorem cmo_mulS {X : Cx} : CmO X (binaryOp .Mult) oMulS := by
  intro x y os k h
  unfold oMulS at h
  split at h
  · obtain ⟨⟨h1, h2, h3⟩, h⟩ := h
    refine JO.mk op_mulS fun F V0 H v u Q r rx ry c => ?_
    cases rx; cases ry
    exact ⟨_, _, rfl, rfl, mulOk_of 4000 4000 h1 (by omega) (by omega) (by decide) (by decide), c V0 os H _ _ (Same.refl _) r rwS h⟩
  · exact h.elim
end EV

set_option Elab.async false
set_option linter.all false
set_option maxRecDepth 100000
/-! E8: lemmas that a reading uses. -/
namespace EV
open PySem PySem.Spec PyProof.Rows L2
section
variable {A B P : Prop} {b : Bool}
theorem brT (h : A) : (true = true → A) ∧ (true = false → B) := ⟨fun _ => h, fun e => nomatch e⟩
theorem brF (h : B) : (false = true → A) ∧ (false = false → B) := ⟨fun e => (nomatch e), fun _ => h⟩
theorem brD [Decidable P] (h1 : P → A) (h2 : ¬ P → B) : (decide P = true → A) ∧ (decide P = false → B) := ⟨fun h => h1 (of_decide_eq_true h), fun h => h2 (of_decide_eq_false h)⟩
theorem brDN [Decidable P] (h1 : ¬ P → A) (h2 : P → B) : ((!decide P) = true → A) ∧ ((!decide P) = false → B) := by
  by_cases hp : P
  · rw [decide_eq_true hp]
    exact ⟨fun e => (nomatch e), fun _ => h2 hp⟩
  · rw [decide_eq_false hp]
    exact ⟨fun _ => h1 hp, fun e => nomatch e⟩
theorem brDT [Decidable P] (hp : P) (h : A) : (decide P = true → A) ∧ (decide P = false → B) := ⟨fun _ => h, fun e => absurd hp (of_decide_eq_false e)⟩
theorem brDF [Decidable P] (hp : ¬ P) (h : B) : (decide P = true → A) ∧ (decide P = false → B) := ⟨fun e => absurd (of_decide_eq_true e) hp, fun _ => h⟩
theorem brDNT [Decidable P] (hp : ¬ P) (h : A) : ((!decide P) = true → A) ∧ ((!decide P) = false → B) := ⟨fun _ => h, fun e => absurd e (by rw [decide_eq_false hp]; exact fun z => nomatch z)⟩
theorem brDNF [Decidable P] (hp : P) (h : B) : ((!decide P) = true → A) ∧ ((!decide P) = false → B) := ⟨fun e => absurd e (by rw [decide_eq_true hp]; exact fun z => nomatch z), fun _ => h⟩
theorem br2 (h1 : b = true → A) (h2 : b = false → B) : (b = true → A) ∧ (b = false → B) := ⟨h1, h2⟩
theorem brN2 (h1 : b = false → A) (h2 : b = true → B) : ((!b) = true → A) ∧ ((!b) = false → B) := by
  cases b
  · exact ⟨fun _ => h1 rfl, fun e => nomatch e⟩
  · exact ⟨fun e => (nomatch e), fun _ => h2 rfl⟩
theorem orT (h : B) : (true = false → A) ∧ (true = true → B) := ⟨fun e => (nomatch e), fun _ => h⟩
theorem orF (h : A) : (false = false → A) ∧ (false = true → B) := ⟨fun _ => h, fun e => nomatch e⟩
theorem orD [Decidable P] (h1 : ¬ P → A) (h2 : P → B) : (decide P = false → A) ∧ (decide P = true → B) := ⟨fun h => h1 (of_decide_eq_false h), fun h => h2 (of_decide_eq_true h)⟩
theorem orDT [Decidable P] (hp : P) (h : B) : (decide P = false → A) ∧ (decide P = true → B) := ⟨fun e => absurd hp (of_decide_eq_false e), fun _ => h⟩
theorem orDF [Decidable P] (hp : ¬ P) (h : A) : (decide P = false → A) ∧ (decide P = true → B) := ⟨fun _ => h, fun e => absurd (of_decide_eq_true e) hp⟩
theorem orDN [Decidable P] (h1 : P → A) (h2 : ¬ P → B) : ((!decide P) = false → A) ∧ ((!decide P) = true → B) := ⟨(brDN h2 h1).2, (brDN h2 h1).1⟩
theorem or2 (h1 : b = false → A) (h2 : b = true → B) : (b = false → A) ∧ (b = true → B) := ⟨h1, h2⟩
theorem orN2 (h1 : b = true → A) (h2 : b = false → B) : ((!b) = false → A) ∧ ((!b) = true → B) := ⟨(brN2 h2 h1).2, (brN2 h2 h1).1⟩
end
theorem szI {n : Nat} (h : n ≤ 1000) : n ≤ sizeLine := Nat.le_of_lt (small1000 h)
theorem szJ {n : Nat} (h : n ≤ 1000) : n < sizeLine := small1000 h
theorem atI_len {α : Type} {ds : List α} {i : Int} (h0 : 0 ≤ i) (h1 : i < ds.length) (d : α) : atI ds i = some (ds.getD i.toNat d) := by
  obtain ⟨j, rfl⟩ : ∃ j : Nat, i = (j : Int) := ⟨i.toNat, by omega⟩
  have hj : j < ds.length := by omega
  refine atI_nat ?_
  simp [hj]
theorem atI_ints {ns : List Int} {i : Int} (h0 : 0 ≤ i) (h1 : i < ns.length) : atI (ns.map D.int) i = some (.int (ns.getD i.toNat 0)) := by
  obtain ⟨j, rfl⟩ : ∃ j : Nat, i = (j : Int) := ⟨i.toNat, by omega⟩
  have hj : j < ns.length := by omega
  refine atI_nat ?_
  simp [hj]
theorem atI_some {α : Type} {ds : List α} {i : Int} {d : α} (h0 : 0 ≤ i) (h1 : ds[i.toNat]? = some d) : atI ds i = some d := by
  obtain ⟨j, rfl⟩ : ∃ j : Nat, i = (j : Int) := ⟨i.toNat, by omega⟩
  exact atI_nat (by simpa using h1)
theorem ixN_some {n : Nat} {i : Int} (h0 : 0 ≤ i) (h1 : i < n) : ixN n i = some i.toNat := by
  have e := atI_len (ds := List.replicate n ()) h0 (by simpa using h1) ()
  unfold atI at e
  rw [List.length_replicate] at e
  cases q : ixN n i with
  | none => rw [q] at e; cases e
  | some j =>
    unfold ixN at q
    simp only [h0, h1] at q
    split at q <;> simp_all
theorem scal_ints : ∀ ns : List Int, (ns.map D.int).all isScal = true
  | [] => rfl
  | _ :: ns => scal_ints ns
theorem inD_ints {i : Int} : ∀ ns : List Int, inD (.int i) (ns.map D.int) = decide (i ∈ ns)
  | [] => by simp [inD, inV]
  | n :: ns => by
    have h := inD_ints (i := i) ns
    unfold inD inV at h ⊢
    rw [List.map_cons, List.map_cons, List.any_cons, h]
    by_cases e : n = i
    · subst e; simp [eqV, scalD]
    · have e' : i ≠ n := fun x => e x.symm
      simp [eqV, scalD, e, e']
theorem shpA_ints (ns : List Int) (n : Nat) : shpA (ns.map D.int) n = true := shpA_all.mpr fun d hd => by
  obtain ⟨i, _, rfl⟩ := List.mem_map.mp hd
  rfl
theorem shp_ints (ns : List Int) : shp (.lst (ns.map D.int)) 60 = true := by
  rw [shp, shpA_ints]; rfl
theorem eqvA_ints : ∀ ns ms : List Int, PyData.eqvAll (toPs (ns.map D.int)) (toPs (ms.map D.int)) = decide (ns = ms)
  | [], [] => by simp [toPs, PyData.eqvAll]
  | [], _ :: _ => by simp [toPs, PyData.eqvAll]
  | _ :: _, [] => by simp [toPs, PyData.eqvAll]
  | n :: r, m :: q => by
    simp only [List.map_cons, toPs, toP, PyData.eqvAll, PyData.eqv, eqvA_ints r q]
    by_cases h : n = m <;> simp [h]
theorem eqD_ints (ns ms : List Int) : eqD (.lst (ns.map D.int)) (.lst (ms.map D.int)) = decide (ns = ms) := by
  unfold eqD
  rw [toP, toP, PyData.eqv]
  exact eqvA_ints ns ms
theorem kit_NoneType_bool : kitB "NoneType" "bool" = some false := by decide +kernel
theorem kit_NoneType_int : kitB "NoneType" "int" = some false := by decide +kernel
theorem kit_NoneType_str : kitB "NoneType" "str" = some false := by decide +kernel
theorem kit_NoneType_tuple : kitB "NoneType" "tuple" = some false := by decide +kernel
theorem kit_NoneType_list : kitB "NoneType" "list" = some false := by decide +kernel
theorem kit_bool_bool : kitB "bool" "bool" = some true := by decide +kernel
theorem kit_bool_int : kitB "bool" "int" = some true := by decide +kernel
theorem kit_bool_str : kitB "bool" "str" = some false := by decide +kernel
theorem kit_bool_tuple : kitB "bool" "tuple" = some false := by decide +kernel
theorem kit_bool_list : kitB "bool" "list" = some false := by decide +kernel
theorem kit_int_bool : kitB "int" "bool" = some false := by decide +kernel
theorem kit_int_int : kitB "int" "int" = some true := by decide +kernel
theorem kit_int_str : kitB "int" "str" = some false := by decide +kernel
theorem kit_int_tuple : kitB "int" "tuple" = some false := by decide +kernel
theorem kit_int_list : kitB "int" "list" = some false := by decide +kernel
theorem kit_str_bool : kitB "str" "bool" = some false := by decide +kernel
theorem kit_str_int : kitB "str" "int" = some false := by decide +kernel
theorem kit_str_str : kitB "str" "str" = some true := by decide +kernel
theorem kit_str_tuple : kitB "str" "tuple" = some false := by decide +kernel
theorem kit_str_list : kitB "str" "list" = some false := by decide +kernel
theorem kit_tuple_bool : kitB "tuple" "bool" = some false := by decide +kernel
theorem kit_tuple_int : kitB "tuple" "int" = some false := by decide +kernel
theorem kit_tuple_str : kitB "tuple" "str" = some false := by decide +kernel
theorem kit_tuple_tuple : kitB "tuple" "tuple" = some true := by decide +kernel
theorem kit_tuple_list : kitB "tuple" "list" = some false := by decide +kernel
theorem kit_list_bool : kitB "list" "bool" = some false := by decide +kernel
theorem kit_list_int : kitB "list" "int" = some false := by decide +kernel
theorem kit_list_str : kitB "list" "str" = some false := by decide +kernel
theorem kit_list_tuple : kitB "list" "tuple" = some false := by decide +kernel
theorem kit_list_list : kitB "list" "list" = some true := by decide +kernel

/-! ### a block of some written things and of a rest -/
theorem perm_front (a b c : Os) : (a ++ (b ++ c)).Perm (b ++ (a ++ c)) := by
  have h := (List.perm_append_comm (l₁ := a) (l₂ := b)).append_right c
  rw [List.append_assoc, List.append_assoc] at h
  exact h
theorem blk_perm (a h b t c : Os) : (a ++ (h ++ (b ++ (t ++ c)))).Perm ((h ++ t) ++ (a ++ (b ++ c))) := by
  rw [List.append_assoc]
  refine (perm_front a h _).trans (List.Perm.append_left h ?_)
  exact ((perm_front b t c).append_left a).trans (perm_front a t _)
theorem blk_back (n : Nat) (a b c o : Os) : (o ++ (a ++ (b ++ c))).Perm (a ++ (o.take n ++ (b ++ (o.drop n ++ c)))) := by
  have h := (blk_perm a (o.take n) b (o.drop n) c).symm
  rw [List.take_append_drop] at h
  exact h
theorem callX_blk {T : FT} {ws : List D} {a h b t c : Os} {k : D → Os → Prop} {kx : Kx} (q : T ws (h ++ t) (fun w o => k w (a ++ (o.take h.length ++ (b ++ (o.drop h.length ++ c))))) (fun x o => kx x (a ++ (o.take h.length ++ (b ++ (o.drop h.length ++ c)))))) :
    callX T ws (a ++ (h ++ (b ++ (t ++ c)))) k kx := by
  rw [callX_eq]
  exact ⟨h ++ t, a ++ (b ++ c), fun o => a ++ (o.take h.length ++ (b ++ (o.drop h.length ++ c))), blk_perm a h b t c, fun o => blk_back h.length a b c o, q⟩
theorem callX_blk0 {T : FT} {ws : List D} {a h b t : Os} {k : D → Os → Prop} {kx : Kx} (q : T ws (h ++ t) (fun w o => k w (a ++ (o.take h.length ++ (b ++ o.drop h.length)))) (fun x o => kx x (a ++ (o.take h.length ++ (b ++ o.drop h.length))))) :
    callX T ws (a ++ (h ++ (b ++ t))) k kx := by
  have e : ∀ o : Os, a ++ (o.take h.length ++ (b ++ (o.drop h.length ++ []))) = a ++ (o.take h.length ++ (b ++ o.drop h.length)) := fun o => by rw [List.append_nil]
  have r := callX_blk (T := T) (ws := ws) (a := a) (h := h) (b := b) (t := t) (c := []) (k := k) (kx := kx) (by simp only [e]; exact q)
  rw [List.append_nil] at r
  exact r
/-- the first thing stays -/
theorem callX_tl {T : FT} {ws : List D} {x : Addr × OO} {os : Os} {k : D → Os → Prop} {kx : Kx} (q : T ws os (fun w o => k w (x :: o)) (fun y o => kx y (x :: o))) : callX T ws (x :: os) k kx := by
  rw [callX_eq]
  exact ⟨os, [x], fun o => x :: o, List.perm_append_comm (l₁ := [x]), fun o => List.perm_append_comm (l₁ := o) (l₂ := [x]), q⟩
theorem ex3 {α β γ : Type} {P : α → β → Prop} {Q : α → β → γ → Prop} {K : α → β → γ → Prop} (h : ∃ n ws, P n ws ∧ ∃ w, Q n ws w ∧ K n ws w) : ∃ n ws w, P n ws ∧ Q n ws w ∧ K n ws w :=
  let ⟨n, ws, h1, w, h2, h3⟩ := h; ⟨n, ws, w, h1, h2, h3⟩
theorem exO {os : Os} {n : Nat} {a C : Addr} {fs : List (Nat × D)} {f : Nat} (h : os[n]? = some (a, .ins C fs)) (h2 : lkF f fs = none) : ∃ (n : Nat) (fs : List (Nat × D)), os[n]? = some (a, .ins C fs) ∧ lkF f fs = none := ⟨n, fs, h, h2⟩
theorem callX_tlE {T : FT} {ws : List D} {x : Addr × OO} {os2 os : Os} {k : D → Os → Prop} {kx : Kx} (e : os2 = x :: os) (q : T ws os (fun w o => k w (x :: o)) (fun y o => kx y (x :: o))) : callX T ws os2 k kx := e ▸ callX_tl q
theorem callX_pm {T : FT} {ws : List D} {os of or : Os} {k : D → Os → Prop} {kx : Kx} (hp : os.Perm (of ++ or)) (q : T ws of (fun w o => k w (o ++ or)) (fun y o => kx y (o ++ or))) : callX T ws os k kx := by
  rw [callX_eq]
  exact ⟨of, or, fun o => o ++ or, hp, fun o => .refl _, q⟩
/-- a part in the middle -/
theorem callX_mid {T : FT} {ws : List D} {a h c : Os} {k : D → Os → Prop} {kx : Kx} (q : T ws h (fun w o => k w (a ++ (o ++ c))) (fun x o => kx x (a ++ (o ++ c)))) : callX T ws (a ++ (h ++ c)) k kx := by
  rw [callX_eq]
  exact ⟨h, a ++ c, fun o => a ++ (o ++ c), perm_front a h c, fun o => perm_front o a c, q⟩
/-- a family of owned lists -/
def inn : List Addr → List (List D) → Os
  | a :: as, l :: ls => (a, .lst l) :: inn as ls
  | _, _ => []
theorem inn_at : ∀ {as : List Addr} {ls : List (List D)} {n : Nat} {a : Addr} {l : List D}, as[n]? = some a → ls[n]? = some l → (inn as ls)[n]? = some (a, .lst l)
  | _ :: _, _ :: _, 0, _, _, h1, h2 => by cases h1; cases h2; rfl
  | _ :: as, _ :: ls, n + 1, _, _, h1, h2 => inn_at (as := as) (ls := ls) (n := n) h1 h2
  | [], _, _, _, _, h1, _ => by simp at h1
  | _ :: _, [], _, _, _, _, h2 => by simp at h2
theorem inn_set : ∀ {as : List Addr} {ls : List (List D)} {n : Nat} {a : Addr} {l : List D}, as[n]? = some a → (inn as ls).set n (a, .lst l) = inn as (ls.set n l)
  | _ :: _, _ :: _, 0, _, _, h1 => by cases h1; rfl
  | _ :: as, _ :: ls, n + 1, _, _, h1 => congrArg (_ :: ·) (inn_set (as := as) (ls := ls) (n := n) h1)
  | [], _, _, _, _, h1 => by simp at h1
  | _ :: _, [], n, _, _, _ => by cases n <;> rfl
theorem inn_len : ∀ {as : List Addr} {ls : List (List D)}, as.length = ls.length → (inn as ls).length = ls.length
  | [], [], _ => rfl
  | _ :: as, _ :: ls, h => congrArg (· + 1) (inn_len (as := as) (ls := ls) (by simpa using h))
  | [], _ :: _, h => by cases h
  | _ :: _, [], h => by cases h
theorem inn_app : ∀ {as : List Addr} {ls : List (List D)} {a : Addr} {l : List D}, as.length = ls.length → inn (as ++ [a]) (ls ++ [l]) = inn as ls ++ [(a, .lst l)]
  | [], [], _, _, _ => rfl
  | _ :: as, _ :: ls, _, _, h => congrArg (_ :: ·) (inn_app (as := as) (ls := ls) (by simpa using h))
  | [], _ :: _, _, _, h => by cases h
  | _ :: _, [], _, _, h => by cases h
theorem inn_appA : ∀ {as as2 : List Addr} {ls ls2 : List (List D)}, as.length = ls.length → inn (as ++ as2) (ls ++ ls2) = inn as ls ++ inn as2 ls2
  | [], _, [], _, _ => rfl
  | _ :: as, as2, _ :: ls, ls2, h => congrArg (_ :: ·) (inn_appA (as := as) (ls := ls) (as2 := as2) (ls2 := ls2) (by simpa using h))
  | [], _, _ :: _, _, h => by cases h
  | _ :: _, _, [], _, h => by cases h
/-- a new list takes a place; the old one goes -/
theorem inn_swap : ∀ {as : List Addr} {ls : List (List D)} {n : Nat} {a : Addr} {l : List D}, as.length = ls.length → n < ls.length → WkO ((a, .lst l) :: inn as ls) (inn (as.set n a) (ls.set n l))
  | b :: as, m :: ls, 0, a, l, _, _ => ⟨[(b, .lst m)], by
      show ((a, OO.lst l) :: (b, .lst m) :: inn as ls).Perm (((a, .lst l) :: inn as ls) ++ [(b, .lst m)])
      exact (List.perm_append_comm (l₁ := [(b, OO.lst m)]) (l₂ := inn as ls)).cons _⟩
  | b :: as, m :: ls, n + 1, a, l, h, hn => by
      have ih := inn_swap (as := as) (ls := ls) (n := n) (a := a) (l := l) (by simpa using h) (by simpa using hn)
      exact WkO.trans (.perm (.swap _ _ _)) (.cons ih)
  | [], [], _, _, _, _, hn => by simp at hn
  | [], _ :: _, _, _, _, h, _ => by cases h
  | _ :: _, [], _, _, _, h, _ => by cases h
theorem atI_mapN {α : Type} {f : α → D} {xs : List α} {i : Int} {x : α} (h0 : 0 ≤ i) (h1 : xs[i.toNat]? = some x) : atI (xs.map f) i = some (f x) := atI_some h0 (by rw [List.getElem?_map, h1]; rfl)
theorem app_at {A B : Os} {n : Nat} {x : Addr × OO} (h : B[n]? = some x) : (A ++ B)[A.length + n]? = some x := by
  rw [List.getElem?_append_right (Nat.le_add_right _ _), Nat.add_sub_cancel_left]; exact h
theorem app_set {A B : Os} {n : Nat} {x : Addr × OO} : (A ++ B).set (A.length + n) x = A ++ B.set n x := by
  rw [List.set_append_right _ _ (Nat.le_add_right _ _), Nat.add_sub_cancel_left]
theorem appL_at {A B : Os} {n : Nat} {x : Addr × OO} (h : A[n]? = some x) : (A ++ B)[n]? = some x := by
  rw [List.getElem?_append_left (List.getElem?_eq_some_iff.mp h).1]; exact h
theorem appL_set {A B : Os} {n : Nat} {x : Addr × OO} (h : n < A.length) : (A ++ B).set n x = A.set n x ++ B := List.set_append_left _ _ h
theorem ixN_last {n : Nat} : ixN (n + 1) (-1) = some n := by
  unfold ixN
  rw [if_neg (by omega), if_pos (by omega)]
  congr 1
  omega
theorem ixN_lastL {α : Type} {xs : List α} {x : α} : ixN (xs ++ [x]).length (-1) = some xs.length := by
  rw [List.length_append]; exact ixN_last
theorem ixN_lastM {α β : Type} {f : α → β} {xs : List α} {x : α} : ixN ((xs ++ [x]).map f).length (-1) = some xs.length := by
  rw [List.length_map]; exact ixN_lastL
theorem atI_last {α : Type} {xs : List α} {x : α} : atI (xs ++ [x]) (-1) = some x := by
  unfold atI
  rw [ixN_lastL]
  simp
theorem atI_lastM {α β : Type} {f : α → β} {xs : List α} {x : α} : atI ((xs ++ [x]).map f) (-1) = some (f x) := by
  rw [List.map_append]; exact atI_last
theorem cutA_init {α : Type} (xs : List α) (x : α) : cutA (xs ++ [x]) none (some (-1)) = xs := by
  unfold cutA HT.sIx
  have e : (-1 + ((xs.length : Int) + 1)).toNat = xs.length := by omega
  simp [e]
theorem cutA_initM {α β : Type} {f : α → β} (xs : List α) (x : α) : cutA ((xs ++ [x]).map f) none (some (-1)) = xs.map f := by
  rw [List.map_append]; exact cutA_init _ _
theorem cutA_lastM {α β : Type} {f : α → β} (xs : List α) (x : α) : cutA ((xs ++ [x]).map f) (some (-1)) none = [f x] := by
  rw [List.map_append]
  unfold cutA HT.sIx
  have e : (-1 + ((xs.length : Int) + 1)).toNat = xs.length := by omega
  have e2 : (List.map f xs ++ [f x]).drop xs.length = [f x] := by
    have := List.drop_left (l₁ := List.map f xs) (l₂ := [f x])
    rw [List.length_map] at this
    exact this
  simp [e, e2]
theorem cutA_from {α : Type} (xs : List α) (n : Nat) : cutA xs (some (n : Int)) none = xs.drop n := by
  unfold cutA
  rw [HT.sIx_nat, HT.sIx_none]
  rcases Nat.le_total n xs.length with h | h
  · rw [Nat.min_eq_left h]
    exact List.take_of_length_le (by rw [List.length_drop]; exact Nat.le_refl _)
  · rw [Nat.min_eq_right h, List.drop_of_length_le (Nat.le_refl _), List.drop_of_length_le h, List.take_nil]
theorem cutA_to {α : Type} (xs : List α) (n : Nat) : cutA xs none (some (n : Int)) = xs.take n := by
  unfold cutA
  rw [HT.sIx_nat, HT.sIx_none, List.drop_zero, Nat.sub_zero]
  rcases Nat.le_total n xs.length with h | h
  · rw [Nat.min_eq_left h]
  · rw [Nat.min_eq_right h, List.take_of_length_le (Nat.le_refl _), List.take_of_length_le h]
theorem cutA_all {α : Type} (xs : List α) : cutA xs none none = xs := by
  unfold cutA
  rw [HT.sIx_none, HT.sIx_none, List.drop_zero, Nat.sub_zero, List.take_of_length_le (Nat.le_refl _)]
theorem cutA_mid {α : Type} (xs : List α) (n m : Nat) : cutA xs (some (n : Int)) (some (m : Int)) = (xs.take m).drop n := by
  unfold cutA
  rw [HT.sIx_nat, HT.sIx_nat, List.drop_take]
  rcases Nat.le_total n xs.length with h | h
  · rw [Nat.min_eq_left h]
    rcases Nat.le_total m xs.length with h2 | h2
    · rw [Nat.min_eq_left h2]
    · rw [Nat.min_eq_right h2, List.take_of_length_le (by rw [List.length_drop]; exact Nat.le_refl _), List.take_of_length_le (by rw [List.length_drop]; omega)]
  · rw [Nat.min_eq_right h, List.drop_of_length_le (Nat.le_refl _), List.drop_of_length_le h, List.take_nil, List.take_nil]
theorem sx0 {n : Nat} (h : 0 < n) : seqIndex? 0 n = some 0 := by
  unfold seqIndex?
  have h2 : (0 : Int) < n := by omega
  simp
  omega
theorem atI_c0 {α : Type} {x : α} {ws : List α} : atI (x :: ws) 0 = some x := atI_some (by decide) (by simp)
theorem atI_c1 {α : Type} {x y : α} {ws : List α} : atI (x :: y :: ws) 1 = some y := atI_some (by decide) (by simp)
theorem atI_c2 {α : Type} {x y z : α} {ws : List α} : atI (x :: y :: z :: ws) 2 = some z := atI_some (by decide) (by simp)
theorem atI_c3 {α : Type} {x y z u : α} {ws : List α} : atI (x :: y :: z :: u :: ws) 3 = some u := atI_some (by decide) (by simp)
theorem kI {k : D → Os → Prop} {os : Os} {x y : Int} (h : k (.int y) os) (e : x = y) : k (.int x) os := e ▸ h
theorem kB {k : D → Os → Prop} {os : Os} {x y : Bool} (h : k (.bl y) os) (e : x = y) : k (.bl x) os := e ▸ h
theorem kD {k : D → Os → Prop} {os : Os} {x y : D} (h : k y os) (e : x = y) : k x os := e ▸ h
end EV
set_option Elab.async false
set_option linter.all false
set_option maxRecDepth 100000
set_option maxHeartbeats 0
namespace My
open PySem PySem.Spec PyProof.Rows L2 EV
def top (i : Nat) : Stmt := PySem.Challenge.pw_deadbeat_k75_limits_of_programs.main.body.getD i (.Pass ⟨0, 0, 0, 0⟩)
structure Txt (w : World) (K : PySem.W.Frag) (mg : Str → Option Value) (CS : Nat → Addr) : Prop where
  c_RESERVED : Glb K mg "RESERVED" (.tup [.str "system", .str "in", .str "out", .str "object", .str "cell", .str "operation", .str "give", .str "end", .str "task", .str "every", .str "within", .str "if", .str "else", .str "loop", .str "to", .str "while", .str "read", .str "write", .str "interrupt", .str "calls", .str "mod", .str "and", .str "or"])
  c_VARIABLE : Glb K mg "VARIABLE" (.int (-1))
  c_LONGEST : Glb K mg "LONGEST" (.int 4194304)
  c_UNARY : Glb K mg "UNARY" (.ref (CS 3))
  kd_UNARY : GDict K w (CS 3) ["neg", "inv", "not"]
  b_range : mg "range" = none
  b_str : mg "str" = none
  b_len : mg "len" = none
  b_enumerate : mg "enumerate" = none
  b_max : mg "max" = none
  b_sum : mg "sum" = none
  b_abs : mg "abs" = none
  b_int : mg "int" = none
  b_repr : mg "repr" = none
  cl_Checker : Cls K (CS 0)
  na_Checker_ports : NoAttr K (CS 0) "ports"
  na_Checker_objects : NoAttr K (CS 0) "objects"
  v_RuleError : Glb K mg "RuleError" (.ref (CS 2))
  mg_RuleError : mg "RuleError" = some (.ref (CS 2))
  xm_RuleError : PySem.W.exmOne K (.ref (CS 2)) (.ref (CS 2)) = some true
  xf_RuleError : XfC K (CS 2)
  xc_RuleError : ExcC K (CS 2)
  no_RuleError : PySem.W.findIn K (.ref (CS 2)) "rule" = some none
theorem nd__law_name : (("_law_name" : Str) == ("__debug__" : Str)) = false ∧ (("_law_name" : Str) == ("__classdict__" : Str)) = false := by decide +kernel
theorem nd__law_params : (("_law_params" : Str) == ("__debug__" : Str)) = false ∧ (("_law_params" : Str) == ("__classdict__" : Str)) = false := by decide +kernel
theorem nd__law_cells : (("_law_cells" : Str) == ("__debug__" : Str)) = false ∧ (("_law_cells" : Str) == ("__classdict__" : Str)) = false := by decide +kernel
theorem nd__law_body : (("_law_body" : Str) == ("__debug__" : Str)) = false ∧ (("_law_body" : Str) == ("__classdict__" : Str)) = false := by decide +kernel
theorem nd__law_ports : (("_law_ports" : Str) == ("__debug__" : Str)) = false ∧ (("_law_ports" : Str) == ("__classdict__" : Str)) = false := by decide +kernel
theorem nd__law_objects : (("_law_objects" : Str) == ("__debug__" : Str)) = false ∧ (("_law_objects" : Str) == ("__classdict__" : Str)) = false := by decide +kernel
theorem nd__law_tasks : (("_law_tasks" : Str) == ("__debug__" : Str)) = false ∧ (("_law_tasks" : Str) == ("__classdict__" : Str)) = false := by decide +kernel
theorem nd__law_interrupts : (("_law_interrupts" : Str) == ("__debug__" : Str)) = false ∧ (("_law_interrupts" : Str) == ("__classdict__" : Str)) = false := by decide +kernel
theorem nd__law_word : (("_law_word" : Str) == ("__debug__" : Str)) = false ∧ (("_law_word" : Str) == ("__classdict__" : Str)) = false := by decide +kernel
theorem nd__law_many : (("_law_many" : Str) == ("__debug__" : Str)) = false ∧ (("_law_many" : Str) == ("__classdict__" : Str)) = false := by decide +kernel
theorem nd__law_k : (("_law_k" : Str) == ("__debug__" : Str)) = false ∧ (("_law_k" : Str) == ("__classdict__" : Str)) = false := by decide +kernel
theorem nd_range : (("range" : Str) == ("__debug__" : Str)) = false ∧ (("range" : Str) == ("__classdict__" : Str)) = false := by decide +kernel
theorem nd_str : (("str" : Str) == ("__debug__" : Str)) = false ∧ (("str" : Str) == ("__classdict__" : Str)) = false := by decide +kernel
theorem nd__law_kind : (("_law_kind" : Str) == ("__debug__" : Str)) = false ∧ (("_law_kind" : Str) == ("__classdict__" : Str)) = false := by decide +kernel
theorem nd__law_n : (("_law_n" : Str) == ("__debug__" : Str)) = false ∧ (("_law_n" : Str) == ("__classdict__" : Str)) = false := by decide +kernel
theorem nd__law_plain : (("_law_plain" : Str) == ("__debug__" : Str)) = false ∧ (("_law_plain" : Str) == ("__classdict__" : Str)) = false := by decide +kernel
theorem nd__law_rows_here : (("_law_rows_here" : Str) == ("__debug__" : Str)) = false ∧ (("_law_rows_here" : Str) == ("__classdict__" : Str)) = false := by decide +kernel
theorem nd__law_operation : (("_law_operation" : Str) == ("__debug__" : Str)) = false ∧ (("_law_operation" : Str) == ("__classdict__" : Str)) = false := by decide +kernel
theorem nd__law_whole : (("_law_whole" : Str) == ("__debug__" : Str)) = false ∧ (("_law_whole" : Str) == ("__classdict__" : Str)) = false := by decide +kernel
theorem nd__law_rows : (("_law_rows" : Str) == ("__debug__" : Str)) = false ∧ (("_law_rows" : Str) == ("__classdict__" : Str)) = false := by decide +kernel
theorem nd__law_task : (("_law_task" : Str) == ("__debug__" : Str)) = false ∧ (("_law_task" : Str) == ("__classdict__" : Str)) = false := by decide +kernel
theorem nd__law_inner : (("_law_inner" : Str) == ("__debug__" : Str)) = false ∧ (("_law_inner" : Str) == ("__classdict__" : Str)) = false := by decide +kernel
theorem nd__law_first : (("_law_first" : Str) == ("__debug__" : Str)) = false ∧ (("_law_first" : Str) == ("__classdict__" : Str)) = false := by decide +kernel
theorem nd__law_left : (("_law_left" : Str) == ("__debug__" : Str)) = false ∧ (("_law_left" : Str) == ("__classdict__" : Str)) = false := by decide +kernel
theorem nd__law_right : (("_law_right" : Str) == ("__debug__" : Str)) = false ∧ (("_law_right" : Str) == ("__classdict__" : Str)) = false := by decide +kernel
theorem nd__law_more : (("_law_more" : Str) == ("__debug__" : Str)) = false ∧ (("_law_more" : Str) == ("__classdict__" : Str)) = false := by decide +kernel
theorem nd__law_e : (("_law_e" : Str) == ("__debug__" : Str)) = false ∧ (("_law_e" : Str) == ("__classdict__" : Str)) = false := by decide +kernel
theorem nd__law_rest : (("_law_rest" : Str) == ("__debug__" : Str)) = false ∧ (("_law_rest" : Str) == ("__classdict__" : Str)) = false := by decide +kernel
theorem nd__law_deep : (("_law_deep" : Str) == ("__debug__" : Str)) = false ∧ (("_law_deep" : Str) == ("__classdict__" : Str)) = false := by decide +kernel
theorem nd__law_loops : (("_law_loops" : Str) == ("__debug__" : Str)) = false ∧ (("_law_loops" : Str) == ("__classdict__" : Str)) = false := by decide +kernel
theorem nd__law_unary : (("_law_unary" : Str) == ("__debug__" : Str)) = false ∧ (("_law_unary" : Str) == ("__classdict__" : Str)) = false := by decide +kernel
theorem nd__law_wide : (("_law_wide" : Str) == ("__debug__" : Str)) = false ∧ (("_law_wide" : Str) == ("__classdict__" : Str)) = false := by decide +kernel
theorem nd_self : (("self" : Str) == ("__debug__" : Str)) = false ∧ (("self" : Str) == ("__classdict__" : Str)) = false := by decide +kernel
theorem nd_program : (("program" : Str) == ("__debug__" : Str)) = false ∧ (("program" : Str) == ("__classdict__" : Str)) = false := by decide +kernel
theorem nd_holds : (("holds" : Str) == ("__debug__" : Str)) = false ∧ (("holds" : Str) == ("__classdict__" : Str)) = false := by decide +kernel
theorem nd_rule : (("rule" : Str) == ("__debug__" : Str)) = false ∧ (("rule" : Str) == ("__classdict__" : Str)) = false := by decide +kernel
theorem nd_RuleError : (("RuleError" : Str) == ("__debug__" : Str)) = false ∧ (("RuleError" : Str) == ("__classdict__" : Str)) = false := by decide +kernel
theorem nd_name : (("name" : Str) == ("__debug__" : Str)) = false ∧ (("name" : Str) == ("__classdict__" : Str)) = false := by decide +kernel
theorem nd_RESERVED : (("RESERVED" : Str) == ("__debug__" : Str)) = false ∧ (("RESERVED" : Str) == ("__classdict__" : Str)) = false := by decide +kernel
theorem nd_text : (("text" : Str) == ("__debug__" : Str)) = false ∧ (("text" : Str) == ("__classdict__" : Str)) = false := by decide +kernel
theorem nd_k : (("k" : Str) == ("__debug__" : Str)) = false ∧ (("k" : Str) == ("__classdict__" : Str)) = false := by decide +kernel
theorem nd_char : (("char" : Str) == ("__debug__" : Str)) = false ∧ (("char" : Str) == ("__classdict__" : Str)) = false := by decide +kernel
theorem nd_letter : (("letter" : Str) == ("__debug__" : Str)) = false ∧ (("letter" : Str) == ("__classdict__" : Str)) = false := by decide +kernel
theorem nd_len : (("len" : Str) == ("__debug__" : Str)) = false ∧ (("len" : Str) == ("__classdict__" : Str)) = false := by decide +kernel
theorem nd_is_reserved : (("is_reserved" : Str) == ("__debug__" : Str)) = false ∧ (("is_reserved" : Str) == ("__classdict__" : Str)) = false := by decide +kernel
theorem nd_enumerate : (("enumerate" : Str) == ("__debug__" : Str)) = false ∧ (("enumerate" : Str) == ("__classdict__" : Str)) = false := by decide +kernel
theorem nd_names : (("names" : Str) == ("__debug__" : Str)) = false ∧ (("names" : Str) == ("__classdict__" : Str)) = false := by decide +kernel
theorem nd_kind : (("kind" : Str) == ("__debug__" : Str)) = false ∧ (("kind" : Str) == ("__classdict__" : Str)) = false := by decide +kernel
theorem nd_port : (("port" : Str) == ("__debug__" : Str)) = false ∧ (("port" : Str) == ("__classdict__" : Str)) = false := by decide +kernel
theorem nd__require : (("_require" : Str) == ("__debug__" : Str)) = false ∧ (("_require" : Str) == ("__classdict__" : Str)) = false := by decide +kernel
theorem nd_is_name : (("is_name" : Str) == ("__debug__" : Str)) = false ∧ (("is_name" : Str) == ("__classdict__" : Str)) = false := by decide +kernel
theorem nd_declared : (("declared" : Str) == ("__debug__" : Str)) = false ∧ (("declared" : Str) == ("__classdict__" : Str)) = false := by decide +kernel
theorem nd_scope : (("scope" : Str) == ("__debug__" : Str)) = false ∧ (("scope" : Str) == ("__classdict__" : Str)) = false := by decide +kernel
theorem nd_many : (("many" : Str) == ("__debug__" : Str)) = false ∧ (("many" : Str) == ("__classdict__" : Str)) = false := by decide +kernel
theorem nd_body : (("body" : Str) == ("__debug__" : Str)) = false ∧ (("body" : Str) == ("__classdict__" : Str)) = false := by decide +kernel
theorem nd_deep : (("deep" : Str) == ("__debug__" : Str)) = false ∧ (("deep" : Str) == ("__classdict__" : Str)) = false := by decide +kernel
theorem nd_loops : (("loops" : Str) == ("__debug__" : Str)) = false ∧ (("loops" : Str) == ("__classdict__" : Str)) = false := by decide +kernel
theorem nd_statement : (("statement" : Str) == ("__debug__" : Str)) = false ∧ (("statement" : Str) == ("__classdict__" : Str)) = false := by decide +kernel
theorem nd_rows : (("rows" : Str) == ("__debug__" : Str)) = false ∧ (("rows" : Str) == ("__classdict__" : Str)) = false := by decide +kernel
theorem nd_own : (("own" : Str) == ("__debug__" : Str)) = false ∧ (("own" : Str) == ("__classdict__" : Str)) = false := by decide +kernel
theorem nd_row : (("row" : Str) == ("__debug__" : Str)) = false ∧ (("row" : Str) == ("__classdict__" : Str)) = false := by decide +kernel
theorem nd_inner : (("inner" : Str) == ("__debug__" : Str)) = false ∧ (("inner" : Str) == ("__classdict__" : Str)) = false := by decide +kernel
theorem nd__count : (("_count" : Str) == ("__debug__" : Str)) = false ∧ (("_count" : Str) == ("__classdict__" : Str)) = false := by decide +kernel
theorem nd_max : (("max" : Str) == ("__debug__" : Str)) = false ∧ (("max" : Str) == ("__classdict__" : Str)) = false := by decide +kernel
theorem nd_e : (("e" : Str) == ("__debug__" : Str)) = false ∧ (("e" : Str) == ("__classdict__" : Str)) = false := by decide +kernel
theorem nd__check_cells : (("_check_cells" : Str) == ("__debug__" : Str)) = false ∧ (("_check_cells" : Str) == ("__classdict__" : Str)) = false := by decide +kernel
theorem nd_UNARY : (("UNARY" : Str) == ("__debug__" : Str)) = false ∧ (("UNARY" : Str) == ("__classdict__" : Str)) = false := by decide +kernel
theorem nd_part : (("part" : Str) == ("__debug__" : Str)) = false ∧ (("part" : Str) == ("__classdict__" : Str)) = false := by decide +kernel
theorem nd_parts : (("parts" : Str) == ("__debug__" : Str)) = false ∧ (("parts" : Str) == ("__classdict__" : Str)) = false := by decide +kernel
theorem nd_depth : (("depth" : Str) == ("__debug__" : Str)) = false ∧ (("depth" : Str) == ("__classdict__" : Str)) = false := by decide +kernel
theorem nd_sum : (("sum" : Str) == ("__debug__" : Str)) = false ∧ (("sum" : Str) == ("__classdict__" : Str)) = false := by decide +kernel
theorem nd_size : (("size" : Str) == ("__debug__" : Str)) = false ∧ (("size" : Str) == ("__classdict__" : Str)) = false := by decide +kernel
theorem nd_deepest : (("deepest" : Str) == ("__debug__" : Str)) = false ∧ (("deepest" : Str) == ("__classdict__" : Str)) = false := by decide +kernel
theorem nd_place : (("place" : Str) == ("__debug__" : Str)) = false ∧ (("place" : Str) == ("__classdict__" : Str)) = false := by decide +kernel
theorem nd__check_expression : (("_check_expression" : Str) == ("__debug__" : Str)) = false ∧ (("_check_expression" : Str) == ("__classdict__" : Str)) = false := by decide +kernel
theorem nd_objects : (("objects" : Str) == ("__debug__" : Str)) = false ∧ (("objects" : Str) == ("__classdict__" : Str)) = false := by decide +kernel
theorem nd_operation : (("operation" : Str) == ("__debug__" : Str)) = false ∧ (("operation" : Str) == ("__classdict__" : Str)) = false := by decide +kernel
theorem nd_owner : (("owner" : Str) == ("__debug__" : Str)) = false ∧ (("owner" : Str) == ("__classdict__" : Str)) = false := by decide +kernel
theorem nd_at : (("at" : Str) == ("__debug__" : Str)) = false ∧ (("at" : Str) == ("__classdict__" : Str)) = false := by decide +kernel
theorem nd_find : (("find" : Str) == ("__debug__" : Str)) = false ∧ (("find" : Str) == ("__classdict__" : Str)) = false := by decide +kernel
theorem nd__check_index : (("_check_index" : Str) == ("__debug__" : Str)) = false ∧ (("_check_index" : Str) == ("__classdict__" : Str)) = false := by decide +kernel
theorem nd__check_place : (("_check_place" : Str) == ("__debug__" : Str)) = false ∧ (("_check_place" : Str) == ("__classdict__" : Str)) = false := by decide +kernel
theorem nd_check_call : (("check_call" : Str) == ("__debug__" : Str)) = false ∧ (("check_call" : Str) == ("__classdict__" : Str)) = false := by decide +kernel
theorem nd__ : (("_" : Str) == ("__debug__" : Str)) = false ∧ (("_" : Str) == ("__classdict__" : Str)) = false := by decide +kernel
theorem nd_count : (("count" : Str) == ("__debug__" : Str)) = false ∧ (("count" : Str) == ("__classdict__" : Str)) = false := by decide +kernel
theorem nd_test : (("test" : Str) == ("__debug__" : Str)) = false ∧ (("test" : Str) == ("__classdict__" : Str)) = false := by decide +kernel
theorem nd_other : (("other" : Str) == ("__debug__" : Str)) = false ∧ (("other" : Str) == ("__classdict__" : Str)) = false := by decide +kernel
theorem nd_VARIABLE : (("VARIABLE" : Str) == ("__debug__" : Str)) = false ∧ (("VARIABLE" : Str) == ("__classdict__" : Str)) = false := by decide +kernel
theorem nd_checker : (("checker" : Str) == ("__debug__" : Str)) = false ∧ (("checker" : Str) == ("__classdict__" : Str)) = false := by decide +kernel
theorem nd_fields : (("fields" : Str) == ("__debug__" : Str)) = false ∧ (("fields" : Str) == ("__classdict__" : Str)) = false := by decide +kernel
theorem nd_known : (("known" : Str) == ("__debug__" : Str)) = false ∧ (("known" : Str) == ("__classdict__" : Str)) = false := by decide +kernel
theorem nd_params : (("params" : Str) == ("__debug__" : Str)) = false ∧ (("params" : Str) == ("__classdict__" : Str)) = false := by decide +kernel
theorem nd_result : (("result" : Str) == ("__debug__" : Str)) = false ∧ (("result" : Str) == ("__classdict__" : Str)) = false := by decide +kernel
theorem nd_param : (("param" : Str) == ("__debug__" : Str)) = false ∧ (("param" : Str) == ("__classdict__" : Str)) = false := by decide +kernel
theorem nd__declare : (("_declare" : Str) == ("__debug__" : Str)) = false ∧ (("_declare" : Str) == ("__classdict__" : Str)) = false := by decide +kernel
theorem nd__check_operation : (("_check_operation" : Str) == ("__debug__" : Str)) = false ∧ (("_check_operation" : Str) == ("__classdict__" : Str)) = false := by decide +kernel
theorem nd_LONGEST : (("LONGEST" : Str) == ("__debug__" : Str)) = false ∧ (("LONGEST" : Str) == ("__classdict__" : Str)) = false := by decide +kernel
theorem nd_task : (("task" : Str) == ("__debug__" : Str)) = false ∧ (("task" : Str) == ("__classdict__" : Str)) = false := by decide +kernel
theorem nd_interrupt : (("interrupt" : Str) == ("__debug__" : Str)) = false ∧ (("interrupt" : Str) == ("__classdict__" : Str)) = false := by decide +kernel
theorem nd_Checker : (("Checker" : Str) == ("__debug__" : Str)) = false ∧ (("Checker" : Str) == ("__classdict__" : Str)) = false := by decide +kernel
theorem nd__check_ports : (("_check_ports" : Str) == ("__debug__" : Str)) = false ∧ (("_check_ports" : Str) == ("__classdict__" : Str)) = false := by decide +kernel
theorem nd__check_objects : (("_check_objects" : Str) == ("__debug__" : Str)) = false ∧ (("_check_objects" : Str) == ("__classdict__" : Str)) = false := by decide +kernel
theorem nd__check_times : (("_check_times" : Str) == ("__debug__" : Str)) = false ∧ (("_check_times" : Str) == ("__classdict__" : Str)) = false := by decide +kernel
theorem nd__law_program : (("_law_program" : Str) == ("__debug__" : Str)) = false ∧ (("_law_program" : Str) == ("__classdict__" : Str)) = false := by decide +kernel
theorem nd_check : (("check" : Str) == ("__debug__" : Str)) = false ∧ (("check" : Str) == ("__classdict__" : Str)) = false := by decide +kernel
theorem nd__law_script : (("_law_script" : Str) == ("__debug__" : Str)) = false ∧ (("_law_script" : Str) == ("__classdict__" : Str)) = false := by decide +kernel
theorem nd__law_cell : (("_law_cell" : Str) == ("__debug__" : Str)) = false ∧ (("_law_cell" : Str) == ("__classdict__" : Str)) = false := by decide +kernel
theorem nd__law_limits : (("_law_limits" : Str) == ("__debug__" : Str)) = false ∧ (("_law_limits" : Str) == ("__classdict__" : Str)) = false := by decide +kernel
theorem nd__law_limit : (("_law_limit" : Str) == ("__debug__" : Str)) = false ∧ (("_law_limit" : Str) == ("__classdict__" : Str)) = false := by decide +kernel
theorem nd__law_good : (("_law_good" : Str) == ("__debug__" : Str)) = false ∧ (("_law_good" : Str) == ("__classdict__" : Str)) = false := by decide +kernel
theorem nd__law_bad : (("_law_bad" : Str) == ("__debug__" : Str)) = false ∧ (("_law_bad" : Str) == ("__classdict__" : Str)) = false := by decide +kernel
theorem nd__law_rule_here : (("_law_rule_here" : Str) == ("__debug__" : Str)) = false ∧ (("_law_rule_here" : Str) == ("__classdict__" : Str)) = false := by decide +kernel
theorem nd__law_before : (("_law_before" : Str) == ("__debug__" : Str)) = false ∧ (("_law_before" : Str) == ("__classdict__" : Str)) = false := by decide +kernel
theorem nd_abs : (("abs" : Str) == ("__debug__" : Str)) = false ∧ (("abs" : Str) == ("__classdict__" : Str)) = false := by decide +kernel
theorem nd_int : (("int" : Str) == ("__debug__" : Str)) = false ∧ (("int" : Str) == ("__classdict__" : Str)) = false := by decide +kernel
theorem nd__law_counts : (("_law_counts" : Str) == ("__debug__" : Str)) = false ∧ (("_law_counts" : Str) == ("__classdict__" : Str)) = false := by decide +kernel
theorem nd__law_bodies : (("_law_bodies" : Str) == ("__debug__" : Str)) = false ∧ (("_law_bodies" : Str) == ("__classdict__" : Str)) = false := by decide +kernel
theorem nd_repr : (("repr" : Str) == ("__debug__" : Str)) = false ∧ (("repr" : Str) == ("__classdict__" : Str)) = false := by decide +kernel
theorem nd__law_rule : (("_law_rule" : Str) == ("__debug__" : Str)) = false ∧ (("_law_rule" : Str) == ("__classdict__" : Str)) = false := by decide +kernel
theorem nd_DeadbeatError : (("DeadbeatError" : Str) == ("__debug__" : Str)) = false ∧ (("DeadbeatError" : Str) == ("__classdict__" : Str)) = false := by decide +kernel
theorem nn_range : ("range" : Str) ≠ "__name__" := by decide +kernel
theorem bt_range : bootBuiltins ("range" : Str) = some (.type "range") := by decide +kernel
theorem nn_str : ("str" : Str) ≠ "__name__" := by decide +kernel
theorem bt_str : bootBuiltins ("str" : Str) = some (.type "str") := by decide +kernel
theorem nn_len : ("len" : Str) ≠ "__name__" := by decide +kernel
theorem bb_len : bootBuiltins ("len" : Str) = some (.builtin "len") := by decide +kernel
theorem nn_enumerate : ("enumerate" : Str) ≠ "__name__" := by decide +kernel
theorem bt_enumerate : bootBuiltins ("enumerate" : Str) = some (.type "enumerate") := by decide +kernel
theorem nn_max : ("max" : Str) ≠ "__name__" := by decide +kernel
theorem bb_max : bootBuiltins ("max" : Str) = some (.builtin "max") := by decide +kernel
theorem nn_sum : ("sum" : Str) ≠ "__name__" := by decide +kernel
theorem bb_sum : bootBuiltins ("sum" : Str) = some (.builtin "sum") := by decide +kernel
theorem nn_abs : ("abs" : Str) ≠ "__name__" := by decide +kernel
theorem bb_abs : bootBuiltins ("abs" : Str) = some (.builtin "abs") := by decide +kernel
theorem nn_int : ("int" : Str) ≠ "__name__" := by decide +kernel
theorem bt_int : bootBuiltins ("int" : Str) = some (.type "int") := by decide +kernel
theorem nn_repr : ("repr" : Str) ≠ "__name__" := by decide +kernel
theorem bb_repr : bootBuiltins ("repr" : Str) = some (.builtin "repr") := by decide +kernel
abbrev f_ports : Nat := 482906109043
theorem fn_ports : ("ports" : Str) = nm f_ports := by decide +kernel
abbrev f_objects : Nat := 31351931521954931
theorem fn_objects : ("objects" : Str) = nm f_objects := by decide +kernel
abbrev f_body : Nat := 1651467385
theorem fn_body : ("body" : Str) = nm f_body := by decide +kernel
abbrev f_statements : Nat := 545218990191799012586611
theorem fn_statements : ("statements" : Str) = nm f_statements := by decide +kernel
abbrev f_loop : Nat := 1819242352
theorem fn_loop : ("loop" : Str) = nm f_loop := by decide +kernel
abbrev f_call : Nat := 1667329132
theorem fn_call : ("call" : Str) = nm f_call := by decide +kernel
abbrev f_transfer : Nat := 8390876182755042674
theorem fn_transfer : ("transfer" : Str) = nm f_transfer := by decide +kernel
abbrev f_rule : Nat := 1920298085
theorem fn_rule : ("rule" : Str) = nm f_rule := by decide +kernel
section
variable {P : Program} {w : World} {K : PySem.W.Frag} {mg : Str → Option Value} {base : Heap}
abbrev s_RuleError___init__ : Stmt := inClass (top 2) 0
theorem sc_RuleError___init__ : FnScope ["self", "rule"] ["self", "rule"] (defScope s_RuleError___init__) := ⟨rfl, rfl, rfl, by decide +kernel, rfl, by decide +kernel, by decide +kernel⟩
theorem vs_RuleError___init___self : Vis (defScope s_RuleError___init__) "self" := by first | exact .inl rfl | exact .inr (.inl rfl)
theorem vs_RuleError___init___rule : Vis (defScope s_RuleError___init__) "rule" := by first | exact .inl rfl | exact .inr (.inl rfl)
theorem ok_RuleError___init__ {f D C : Addr} {fd : FuncData} (F : Fun K "__init__" "RuleError.__init__" s_RuleError___init__ f fd) (hm : mg "DeadbeatError" = some (.ref D)) (T : InhC K D) : FnOk P w K mg base (L2.CX P w) 1 f fd ["self", "rule"] (spInit K C "rule") :=
  okInit F sc_RuleError___init__ rfl rfl hm nd_DeadbeatError.1 T (fun env => ⟨_, rfl⟩) vs_RuleError___init___self vs_RuleError___init___rule nd_rule.1 nd_rule.2
abbrev s__law_operation : Stmt := top 35
abbrev N__law_operation : List Str := ["_law_name", "_law_params", "_law_cells", "_law_body"]
theorem sc__law_operation : FnScope N__law_operation ["_law_name", "_law_params", "_law_cells", "_law_body"] (defScope s__law_operation) := ⟨rfl, rfl, rfl, by decide +kernel, rfl, by decide +kernel, by decide +kernel⟩
theorem lo__law_operation__law_name : Loc (defScope s__law_operation) "_law_name" := by first | exact .inl rfl | exact .inr rfl
theorem vs__law_operation__law_name : Vis (defScope s__law_operation) "_law_name" := lo__law_operation__law_name.elim .inl fun z => .inr (.inl z)
theorem lo__law_operation__law_params : Loc (defScope s__law_operation) "_law_params" := by first | exact .inl rfl | exact .inr rfl
theorem vs__law_operation__law_params : Vis (defScope s__law_operation) "_law_params" := lo__law_operation__law_params.elim .inl fun z => .inr (.inl z)
theorem lo__law_operation__law_cells : Loc (defScope s__law_operation) "_law_cells" := by first | exact .inl rfl | exact .inr rfl
theorem vs__law_operation__law_cells : Vis (defScope s__law_operation) "_law_cells" := lo__law_operation__law_cells.elim .inl fun z => .inr (.inl z)
theorem lo__law_operation__law_body : Loc (defScope s__law_operation) "_law_body" := by first | exact .inl rfl | exact .inr rfl
theorem vs__law_operation__law_body : Vis (defScope s__law_operation) "_law_body" := lo__law_operation__law_body.elim .inl fun z => .inr (.inl z)
def T__law_operation (CS : Nat → Addr) : FT := fnT 4 (sRet (eTup (aC (eC (.str "operation")) (aC (eV 0) (aC (eV 1) (aC (eV 2) (aC (eV 3) (aC (eC .non) (aN)))))))))
theorem ok__law_operation {f : Addr} {fd : FuncData} {CS : Nat → Addr} (F : Fun K "_law_operation" "_law_operation" s__law_operation f fd) (T : Txt w K mg CS) : FnOk P w K mg base (L2.CX P w) 1 f fd ["_law_name", "_law_params", "_law_cells", "_law_body"] (spX K 4 (T__law_operation CS)) :=
  okX F sc__law_operation rfl rfl (by decide) fun cdv A outer s H E hr =>
  cs_one (c1_ret (cm_tup (ca_cons (cm_str) (ca_cons (cm_v (i := 0) rfl vs__law_operation__law_name nd__law_name.1 nd__law_name.2) (ca_cons (cm_v (i := 1) rfl vs__law_operation__law_params nd__law_params.1 nd__law_params.2) (ca_cons (cm_v (i := 2) rfl vs__law_operation__law_cells nd__law_cells.1 nd__law_cells.2) (ca_cons (cm_v (i := 3) rfl vs__law_operation__law_body nd__law_body.1 nd__law_body.2) (ca_cons (cm_non) (ca_nil) rfl) rfl) rfl) rfl) rfl) rfl) (by decide)))
abbrev s__law_whole : Stmt := top 34
abbrev N__law_whole : List Str := ["_law_ports", "_law_objects", "_law_tasks", "_law_interrupts"]
theorem sc__law_whole : FnScope N__law_whole ["_law_ports", "_law_objects", "_law_tasks", "_law_interrupts"] (defScope s__law_whole) := ⟨rfl, rfl, rfl, by decide +kernel, rfl, by decide +kernel, by decide +kernel⟩
theorem lo__law_whole__law_ports : Loc (defScope s__law_whole) "_law_ports" := by first | exact .inl rfl | exact .inr rfl
theorem vs__law_whole__law_ports : Vis (defScope s__law_whole) "_law_ports" := lo__law_whole__law_ports.elim .inl fun z => .inr (.inl z)
theorem lo__law_whole__law_objects : Loc (defScope s__law_whole) "_law_objects" := by first | exact .inl rfl | exact .inr rfl
theorem vs__law_whole__law_objects : Vis (defScope s__law_whole) "_law_objects" := lo__law_whole__law_objects.elim .inl fun z => .inr (.inl z)
theorem lo__law_whole__law_tasks : Loc (defScope s__law_whole) "_law_tasks" := by first | exact .inl rfl | exact .inr rfl
theorem vs__law_whole__law_tasks : Vis (defScope s__law_whole) "_law_tasks" := lo__law_whole__law_tasks.elim .inl fun z => .inr (.inl z)
theorem lo__law_whole__law_interrupts : Loc (defScope s__law_whole) "_law_interrupts" := by first | exact .inl rfl | exact .inr rfl
theorem vs__law_whole__law_interrupts : Vis (defScope s__law_whole) "_law_interrupts" := lo__law_whole__law_interrupts.elim .inl fun z => .inr (.inl z)
def T__law_whole (CS : Nat → Addr) : FT := fnT 4 (sRet (eTup (aC (eC (.str "system")) (aC (eC (.str "s")) (aC (eV 0) (aC (eV 1) (aC (eV 2) (aC (eV 3) (aN)))))))))
theorem ok__law_whole {f : Addr} {fd : FuncData} {CS : Nat → Addr} (F : Fun K "_law_whole" "_law_whole" s__law_whole f fd) (T : Txt w K mg CS) : FnOk P w K mg base (L2.CX P w) 1 f fd ["_law_ports", "_law_objects", "_law_tasks", "_law_interrupts"] (spX K 4 (T__law_whole CS)) :=
  okX F sc__law_whole rfl rfl (by decide) fun cdv A outer s H E hr =>
  cs_one (c1_ret (cm_tup (ca_cons (cm_str) (ca_cons (cm_str) (ca_cons (cm_v (i := 0) rfl vs__law_whole__law_ports nd__law_ports.1 nd__law_ports.2) (ca_cons (cm_v (i := 1) rfl vs__law_whole__law_objects nd__law_objects.1 nd__law_objects.2) (ca_cons (cm_v (i := 2) rfl vs__law_whole__law_tasks nd__law_tasks.1 nd__law_tasks.2) (ca_cons (cm_v (i := 3) rfl vs__law_whole__law_interrupts nd__law_interrupts.1 nd__law_interrupts.2) (ca_nil) rfl) rfl) rfl) rfl) rfl) rfl) (by decide)))
abbrev s__law_rows : Stmt := top 32
abbrev N__law_rows : List Str := ["_law_word", "_law_many", "_law_k"]
theorem sc__law_rows : FnScope N__law_rows ["_law_word", "_law_many"] (defScope s__law_rows) := ⟨rfl, rfl, rfl, by decide +kernel, rfl, by decide +kernel, by decide +kernel⟩
theorem lo__law_rows__law_word : Loc (defScope s__law_rows) "_law_word" := by first | exact .inl rfl | exact .inr rfl
theorem vs__law_rows__law_word : Vis (defScope s__law_rows) "_law_word" := lo__law_rows__law_word.elim .inl fun z => .inr (.inl z)
theorem lo__law_rows__law_many : Loc (defScope s__law_rows) "_law_many" := by first | exact .inl rfl | exact .inr rfl
theorem vs__law_rows__law_many : Vis (defScope s__law_rows) "_law_many" := lo__law_rows__law_many.elim .inl fun z => .inr (.inl z)
theorem g__law_rows_range : (defScope s__law_rows).names.lookup ("range" : Str) = some .globalImplicit := rfl
def T__law_rows (CS : Nat → Addr) : FT := fnT 3 (sRet (eLc false [2] (b1 2) (iR1 (eV 1)) (tYes) (eBin oAdd (eV 0) (eCB cStrI (aC (eV 2) (aN))))))
theorem ok__law_rows {f : Addr} {fd : FuncData} {CS : Nat → Addr} (F : Fun K "_law_rows" "_law_rows" s__law_rows f fd) (T : Txt w K mg CS) : FnOk P w K mg base (L2.CX P w) 1 f fd ["_law_word", "_law_many"] (spX K 2 (T__law_rows CS)) :=
  okX F sc__law_rows rfl rfl (by decide) fun cdv A outer s H E hr =>
  cs_one (c1_ret (cm_lc (own := [("_law_k", 2)]) rfl sc__law_rows.nd (blkOk_by (N := N__law_rows) (sc := defScope s__law_rows) (by decide +kernel)) (bind1 (by decide)) (fun _ _ _ _ _ => L2.pg_name sc__law_rows.nd (i := 2) rfl (.inl rfl) (.inr rfl)) (ci_range1 g__law_rows_range T.b_range (cm_v (i := 1) rfl vs__law_rows__law_many nd__law_many.1 nd__law_many.2) rfl) (fun _ _ _ _ _ => cts_nil) (fun _ _ _ _ _ => cm_bin cmo_add (cm_v (i := 0) rfl (by first | exact Or.inl rfl | exact Or.inr (Or.inl rfl) | exact Or.inr (Or.inr rfl)) nd__law_word.1 nd__law_word.2) (cm_callTy cmc_strI bt_str T.b_str rfl (ca_cons (cm_v (i := 2) rfl (by first | exact Or.inl rfl | exact Or.inr (Or.inl rfl) | exact Or.inr (Or.inr rfl)) nd__law_k.1 nd__law_k.2) (ca_nil) rfl) nn_str nd_str.1 rfl rfl)) (fun _ => rfl)))
abbrev s__law_task : Stmt := top 33
abbrev N__law_task : List Str := ["_law_body", "_law_cells"]
theorem sc__law_task : FnScope N__law_task ["_law_body", "_law_cells"] (defScope s__law_task) := ⟨rfl, rfl, rfl, by decide +kernel, rfl, by decide +kernel, by decide +kernel⟩
theorem lo__law_task__law_body : Loc (defScope s__law_task) "_law_body" := by first | exact .inl rfl | exact .inr rfl
theorem vs__law_task__law_body : Vis (defScope s__law_task) "_law_body" := lo__law_task__law_body.elim .inl fun z => .inr (.inl z)
theorem lo__law_task__law_cells : Loc (defScope s__law_task) "_law_cells" := by first | exact .inl rfl | exact .inr rfl
theorem vs__law_task__law_cells : Vis (defScope s__law_task) "_law_cells" := lo__law_task__law_cells.elim .inl fun z => .inr (.inl z)
def T__law_task (CS : Nat → Addr) : FT := fnT 2 (sRet (eTup (aC (eC (.str "task")) (aC (eC (.str "job")) (aC (eC (.int 90)) (aC (eC (.int 80)) (aC (eV 1) (aC (eV 0) (aN)))))))))
theorem ok__law_task {f : Addr} {fd : FuncData} {CS : Nat → Addr} (F : Fun K "_law_task" "_law_task" s__law_task f fd) (T : Txt w K mg CS) : FnOk P w K mg base (L2.CX P w) 1 f fd ["_law_body", "_law_cells"] (spX K 2 (T__law_task CS)) :=
  okX F sc__law_task rfl rfl (by decide) fun cdv A outer s H E hr =>
  cs_one (c1_ret (cm_tup (ca_cons (cm_str) (ca_cons (cm_str) (ca_cons (cm_int) (ca_cons (cm_int) (ca_cons (cm_v (i := 1) rfl vs__law_task__law_cells nd__law_cells.1 nd__law_cells.2) (ca_cons (cm_v (i := 0) rfl vs__law_task__law_body nd__law_body.1 nd__law_body.2) (ca_nil) rfl) rfl) rfl) rfl) rfl) rfl) (by decide)))
abbrev s__law_counts : Stmt := top 36
abbrev N__law_counts : List Str := ["_law_kind", "_law_n", "_law_plain", "_law_rows_here", "_law_name"]
theorem sc__law_counts : FnScope N__law_counts ["_law_kind", "_law_n"] (defScope s__law_counts) := ⟨rfl, rfl, rfl, by decide +kernel, rfl, by decide +kernel, by decide +kernel⟩
theorem lo__law_counts__law_kind : Loc (defScope s__law_counts) "_law_kind" := by first | exact .inl rfl | exact .inr rfl
theorem vs__law_counts__law_kind : Vis (defScope s__law_counts) "_law_kind" := lo__law_counts__law_kind.elim .inl fun z => .inr (.inl z)
theorem lo__law_counts__law_n : Loc (defScope s__law_counts) "_law_n" := by first | exact .inl rfl | exact .inr rfl
theorem vs__law_counts__law_n : Vis (defScope s__law_counts) "_law_n" := lo__law_counts__law_n.elim .inl fun z => .inr (.inl z)
theorem lo__law_counts__law_plain : Loc (defScope s__law_counts) "_law_plain" := by first | exact .inl rfl | exact .inr rfl
theorem vs__law_counts__law_plain : Vis (defScope s__law_counts) "_law_plain" := lo__law_counts__law_plain.elim .inl fun z => .inr (.inl z)
theorem lo__law_counts__law_rows_here : Loc (defScope s__law_counts) "_law_rows_here" := by first | exact .inl rfl | exact .inr rfl
theorem vs__law_counts__law_rows_here : Vis (defScope s__law_counts) "_law_rows_here" := lo__law_counts__law_rows_here.elim .inl fun z => .inr (.inl z)
theorem g__law_counts__law_operation : (defScope s__law_counts).names.lookup ("_law_operation" : Str) = some .globalImplicit := rfl
theorem g__law_counts__law_whole : (defScope s__law_counts).names.lookup ("_law_whole" : Str) = some .globalImplicit := rfl
theorem g__law_counts__law_rows : (defScope s__law_counts).names.lookup ("_law_rows" : Str) = some .globalImplicit := rfl
theorem g__law_counts__law_task : (defScope s__law_counts).names.lookup ("_law_task" : Str) = some .globalImplicit := rfl
def T__law_counts (CS : Nat → Addr) : FT := fnT 5 (sCo (sSet 2 (eCall (T__law_operation CS) (aC (eC (.str "f")) (aC (eLst (aN)) (aC (eLst (aN)) (aC (eLst (aN)) (aN))))))) (
  sCo (sIf (tCmp oEq (eV 0) (eC (.int 0))) (sRet (eCall (T__law_whole CS) (aC (eLst (aN)) (aC (eLst (aN)) (aC (eLc false [4] (b1 4) (iSeq (eCall (T__law_rows CS) (aC (eC (.str "t")) (aC (eV 1) (aN))))) (tYes) (eTup (aC (eC (.str "task")) (aC (eV 4) (aC (eC (.int 9)) (aC (eC (.int 9)) (aC (eLst (aN)) (aC (eLst (aN)) (aN))))))))) (aC (eLst (aN)) (aN))))))) (sNo)) (
  sCo (sIf (tCmp oEq (eV 0) (eC (.int 1))) (sRet (eCall (T__law_whole CS) (aC (eLst (aN)) (aC (eLc false [4] (b1 4) (iSeq (eCall (T__law_rows CS) (aC (eC (.str "o")) (aC (eV 1) (aN))))) (tYes) (eTup (aC (eC (.str "object")) (aC (eV 4) (aC (eLst (aN)) (aC (eLst (aN)) (aN))))))) (aC (eLst (aN)) (aC (eLst (aN)) (aN))))))) (sNo)) (
  sCo (sIf (tCmp oEq (eV 0) (eC (.int 2))) (sCo (sSet 3 (eLc false [4] (b1 4) (iSeq (eCall (T__law_rows CS) (aC (eC (.str "f")) (aC (eV 1) (aN))))) (tYes) (eCall (T__law_operation CS) (aC (eV 4) (aC (eLst (aN)) (aC (eLst (aN)) (aC (eLst (aN)) (aN)))))))) (
  sRet (eCall (T__law_whole CS) (aC (eLst (aN)) (aC (eLst (aC (eTup (aC (eC (.str "object")) (aC (eC (.str "o")) (aC (eLst (aN)) (aC (eV 3) (aN)))))) (aN))) (aC (eLst (aN)) (aC (eLst (aN)) (aN)))))))) (sNo)) (
  sCo (sIf (tCmp oEq (eV 0) (eC (.int 3))) (sCo (sSet 3 (eLc false [4] (b1 4) (iSeq (eCall (T__law_rows CS) (aC (eC (.str "i")) (aC (eV 1) (aN))))) (tYes) (eTup (aC (eC (.str "interrupt")) (aC (eV 4) (aC (eC (.int 9)) (aC (eC (.int 9)) (aC (eC (.str "o")) (aC (eC (.str "f")) (aC (eLst (aN)) (aN))))))))))) (
  sRet (eCall (T__law_whole CS) (aC (eLst (aN)) (aC (eLst (aC (eTup (aC (eC (.str "object")) (aC (eC (.str "o")) (aC (eLst (aN)) (aC (eLst (aC (eV 2) (aN))) (aN)))))) (aN))) (aC (eLst (aN)) (aC (eV 3) (aN)))))))) (sNo)) (
  sCo (sIf (tCmp oEq (eV 0) (eC (.int 4))) (sRet (eCall (T__law_whole CS) (aC (eBin oAdd (eLc false [4] (b1 4) (iSeq (eCall (T__law_rows CS) (aC (eC (.str "p")) (aC (eV 1) (aN))))) (tYes) (eTup (aC (eC (.str "in")) (aC (eV 4) (aN))))) (eLst (aC (eTup (aC (eC (.str "out")) (aC (eC (.str "q")) (aN)))) (aN)))) (aC (eLst (aN)) (aC (eLst (aN)) (aC (eLst (aN)) (aN))))))) (sNo)) (
  sCo (sIf (tCmp oEq (eV 0) (eC (.int 5))) (sRet (eCall (T__law_whole CS) (aC (eBin oAdd (eLst (aC (eTup (aC (eC (.str "in")) (aC (eC (.str "p")) (aN)))) (aN))) (eLc false [4] (b1 4) (iSeq (eCall (T__law_rows CS) (aC (eC (.str "q")) (aC (eV 1) (aN))))) (tYes) (eTup (aC (eC (.str "out")) (aC (eV 4) (aN)))))) (aC (eLst (aN)) (aC (eLst (aN)) (aC (eLst (aN)) (aN))))))) (sNo)) (
  sCo (sIf (tCmp oEq (eV 0) (eC (.int 6))) (sRet (eCall (T__law_whole CS) (aC (eLst (aN)) (aC (eLst (aC (eTup (aC (eC (.str "object")) (aC (eC (.str "o")) (aC (eLc false [4] (b1 4) (iSeq (eCall (T__law_rows CS) (aC (eC (.str "c")) (aC (eV 1) (aN))))) (tYes) (eTup (aC (eV 4) (aC (eC (.int 0)) (aN))))) (aC (eLst (aN)) (aN)))))) (aN))) (aC (eLst (aN)) (aC (eLst (aN)) (aN))))))) (sNo)) (
  sCo (sIf (tCmp oEq (eV 0) (eC (.int 7))) (sRet (eCall (T__law_whole CS) (aC (eLst (aN)) (aC (eLst (aN)) (aC (eLst (aC (eCall (T__law_task CS) (aC (eLst (aN)) (aC (eLc false [4] (b1 4) (iSeq (eCall (T__law_rows CS) (aC (eC (.str "c")) (aC (eV 1) (aN))))) (tYes) (eTup (aC (eV 4) (aC (eC (.int 2)) (aN))))) (aN)))) (aN))) (aC (eLst (aN)) (aN))))))) (sNo)) (
  sCo (sIf (tCmp oEq (eV 0) (eC (.int 8))) (sCo (sSet 3 (eLst (aC (eCall (T__law_operation CS) (aC (eC (.str "f")) (aC (eLst (aN)) (aC (eLc false [4] (b1 4) (iSeq (eCall (T__law_rows CS) (aC (eC (.str "c")) (aC (eV 1) (aN))))) (tYes) (eTup (aC (eV 4) (aC (eC (.int 0)) (aN))))) (aC (eLst (aN)) (aN)))))) (aN)))) (
  sRet (eCall (T__law_whole CS) (aC (eLst (aN)) (aC (eLst (aC (eTup (aC (eC (.str "object")) (aC (eC (.str "o")) (aC (eLst (aN)) (aC (eV 3) (aN)))))) (aN))) (aC (eLst (aN)) (aC (eLst (aN)) (aN)))))))) (sNo)) (
  sCo (sSet 3 (eLst (aC (eCall (T__law_operation CS) (aC (eC (.str "f")) (aC (eCall (T__law_rows CS) (aC (eC (.str "c")) (aC (eV 1) (aN)))) (aC (eLst (aN)) (aC (eLst (aN)) (aN)))))) (aN)))) (
  sRet (eCall (T__law_whole CS) (aC (eLst (aN)) (aC (eLst (aC (eTup (aC (eC (.str "object")) (aC (eC (.str "o")) (aC (eLst (aN)) (aC (eV 3) (aN)))))) (aN))) (aC (eLst (aN)) (aC (eLst (aN)) (aN))))))))))))))))))
theorem ok__law_counts {f : Addr} {fd : FuncData} {CS : Nat → Addr} (F : Fun K "_law_counts" "_law_counts" s__law_counts f fd) (T : Txt w K mg CS) (C__law_operation : CalX P w K mg base 1 "_law_operation" 4 (T__law_operation CS)) (C__law_whole : CalX P w K mg base 1 "_law_whole" 4 (T__law_whole CS)) (C__law_rows : CalX P w K mg base 1 "_law_rows" 2 (T__law_rows CS)) (C__law_task : CalX P w K mg base 1 "_law_task" 2 (T__law_task CS)) : FnOk P w K mg base (L2.CX P w) 2 f fd ["_law_kind", "_law_n"] (spX K 2 (T__law_counts CS)) :=
  okX F sc__law_counts rfl rfl (by decide) fun cdv A outer s H E hr =>
  cs_cons (c1_set sc__law_counts.nd rfl lo__law_counts__law_plain (cm_call C__law_operation (hr.mono (by decide)) g__law_counts__law_operation (ca_cons (cm_str) (ca_cons (cm_lst (ca_nil) (by decide)) (ca_cons (cm_lst (ca_nil) (by decide)) (ca_cons (cm_lst (ca_nil) (by decide)) (ca_nil) rfl) rfl) rfl) rfl) nd__law_operation.1 rfl rfl) rfl (.inl rfl))
  (cs_cons (c1_if (ct_cmp (cmo_eq hr) (cm_v (i := 0) rfl vs__law_counts__law_kind nd__law_kind.1 nd__law_kind.2) (cm_int) rfl) (cs_one (c1_ret (cm_call C__law_whole (hr.mono (by decide)) g__law_counts__law_whole (ca_cons (cm_lst (ca_nil) (by decide)) (ca_cons (cm_lst (ca_nil) (by decide)) (ca_cons (cm_lc (own := [("_law_name", 4)]) rfl sc__law_counts.nd (blkOk_by (N := N__law_counts) (sc := defScope s__law_counts) (by decide +kernel)) (bind1 (by decide)) (fun _ _ _ _ _ => L2.pg_name sc__law_counts.nd (i := 4) rfl (.inl rfl) (.inr rfl)) (ci_seq (cm_call C__law_rows (hr.mono (by decide)) g__law_counts__law_rows (ca_cons (cm_str) (ca_cons (cm_v (i := 1) rfl vs__law_counts__law_n nd__law_n.1 nd__law_n.2) (ca_nil) rfl) rfl) nd__law_rows.1 rfl rfl)) (fun _ _ _ _ _ => cts_nil) (fun _ _ _ _ _ => cm_tup (ca_cons (cm_str) (ca_cons (cm_v (i := 4) rfl (by first | exact Or.inl rfl | exact Or.inr (Or.inl rfl) | exact Or.inr (Or.inr rfl)) nd__law_name.1 nd__law_name.2) (ca_cons (cm_int) (ca_cons (cm_int) (ca_cons (cm_lst (ca_nil) (by decide)) (ca_cons (cm_lst (ca_nil) (by decide)) (ca_nil) rfl) rfl) rfl) rfl) rfl) rfl) (by decide)) (fun _ => rfl)) (ca_cons (cm_lst (ca_nil) (by decide)) (ca_nil) rfl) rfl) rfl) rfl) nd__law_whole.1 rfl rfl))) (cs_nil))
  (cs_cons (c1_if (ct_cmp (cmo_eq hr) (cm_v (i := 0) rfl vs__law_counts__law_kind nd__law_kind.1 nd__law_kind.2) (cm_int) rfl) (cs_one (c1_ret (cm_call C__law_whole (hr.mono (by decide)) g__law_counts__law_whole (ca_cons (cm_lst (ca_nil) (by decide)) (ca_cons (cm_lc (own := [("_law_name", 4)]) rfl sc__law_counts.nd (blkOk_by (N := N__law_counts) (sc := defScope s__law_counts) (by decide +kernel)) (bind1 (by decide)) (fun _ _ _ _ _ => L2.pg_name sc__law_counts.nd (i := 4) rfl (.inl rfl) (.inr rfl)) (ci_seq (cm_call C__law_rows (hr.mono (by decide)) g__law_counts__law_rows (ca_cons (cm_str) (ca_cons (cm_v (i := 1) rfl vs__law_counts__law_n nd__law_n.1 nd__law_n.2) (ca_nil) rfl) rfl) nd__law_rows.1 rfl rfl)) (fun _ _ _ _ _ => cts_nil) (fun _ _ _ _ _ => cm_tup (ca_cons (cm_str) (ca_cons (cm_v (i := 4) rfl (by first | exact Or.inl rfl | exact Or.inr (Or.inl rfl) | exact Or.inr (Or.inr rfl)) nd__law_name.1 nd__law_name.2) (ca_cons (cm_lst (ca_nil) (by decide)) (ca_cons (cm_lst (ca_nil) (by decide)) (ca_nil) rfl) rfl) rfl) rfl) (by decide)) (fun _ => rfl)) (ca_cons (cm_lst (ca_nil) (by decide)) (ca_cons (cm_lst (ca_nil) (by decide)) (ca_nil) rfl) rfl) rfl) rfl) nd__law_whole.1 rfl rfl))) (cs_nil))
  (cs_cons (c1_if (ct_cmp (cmo_eq hr) (cm_v (i := 0) rfl vs__law_counts__law_kind nd__law_kind.1 nd__law_kind.2) (cm_int) rfl) (cs_cons ((by first | exact c1_setLc (iy := 3) (own := [("_law_name", 4)]) rfl sc__law_counts.nd (blkOk_by (N := N__law_counts) (sc := defScope s__law_counts) (by decide +kernel)) (bind1 (by decide)) (fun _ _ _ _ _ => L2.pg_name sc__law_counts.nd (i := 4) rfl (.inl rfl) (.inr rfl)) (ci_seq (cm_call C__law_rows (hr.mono (by decide)) g__law_counts__law_rows (ca_cons (cm_str) (ca_cons (cm_v (i := 1) rfl vs__law_counts__law_n nd__law_n.1 nd__law_n.2) (ca_nil) rfl) rfl) nd__law_rows.1 rfl rfl)) (fun _ _ _ _ _ => cts_nil) (fun _ _ _ _ _ => cm_call C__law_operation (hr.mono (by decide)) rfl (ca_cons (cm_v (i := 4) rfl (by first | exact Or.inl rfl | exact Or.inr (Or.inl rfl) | exact Or.inr (Or.inr rfl)) nd__law_name.1 nd__law_name.2) (ca_cons (cm_lst (ca_nil) (by decide)) (ca_cons (cm_lst (ca_nil) (by decide)) (ca_cons (cm_lst (ca_nil) (by decide)) (ca_nil) rfl) rfl) rfl) rfl) nd__law_operation.1 rfl rfl) rfl rfl (sw_true rfl rfl rfl (by decide +kernel)) (fun _ => rfl) | exact c1_set (i := 3) sc__law_counts.nd rfl lo__law_counts__law_rows_here (cm_lc (own := [("_law_name", 4)]) rfl sc__law_counts.nd (blkOk_by (N := N__law_counts) (sc := defScope s__law_counts) (by decide +kernel)) (bind1 (by decide)) (fun _ _ _ _ _ => L2.pg_name sc__law_counts.nd (i := 4) rfl (.inl rfl) (.inr rfl)) (ci_seq (cm_call C__law_rows (hr.mono (by decide)) g__law_counts__law_rows (ca_cons (cm_str) (ca_cons (cm_v (i := 1) rfl vs__law_counts__law_n nd__law_n.1 nd__law_n.2) (ca_nil) rfl) rfl) nd__law_rows.1 rfl rfl)) (fun _ _ _ _ _ => cts_nil) (fun _ _ _ _ _ => cm_call C__law_operation (hr.mono (by decide)) rfl (ca_cons (cm_v (i := 4) rfl (by first | exact Or.inl rfl | exact Or.inr (Or.inl rfl) | exact Or.inr (Or.inr rfl)) nd__law_name.1 nd__law_name.2) (ca_cons (cm_lst (ca_nil) (by decide)) (ca_cons (cm_lst (ca_nil) (by decide)) (ca_cons (cm_lst (ca_nil) (by decide)) (ca_nil) rfl) rfl) rfl) rfl) nd__law_operation.1 rfl rfl) (fun _ => rfl)) rfl (.inl rfl)))
  (cs_one (c1_ret (cm_call C__law_whole (hr.mono (by decide)) g__law_counts__law_whole (ca_cons (cm_lst (ca_nil) (by decide)) (ca_cons (cm_lst (ca_cons (cm_tup (ca_cons (cm_str) (ca_cons (cm_str) (ca_cons (cm_lst (ca_nil) (by decide)) (ca_cons (cm_v (i := 3) rfl vs__law_counts__law_rows_here nd__law_rows_here.1 nd__law_rows_here.2) (ca_nil) rfl) rfl) rfl) rfl) (by decide)) (ca_nil) rfl) (by decide)) (ca_cons (cm_lst (ca_nil) (by decide)) (ca_cons (cm_lst (ca_nil) (by decide)) (ca_nil) rfl) rfl) rfl) rfl) nd__law_whole.1 rfl rfl)))) (cs_nil))
  (cs_cons (c1_if (ct_cmp (cmo_eq hr) (cm_v (i := 0) rfl vs__law_counts__law_kind nd__law_kind.1 nd__law_kind.2) (cm_int) rfl) (cs_cons ((by first | exact c1_setLc (iy := 3) (own := [("_law_name", 4)]) rfl sc__law_counts.nd (blkOk_by (N := N__law_counts) (sc := defScope s__law_counts) (by decide +kernel)) (bind1 (by decide)) (fun _ _ _ _ _ => L2.pg_name sc__law_counts.nd (i := 4) rfl (.inl rfl) (.inr rfl)) (ci_seq (cm_call C__law_rows (hr.mono (by decide)) g__law_counts__law_rows (ca_cons (cm_str) (ca_cons (cm_v (i := 1) rfl vs__law_counts__law_n nd__law_n.1 nd__law_n.2) (ca_nil) rfl) rfl) nd__law_rows.1 rfl rfl)) (fun _ _ _ _ _ => cts_nil) (fun _ _ _ _ _ => cm_tup (ca_cons (cm_str) (ca_cons (cm_v (i := 4) rfl (by first | exact Or.inl rfl | exact Or.inr (Or.inl rfl) | exact Or.inr (Or.inr rfl)) nd__law_name.1 nd__law_name.2) (ca_cons (cm_int) (ca_cons (cm_int) (ca_cons (cm_str) (ca_cons (cm_str) (ca_cons (cm_lst (ca_nil) (by decide)) (ca_nil) rfl) rfl) rfl) rfl) rfl) rfl) rfl) (by decide)) rfl rfl (sw_true rfl rfl rfl (by decide +kernel)) (fun _ => rfl) | exact c1_set (i := 3) sc__law_counts.nd rfl lo__law_counts__law_rows_here (cm_lc (own := [("_law_name", 4)]) rfl sc__law_counts.nd (blkOk_by (N := N__law_counts) (sc := defScope s__law_counts) (by decide +kernel)) (bind1 (by decide)) (fun _ _ _ _ _ => L2.pg_name sc__law_counts.nd (i := 4) rfl (.inl rfl) (.inr rfl)) (ci_seq (cm_call C__law_rows (hr.mono (by decide)) g__law_counts__law_rows (ca_cons (cm_str) (ca_cons (cm_v (i := 1) rfl vs__law_counts__law_n nd__law_n.1 nd__law_n.2) (ca_nil) rfl) rfl) nd__law_rows.1 rfl rfl)) (fun _ _ _ _ _ => cts_nil) (fun _ _ _ _ _ => cm_tup (ca_cons (cm_str) (ca_cons (cm_v (i := 4) rfl (by first | exact Or.inl rfl | exact Or.inr (Or.inl rfl) | exact Or.inr (Or.inr rfl)) nd__law_name.1 nd__law_name.2) (ca_cons (cm_int) (ca_cons (cm_int) (ca_cons (cm_str) (ca_cons (cm_str) (ca_cons (cm_lst (ca_nil) (by decide)) (ca_nil) rfl) rfl) rfl) rfl) rfl) rfl) rfl) (by decide)) (fun _ => rfl)) rfl (.inl rfl)))
  (cs_one (c1_ret (cm_call C__law_whole (hr.mono (by decide)) g__law_counts__law_whole (ca_cons (cm_lst (ca_nil) (by decide)) (ca_cons (cm_lst (ca_cons (cm_tup (ca_cons (cm_str) (ca_cons (cm_str) (ca_cons (cm_lst (ca_nil) (by decide)) (ca_cons (cm_lst (ca_cons (cm_v (i := 2) rfl vs__law_counts__law_plain nd__law_plain.1 nd__law_plain.2) (ca_nil) rfl) (by decide)) (ca_nil) rfl) rfl) rfl) rfl) (by decide)) (ca_nil) rfl) (by decide)) (ca_cons (cm_lst (ca_nil) (by decide)) (ca_cons (cm_v (i := 3) rfl vs__law_counts__law_rows_here nd__law_rows_here.1 nd__law_rows_here.2) (ca_nil) rfl) rfl) rfl) rfl) nd__law_whole.1 rfl rfl)))) (cs_nil))
  (cs_cons (c1_if (ct_cmp (cmo_eq hr) (cm_v (i := 0) rfl vs__law_counts__law_kind nd__law_kind.1 nd__law_kind.2) (cm_int) rfl) (cs_one (c1_ret (cm_call C__law_whole (hr.mono (by decide)) g__law_counts__law_whole (ca_cons (cm_bin cmo_add (cm_lc (own := [("_law_name", 4)]) rfl sc__law_counts.nd (blkOk_by (N := N__law_counts) (sc := defScope s__law_counts) (by decide +kernel)) (bind1 (by decide)) (fun _ _ _ _ _ => L2.pg_name sc__law_counts.nd (i := 4) rfl (.inl rfl) (.inr rfl)) (ci_seq (cm_call C__law_rows (hr.mono (by decide)) g__law_counts__law_rows (ca_cons (cm_str) (ca_cons (cm_v (i := 1) rfl vs__law_counts__law_n nd__law_n.1 nd__law_n.2) (ca_nil) rfl) rfl) nd__law_rows.1 rfl rfl)) (fun _ _ _ _ _ => cts_nil) (fun _ _ _ _ _ => cm_tup (ca_cons (cm_str) (ca_cons (cm_v (i := 4) rfl (by first | exact Or.inl rfl | exact Or.inr (Or.inl rfl) | exact Or.inr (Or.inr rfl)) nd__law_name.1 nd__law_name.2) (ca_nil) rfl) rfl) (by decide)) (fun _ => rfl)) (cm_lst (ca_cons (cm_tup (ca_cons (cm_str) (ca_cons (cm_str) (ca_nil) rfl) rfl) (by decide)) (ca_nil) rfl) (by decide))) (ca_cons (cm_lst (ca_nil) (by decide)) (ca_cons (cm_lst (ca_nil) (by decide)) (ca_cons (cm_lst (ca_nil) (by decide)) (ca_nil) rfl) rfl) rfl) rfl) nd__law_whole.1 rfl rfl))) (cs_nil))
  (cs_cons (c1_if (ct_cmp (cmo_eq hr) (cm_v (i := 0) rfl vs__law_counts__law_kind nd__law_kind.1 nd__law_kind.2) (cm_int) rfl) (cs_one (c1_ret (cm_call C__law_whole (hr.mono (by decide)) g__law_counts__law_whole (ca_cons (cm_bin cmo_add (cm_lst (ca_cons (cm_tup (ca_cons (cm_str) (ca_cons (cm_str) (ca_nil) rfl) rfl) (by decide)) (ca_nil) rfl) (by decide)) (cm_lc (own := [("_law_name", 4)]) rfl sc__law_counts.nd (blkOk_by (N := N__law_counts) (sc := defScope s__law_counts) (by decide +kernel)) (bind1 (by decide)) (fun _ _ _ _ _ => L2.pg_name sc__law_counts.nd (i := 4) rfl (.inl rfl) (.inr rfl)) (ci_seq (cm_call C__law_rows (hr.mono (by decide)) g__law_counts__law_rows (ca_cons (cm_str) (ca_cons (cm_v (i := 1) rfl vs__law_counts__law_n nd__law_n.1 nd__law_n.2) (ca_nil) rfl) rfl) nd__law_rows.1 rfl rfl)) (fun _ _ _ _ _ => cts_nil) (fun _ _ _ _ _ => cm_tup (ca_cons (cm_str) (ca_cons (cm_v (i := 4) rfl (by first | exact Or.inl rfl | exact Or.inr (Or.inl rfl) | exact Or.inr (Or.inr rfl)) nd__law_name.1 nd__law_name.2) (ca_nil) rfl) rfl) (by decide)) (fun _ => rfl))) (ca_cons (cm_lst (ca_nil) (by decide)) (ca_cons (cm_lst (ca_nil) (by decide)) (ca_cons (cm_lst (ca_nil) (by decide)) (ca_nil) rfl) rfl) rfl) rfl) nd__law_whole.1 rfl rfl))) (cs_nil))
  (cs_cons (c1_if (ct_cmp (cmo_eq hr) (cm_v (i := 0) rfl vs__law_counts__law_kind nd__law_kind.1 nd__law_kind.2) (cm_int) rfl) (cs_one (c1_ret (cm_call C__law_whole (hr.mono (by decide)) g__law_counts__law_whole (ca_cons (cm_lst (ca_nil) (by decide)) (ca_cons (cm_lst (ca_cons (cm_tup (ca_cons (cm_str) (ca_cons (cm_str) (ca_cons (cm_lc (own := [("_law_name", 4)]) rfl sc__law_counts.nd (blkOk_by (N := N__law_counts) (sc := defScope s__law_counts) (by decide +kernel)) (bind1 (by decide)) (fun _ _ _ _ _ => L2.pg_name sc__law_counts.nd (i := 4) rfl (.inl rfl) (.inr rfl)) (ci_seq (cm_call C__law_rows (hr.mono (by decide)) g__law_counts__law_rows (ca_cons (cm_str) (ca_cons (cm_v (i := 1) rfl vs__law_counts__law_n nd__law_n.1 nd__law_n.2) (ca_nil) rfl) rfl) nd__law_rows.1 rfl rfl)) (fun _ _ _ _ _ => cts_nil) (fun _ _ _ _ _ => cm_tup (ca_cons (cm_v (i := 4) rfl (by first | exact Or.inl rfl | exact Or.inr (Or.inl rfl) | exact Or.inr (Or.inr rfl)) nd__law_name.1 nd__law_name.2) (ca_cons (cm_int) (ca_nil) rfl) rfl) (by decide)) (fun _ => rfl)) (ca_cons (cm_lst (ca_nil) (by decide)) (ca_nil) rfl) rfl) rfl) rfl) (by decide)) (ca_nil) rfl) (by decide)) (ca_cons (cm_lst (ca_nil) (by decide)) (ca_cons (cm_lst (ca_nil) (by decide)) (ca_nil) rfl) rfl) rfl) rfl) nd__law_whole.1 rfl rfl))) (cs_nil))
  (cs_cons (c1_if (ct_cmp (cmo_eq hr) (cm_v (i := 0) rfl vs__law_counts__law_kind nd__law_kind.1 nd__law_kind.2) (cm_int) rfl) (cs_one (c1_ret (cm_call C__law_whole (hr.mono (by decide)) g__law_counts__law_whole (ca_cons (cm_lst (ca_nil) (by decide)) (ca_cons (cm_lst (ca_nil) (by decide)) (ca_cons (cm_lst (ca_cons (cm_call C__law_task (hr.mono (by decide)) g__law_counts__law_task (ca_cons (cm_lst (ca_nil) (by decide)) (ca_cons (cm_lc (own := [("_law_name", 4)]) rfl sc__law_counts.nd (blkOk_by (N := N__law_counts) (sc := defScope s__law_counts) (by decide +kernel)) (bind1 (by decide)) (fun _ _ _ _ _ => L2.pg_name sc__law_counts.nd (i := 4) rfl (.inl rfl) (.inr rfl)) (ci_seq (cm_call C__law_rows (hr.mono (by decide)) g__law_counts__law_rows (ca_cons (cm_str) (ca_cons (cm_v (i := 1) rfl vs__law_counts__law_n nd__law_n.1 nd__law_n.2) (ca_nil) rfl) rfl) nd__law_rows.1 rfl rfl)) (fun _ _ _ _ _ => cts_nil) (fun _ _ _ _ _ => cm_tup (ca_cons (cm_v (i := 4) rfl (by first | exact Or.inl rfl | exact Or.inr (Or.inl rfl) | exact Or.inr (Or.inr rfl)) nd__law_name.1 nd__law_name.2) (ca_cons (cm_int) (ca_nil) rfl) rfl) (by decide)) (fun _ => rfl)) (ca_nil) rfl) rfl) nd__law_task.1 rfl rfl) (ca_nil) rfl) (by decide)) (ca_cons (cm_lst (ca_nil) (by decide)) (ca_nil) rfl) rfl) rfl) rfl) nd__law_whole.1 rfl rfl))) (cs_nil))
  (cs_cons (c1_if (ct_cmp (cmo_eq hr) (cm_v (i := 0) rfl vs__law_counts__law_kind nd__law_kind.1 nd__law_kind.2) (cm_int) rfl) (cs_cons (c1_set sc__law_counts.nd rfl lo__law_counts__law_rows_here (cm_lst (ca_cons (cm_call C__law_operation (hr.mono (by decide)) g__law_counts__law_operation (ca_cons (cm_str) (ca_cons (cm_lst (ca_nil) (by decide)) (ca_cons (cm_lc (own := [("_law_name", 4)]) rfl sc__law_counts.nd (blkOk_by (N := N__law_counts) (sc := defScope s__law_counts) (by decide +kernel)) (bind1 (by decide)) (fun _ _ _ _ _ => L2.pg_name sc__law_counts.nd (i := 4) rfl (.inl rfl) (.inr rfl)) (ci_seq (cm_call C__law_rows (hr.mono (by decide)) g__law_counts__law_rows (ca_cons (cm_str) (ca_cons (cm_v (i := 1) rfl vs__law_counts__law_n nd__law_n.1 nd__law_n.2) (ca_nil) rfl) rfl) nd__law_rows.1 rfl rfl)) (fun _ _ _ _ _ => cts_nil) (fun _ _ _ _ _ => cm_tup (ca_cons (cm_v (i := 4) rfl (by first | exact Or.inl rfl | exact Or.inr (Or.inl rfl) | exact Or.inr (Or.inr rfl)) nd__law_name.1 nd__law_name.2) (ca_cons (cm_int) (ca_nil) rfl) rfl) (by decide)) (fun _ => rfl)) (ca_cons (cm_lst (ca_nil) (by decide)) (ca_nil) rfl) rfl) rfl) rfl) nd__law_operation.1 rfl rfl) (ca_nil) rfl) (by decide)) rfl (.inl rfl))
  (cs_one (c1_ret (cm_call C__law_whole (hr.mono (by decide)) g__law_counts__law_whole (ca_cons (cm_lst (ca_nil) (by decide)) (ca_cons (cm_lst (ca_cons (cm_tup (ca_cons (cm_str) (ca_cons (cm_str) (ca_cons (cm_lst (ca_nil) (by decide)) (ca_cons (cm_v (i := 3) rfl vs__law_counts__law_rows_here nd__law_rows_here.1 nd__law_rows_here.2) (ca_nil) rfl) rfl) rfl) rfl) (by decide)) (ca_nil) rfl) (by decide)) (ca_cons (cm_lst (ca_nil) (by decide)) (ca_cons (cm_lst (ca_nil) (by decide)) (ca_nil) rfl) rfl) rfl) rfl) nd__law_whole.1 rfl rfl)))) (cs_nil))
  (cs_cons (c1_set sc__law_counts.nd rfl lo__law_counts__law_rows_here (cm_lst (ca_cons (cm_call C__law_operation (hr.mono (by decide)) g__law_counts__law_operation (ca_cons (cm_str) (ca_cons (cm_call C__law_rows (hr.mono (by decide)) g__law_counts__law_rows (ca_cons (cm_str) (ca_cons (cm_v (i := 1) rfl vs__law_counts__law_n nd__law_n.1 nd__law_n.2) (ca_nil) rfl) rfl) nd__law_rows.1 rfl rfl) (ca_cons (cm_lst (ca_nil) (by decide)) (ca_cons (cm_lst (ca_nil) (by decide)) (ca_nil) rfl) rfl) rfl) rfl) nd__law_operation.1 rfl rfl) (ca_nil) rfl) (by decide)) rfl (.inl rfl))
  (cs_one (c1_ret (cm_call C__law_whole (hr.mono (by decide)) g__law_counts__law_whole (ca_cons (cm_lst (ca_nil) (by decide)) (ca_cons (cm_lst (ca_cons (cm_tup (ca_cons (cm_str) (ca_cons (cm_str) (ca_cons (cm_lst (ca_nil) (by decide)) (ca_cons (cm_v (i := 3) rfl vs__law_counts__law_rows_here nd__law_rows_here.1 nd__law_rows_here.2) (ca_nil) rfl) rfl) rfl) rfl) (by decide)) (ca_nil) rfl) (by decide)) (ca_cons (cm_lst (ca_nil) (by decide)) (ca_cons (cm_lst (ca_nil) (by decide)) (ca_nil) rfl) rfl) rfl) rfl) nd__law_whole.1 rfl rfl)))))))))))))
abbrev s__law_deep : Stmt := top 37
abbrev N__law_deep : List Str := ["_law_n", "_law_inner", "_law_body", "_law_k"]
theorem sc__law_deep : FnScope N__law_deep ["_law_n", "_law_inner"] (defScope s__law_deep) := ⟨rfl, rfl, rfl, by decide +kernel, rfl, by decide +kernel, by decide +kernel⟩
theorem lo__law_deep__law_n : Loc (defScope s__law_deep) "_law_n" := by first | exact .inl rfl | exact .inr rfl
theorem vs__law_deep__law_n : Vis (defScope s__law_deep) "_law_n" := lo__law_deep__law_n.elim .inl fun z => .inr (.inl z)
theorem lo__law_deep__law_inner : Loc (defScope s__law_deep) "_law_inner" := by first | exact .inl rfl | exact .inr rfl
theorem vs__law_deep__law_inner : Vis (defScope s__law_deep) "_law_inner" := lo__law_deep__law_inner.elim .inl fun z => .inr (.inl z)
theorem lo__law_deep__law_body : Loc (defScope s__law_deep) "_law_body" := by first | exact .inl rfl | exact .inr rfl
theorem vs__law_deep__law_body : Vis (defScope s__law_deep) "_law_body" := lo__law_deep__law_body.elim .inl fun z => .inr (.inl z)
theorem lo__law_deep__law_k : Loc (defScope s__law_deep) "_law_k" := by first | exact .inl rfl | exact .inr rfl
theorem vs__law_deep__law_k : Vis (defScope s__law_deep) "_law_k" := lo__law_deep__law_k.elim .inl fun z => .inr (.inl z)
theorem g__law_deep_range : (defScope s__law_deep).names.lookup ("range" : Str) = some .globalImplicit := rfl
def T__law_deep (CS : Nat → Addr) : FT := fnT 4 (sCo (sSet 2 (eV 1)) (
  sCo (sFor (gName 3) (iR1 (eBin oSub (eV 0) (eC (.int 1)))) (sSet 2 (eLst (aC (eTup (aC (eC (.str "if")) (aC (eTup (aC (eC (.str "num")) (aC (eC (.int 1)) (aN)))) (aC (eLst (aN)) (aC (eV 2) (aN)))))) (aN))))) (
  sRet (eV 2))))
theorem ok__law_deep {f : Addr} {fd : FuncData} {CS : Nat → Addr} (F : Fun K "_law_deep" "_law_deep" s__law_deep f fd) (T : Txt w K mg CS) : FnOk P w K mg base (L2.CX P w) 1 f fd ["_law_n", "_law_inner"] (spX K 2 (T__law_deep CS)) :=
  okX F sc__law_deep rfl rfl (by decide) fun cdv A outer s H E hr =>
  cs_cons (c1_set sc__law_deep.nd rfl lo__law_deep__law_body (cm_v (i := 1) rfl vs__law_deep__law_inner nd__law_inner.1 nd__law_inner.2) rfl (.inl rfl))
  (cs_cons (c1_for (cg_name sc__law_deep.nd rfl lo__law_deep__law_k (.inl rfl)) (ci_range1 g__law_deep_range T.b_range (cm_bin cmo_sub (cm_v (i := 0) rfl vs__law_deep__law_n nd__law_n.1 nd__law_n.2) (cm_int)) rfl) (cs_one (c1_set sc__law_deep.nd rfl lo__law_deep__law_body (cm_lst (ca_cons (cm_tup (ca_cons (cm_str) (ca_cons (cm_tup (ca_cons (cm_str) (ca_cons (cm_int) (ca_nil) rfl) rfl) (by decide)) (ca_cons (cm_lst (ca_nil) (by decide)) (ca_cons (cm_v (i := 2) rfl vs__law_deep__law_body nd__law_body.1 nd__law_body.2) (ca_nil) rfl) rfl) rfl) rfl) (by decide)) (ca_nil) rfl) (by decide)) rfl (.inl rfl))) rfl pass_cx (fun _ => rfl))
  (cs_one (c1_ret (cm_v (i := 2) rfl vs__law_deep__law_body nd__law_body.1 nd__law_body.2))))
abbrev s__law_loops : Stmt := top 38
abbrev N__law_loops : List Str := ["_law_n", "_law_body", "_law_k"]
theorem sc__law_loops : FnScope N__law_loops ["_law_n"] (defScope s__law_loops) := ⟨rfl, rfl, rfl, by decide +kernel, rfl, by decide +kernel, by decide +kernel⟩
theorem lo__law_loops__law_n : Loc (defScope s__law_loops) "_law_n" := by first | exact .inl rfl | exact .inr rfl
theorem vs__law_loops__law_n : Vis (defScope s__law_loops) "_law_n" := lo__law_loops__law_n.elim .inl fun z => .inr (.inl z)
theorem lo__law_loops__law_body : Loc (defScope s__law_loops) "_law_body" := by first | exact .inl rfl | exact .inr rfl
theorem vs__law_loops__law_body : Vis (defScope s__law_loops) "_law_body" := lo__law_loops__law_body.elim .inl fun z => .inr (.inl z)
theorem lo__law_loops__law_k : Loc (defScope s__law_loops) "_law_k" := by first | exact .inl rfl | exact .inr rfl
theorem vs__law_loops__law_k : Vis (defScope s__law_loops) "_law_k" := lo__law_loops__law_k.elim .inl fun z => .inr (.inl z)
theorem g__law_loops_range : (defScope s__law_loops).names.lookup ("range" : Str) = some .globalImplicit := rfl
theorem g__law_loops_str : (defScope s__law_loops).names.lookup ("str" : Str) = some .globalImplicit := rfl
def T__law_loops (CS : Nat → Addr) : FT := fnT 3 (sCo (sSet 1 (eLst (aN))) (
  sCo (sFor (gName 2) (iR1 (eV 0)) (sCo (sSet 1 (eLst (aC (eTup (aC (eC (.str "loop")) (aC (eBin oAdd (eC (.str "i")) (eCB cStrI (aC (eV 2) (aN)))) (aC (eC (.int 2)) (aC (eC .non) (aC (eV 1) (aN))))))) (aN)))) (
  sIf (tCmp oEq (eV 2) (eC (.int 1))) (sSet 1 (eLst (aC (eTup (aC (eC (.str "if")) (aC (eTup (aC (eC (.str "num")) (aC (eV 2) (aN)))) (aC (eV 1) (aC (eLst (aN)) (aN)))))) (aN)))) (sNo)))) (
  sRet (eV 1))))
theorem ok__law_loops {f : Addr} {fd : FuncData} {CS : Nat → Addr} (F : Fun K "_law_loops" "_law_loops" s__law_loops f fd) (T : Txt w K mg CS) : FnOk P w K mg base (L2.CX P w) 1 f fd ["_law_n"] (spX K 1 (T__law_loops CS)) :=
  okX F sc__law_loops rfl rfl (by decide) fun cdv A outer s H E hr =>
  cs_cons (c1_set sc__law_loops.nd rfl lo__law_loops__law_body (cm_lst (ca_nil) (by decide)) rfl (.inl rfl))
  (cs_cons (c1_for (cg_name sc__law_loops.nd rfl lo__law_loops__law_k (.inl rfl)) (ci_range1 g__law_loops_range T.b_range (cm_v (i := 0) rfl vs__law_loops__law_n nd__law_n.1 nd__law_n.2) rfl) (cs_cons (c1_set sc__law_loops.nd rfl lo__law_loops__law_body (cm_lst (ca_cons (cm_tup (ca_cons (cm_str) (ca_cons (cm_bin cmo_add (cm_str) (cm_callTy cmc_strI bt_str T.b_str g__law_loops_str (ca_cons (cm_v (i := 2) rfl vs__law_loops__law_k nd__law_k.1 nd__law_k.2) (ca_nil) rfl) nn_str nd_str.1 rfl rfl)) (ca_cons (cm_int) (ca_cons (cm_non) (ca_cons (cm_v (i := 1) rfl vs__law_loops__law_body nd__law_body.1 nd__law_body.2) (ca_nil) rfl) rfl) rfl) rfl) rfl) (by decide)) (ca_nil) rfl) (by decide)) rfl (.inl rfl))
  (cs_one (c1_if (ct_cmp (cmo_eq hr) (cm_v (i := 2) rfl vs__law_loops__law_k nd__law_k.1 nd__law_k.2) (cm_int) rfl) (cs_one (c1_set sc__law_loops.nd rfl lo__law_loops__law_body (cm_lst (ca_cons (cm_tup (ca_cons (cm_str) (ca_cons (cm_tup (ca_cons (cm_str) (ca_cons (cm_v (i := 2) rfl vs__law_loops__law_k nd__law_k.1 nd__law_k.2) (ca_nil) rfl) rfl) (by decide)) (ca_cons (cm_v (i := 1) rfl vs__law_loops__law_body nd__law_body.1 nd__law_body.2) (ca_cons (cm_lst (ca_nil) (by decide)) (ca_nil) rfl) rfl) rfl) rfl) (by decide)) (ca_nil) rfl) (by decide)) rfl (.inl rfl))) (cs_nil)))) rfl pass_cx (fun _ => rfl))
  (cs_one (c1_ret (cm_v (i := 1) rfl vs__law_loops__law_body nd__law_body.1 nd__law_body.2))))
abbrev s__law_wide : Stmt := top 40
abbrev N__law_wide : List Str := ["_law_n", "_law_rows_here", "_law_first", "_law_left", "_law_right", "_law_more", "_law_k"]
theorem sc__law_wide : FnScope N__law_wide ["_law_n"] (defScope s__law_wide) := ⟨rfl, rfl, rfl, by decide +kernel, rfl, by decide +kernel, by decide +kernel⟩
theorem lo__law_wide__law_n : Loc (defScope s__law_wide) "_law_n" := by first | exact .inl rfl | exact .inr rfl
theorem vs__law_wide__law_n : Vis (defScope s__law_wide) "_law_n" := lo__law_wide__law_n.elim .inl fun z => .inr (.inl z)
theorem lo__law_wide__law_rows_here : Loc (defScope s__law_wide) "_law_rows_here" := by first | exact .inl rfl | exact .inr rfl
theorem vs__law_wide__law_rows_here : Vis (defScope s__law_wide) "_law_rows_here" := lo__law_wide__law_rows_here.elim .inl fun z => .inr (.inl z)
theorem lo__law_wide__law_first : Loc (defScope s__law_wide) "_law_first" := by first | exact .inl rfl | exact .inr rfl
theorem vs__law_wide__law_first : Vis (defScope s__law_wide) "_law_first" := lo__law_wide__law_first.elim .inl fun z => .inr (.inl z)
theorem lo__law_wide__law_left : Loc (defScope s__law_wide) "_law_left" := by first | exact .inl rfl | exact .inr rfl
theorem vs__law_wide__law_left : Vis (defScope s__law_wide) "_law_left" := lo__law_wide__law_left.elim .inl fun z => .inr (.inl z)
theorem lo__law_wide__law_right : Loc (defScope s__law_wide) "_law_right" := by first | exact .inl rfl | exact .inr rfl
theorem vs__law_wide__law_right : Vis (defScope s__law_wide) "_law_right" := lo__law_wide__law_right.elim .inl fun z => .inr (.inl z)
theorem lo__law_wide__law_more : Loc (defScope s__law_wide) "_law_more" := by first | exact .inl rfl | exact .inr rfl
theorem vs__law_wide__law_more : Vis (defScope s__law_wide) "_law_more" := lo__law_wide__law_more.elim .inl fun z => .inr (.inl z)
theorem g__law_wide_range : (defScope s__law_wide).names.lookup ("range" : Str) = some .globalImplicit := rfl
def T__law_wide (CS : Nat → Addr) : FT := fnT 7 (sCo (sSet 1 (eLc false [6] (b1 6) (iR1 (eC (.int 8))) (tYes) (eTup (aC (eC (.str "num")) (aC (eV 6) (aN)))))) (
  sCo (sSet 2 (eIx oIx (eV 1) (eC (.int 0)))) (
  sCo (sSet 3 (eTup (aC (eC (.str "+")) (aC (eTup (aC (eC (.str "+")) (aC (eTup (aC (eC (.str "+")) (aC (eIx oIx (eV 1) (eC (.int 0))) (aC (eIx oIx (eV 1) (eC (.int 1))) (aN))))) (aC (eTup (aC (eC (.str "+")) (aC (eIx oIx (eV 1) (eC (.int 2))) (aC (eIx oIx (eV 1) (eC (.int 3))) (aN))))) (aN))))) (aC (eTup (aC (eC (.str "+")) (aC (eTup (aC (eC (.str "+")) (aC (eIx oIx (eV 1) (eC (.int 4))) (aC (eIx oIx (eV 1) (eC (.int 5))) (aN))))) (aC (eIx oIx (eV 1) (eC (.int 6))) (aN))))) (aN)))))) (
  sCo (sSet 4 (eTup (aC (eC (.str "+")) (aC (eV 3) (aC (eV 3) (aN)))))) (
  sCo (sSet 5 (eTup (aC (eC (.str "+")) (aC (eTup (aC (eC (.str "+")) (aC (eV 2) (aC (eV 2) (aN))))) (aC (eTup (aC (eC (.str "+")) (aC (eTup (aC (eC (.str "+")) (aC (eV 2) (aC (eV 2) (aN))))) (aC (eTup (aC (eC (.str "+")) (aC (eV 2) (aC (eV 2) (aN))))) (aN))))) (aN)))))) (
  sCo (sIf (tCmp oGt (eV 0) (eC (.int 40))) (sSet 5 (eTup (aC (eC (.str "+")) (aC (eTup (aC (eC (.str "+")) (aC (eTup (aC (eC (.str "neg")) (aC (eV 2) (aN)))) (aC (eV 2) (aN))))) (aC (eTup (aC (eC (.str "+")) (aC (eTup (aC (eC (.str "+")) (aC (eV 2) (aC (eV 2) (aN))))) (aC (eTup (aC (eC (.str "+")) (aC (eV 2) (aC (eV 2) (aN))))) (aN))))) (aN)))))) (sNo)) (
  sRet (eTup (aC (eC (.str "+")) (aC (eV 4) (aC (eTup (aC (eC (.str "neg")) (aC (eV 5) (aN)))) (aN))))))))))))
theorem ok__law_wide {f : Addr} {fd : FuncData} {CS : Nat → Addr} (F : Fun K "_law_wide" "_law_wide" s__law_wide f fd) (T : Txt w K mg CS) : FnOk P w K mg base (L2.CX P w) 1 f fd ["_law_n"] (spX K 1 (T__law_wide CS)) :=
  okX F sc__law_wide rfl rfl (by decide) fun cdv A outer s H E hr =>
  cs_cons ((by first | exact c1_setLc (iy := 1) (own := [("_law_k", 6)]) rfl sc__law_wide.nd (blkOk_by (N := N__law_wide) (sc := defScope s__law_wide) (by decide +kernel)) (bind1 (by decide)) (fun _ _ _ _ _ => L2.pg_name sc__law_wide.nd (i := 6) rfl (.inl rfl) (.inr rfl)) (ci_range1 g__law_wide_range T.b_range (cm_int) rfl) (fun _ _ _ _ _ => cts_nil) (fun _ _ _ _ _ => cm_tup (ca_cons (cm_str) (ca_cons (cm_v (i := 6) rfl (by first | exact Or.inl rfl | exact Or.inr (Or.inl rfl) | exact Or.inr (Or.inr rfl)) nd__law_k.1 nd__law_k.2) (ca_nil) rfl) rfl) (by decide)) rfl rfl (sw_true rfl rfl rfl (by decide +kernel)) (fun _ => rfl) | exact c1_set (i := 1) sc__law_wide.nd rfl lo__law_wide__law_rows_here (cm_lc (own := [("_law_k", 6)]) rfl sc__law_wide.nd (blkOk_by (N := N__law_wide) (sc := defScope s__law_wide) (by decide +kernel)) (bind1 (by decide)) (fun _ _ _ _ _ => L2.pg_name sc__law_wide.nd (i := 6) rfl (.inl rfl) (.inr rfl)) (ci_range1 g__law_wide_range T.b_range (cm_int) rfl) (fun _ _ _ _ _ => cts_nil) (fun _ _ _ _ _ => cm_tup (ca_cons (cm_str) (ca_cons (cm_v (i := 6) rfl (by first | exact Or.inl rfl | exact Or.inr (Or.inl rfl) | exact Or.inr (Or.inr rfl)) nd__law_k.1 nd__law_k.2) (ca_nil) rfl) rfl) (by decide)) (fun _ => rfl)) rfl (.inl rfl)))
  (cs_cons (c1_set sc__law_wide.nd rfl lo__law_wide__law_first (cm_ix cmi_ix (cm_v (i := 1) rfl vs__law_wide__law_rows_here nd__law_rows_here.1 nd__law_rows_here.2) (cm_int) (fun _ _ => rfl)) rfl (.inl rfl))
  (cs_cons (c1_set sc__law_wide.nd rfl lo__law_wide__law_left (cm_tup (ca_cons (cm_str) (ca_cons (cm_tup (ca_cons (cm_str) (ca_cons (cm_tup (ca_cons (cm_str) (ca_cons (cm_ix cmi_ix (cm_v (i := 1) rfl vs__law_wide__law_rows_here nd__law_rows_here.1 nd__law_rows_here.2) (cm_int) (fun _ _ => rfl)) (ca_cons (cm_ix cmi_ix (cm_v (i := 1) rfl vs__law_wide__law_rows_here nd__law_rows_here.1 nd__law_rows_here.2) (cm_int) (fun _ _ => rfl)) (ca_nil) rfl) rfl) rfl) (by decide)) (ca_cons (cm_tup (ca_cons (cm_str) (ca_cons (cm_ix cmi_ix (cm_v (i := 1) rfl vs__law_wide__law_rows_here nd__law_rows_here.1 nd__law_rows_here.2) (cm_int) (fun _ _ => rfl)) (ca_cons (cm_ix cmi_ix (cm_v (i := 1) rfl vs__law_wide__law_rows_here nd__law_rows_here.1 nd__law_rows_here.2) (cm_int) (fun _ _ => rfl)) (ca_nil) rfl) rfl) rfl) (by decide)) (ca_nil) rfl) rfl) rfl) (by decide)) (ca_cons (cm_tup (ca_cons (cm_str) (ca_cons (cm_tup (ca_cons (cm_str) (ca_cons (cm_ix cmi_ix (cm_v (i := 1) rfl vs__law_wide__law_rows_here nd__law_rows_here.1 nd__law_rows_here.2) (cm_int) (fun _ _ => rfl)) (ca_cons (cm_ix cmi_ix (cm_v (i := 1) rfl vs__law_wide__law_rows_here nd__law_rows_here.1 nd__law_rows_here.2) (cm_int) (fun _ _ => rfl)) (ca_nil) rfl) rfl) rfl) (by decide)) (ca_cons (cm_ix cmi_ix (cm_v (i := 1) rfl vs__law_wide__law_rows_here nd__law_rows_here.1 nd__law_rows_here.2) (cm_int) (fun _ _ => rfl)) (ca_nil) rfl) rfl) rfl) (by decide)) (ca_nil) rfl) rfl) rfl) (by decide)) rfl (.inl rfl))
  (cs_cons (c1_set sc__law_wide.nd rfl lo__law_wide__law_right (cm_tup (ca_cons (cm_str) (ca_cons (cm_v (i := 3) rfl vs__law_wide__law_left nd__law_left.1 nd__law_left.2) (ca_cons (cm_v (i := 3) rfl vs__law_wide__law_left nd__law_left.1 nd__law_left.2) (ca_nil) rfl) rfl) rfl) (by decide)) rfl (.inl rfl))
  (cs_cons (c1_set sc__law_wide.nd rfl lo__law_wide__law_more (cm_tup (ca_cons (cm_str) (ca_cons (cm_tup (ca_cons (cm_str) (ca_cons (cm_v (i := 2) rfl vs__law_wide__law_first nd__law_first.1 nd__law_first.2) (ca_cons (cm_v (i := 2) rfl vs__law_wide__law_first nd__law_first.1 nd__law_first.2) (ca_nil) rfl) rfl) rfl) (by decide)) (ca_cons (cm_tup (ca_cons (cm_str) (ca_cons (cm_tup (ca_cons (cm_str) (ca_cons (cm_v (i := 2) rfl vs__law_wide__law_first nd__law_first.1 nd__law_first.2) (ca_cons (cm_v (i := 2) rfl vs__law_wide__law_first nd__law_first.1 nd__law_first.2) (ca_nil) rfl) rfl) rfl) (by decide)) (ca_cons (cm_tup (ca_cons (cm_str) (ca_cons (cm_v (i := 2) rfl vs__law_wide__law_first nd__law_first.1 nd__law_first.2) (ca_cons (cm_v (i := 2) rfl vs__law_wide__law_first nd__law_first.1 nd__law_first.2) (ca_nil) rfl) rfl) rfl) (by decide)) (ca_nil) rfl) rfl) rfl) (by decide)) (ca_nil) rfl) rfl) rfl) (by decide)) rfl (.inl rfl))
  (cs_cons (c1_if (ct_cmp cmo_gt (cm_v (i := 0) rfl vs__law_wide__law_n nd__law_n.1 nd__law_n.2) (cm_int) rfl) (cs_one (c1_set sc__law_wide.nd rfl lo__law_wide__law_more (cm_tup (ca_cons (cm_str) (ca_cons (cm_tup (ca_cons (cm_str) (ca_cons (cm_tup (ca_cons (cm_str) (ca_cons (cm_v (i := 2) rfl vs__law_wide__law_first nd__law_first.1 nd__law_first.2) (ca_nil) rfl) rfl) (by decide)) (ca_cons (cm_v (i := 2) rfl vs__law_wide__law_first nd__law_first.1 nd__law_first.2) (ca_nil) rfl) rfl) rfl) (by decide)) (ca_cons (cm_tup (ca_cons (cm_str) (ca_cons (cm_tup (ca_cons (cm_str) (ca_cons (cm_v (i := 2) rfl vs__law_wide__law_first nd__law_first.1 nd__law_first.2) (ca_cons (cm_v (i := 2) rfl vs__law_wide__law_first nd__law_first.1 nd__law_first.2) (ca_nil) rfl) rfl) rfl) (by decide)) (ca_cons (cm_tup (ca_cons (cm_str) (ca_cons (cm_v (i := 2) rfl vs__law_wide__law_first nd__law_first.1 nd__law_first.2) (ca_cons (cm_v (i := 2) rfl vs__law_wide__law_first nd__law_first.1 nd__law_first.2) (ca_nil) rfl) rfl) rfl) (by decide)) (ca_nil) rfl) rfl) rfl) (by decide)) (ca_nil) rfl) rfl) rfl) (by decide)) rfl (.inl rfl))) (cs_nil))
  (cs_one (c1_ret (cm_tup (ca_cons (cm_str) (ca_cons (cm_v (i := 4) rfl vs__law_wide__law_right nd__law_right.1 nd__law_right.2) (ca_cons (cm_tup (ca_cons (cm_str) (ca_cons (cm_v (i := 5) rfl vs__law_wide__law_more nd__law_more.1 nd__law_more.2) (ca_nil) rfl) rfl) (by decide)) (ca_nil) rfl) rfl) rfl) (by decide)))))))))
abbrev s__law_unary : Stmt := top 39
abbrev N__law_unary : List Str := ["_law_n", "_law_e", "_law_k"]
theorem sc__law_unary : FnScope N__law_unary ["_law_n"] (defScope s__law_unary) := ⟨rfl, rfl, rfl, by decide +kernel, rfl, by decide +kernel, by decide +kernel⟩
theorem lo__law_unary__law_n : Loc (defScope s__law_unary) "_law_n" := by first | exact .inl rfl | exact .inr rfl
theorem vs__law_unary__law_n : Vis (defScope s__law_unary) "_law_n" := lo__law_unary__law_n.elim .inl fun z => .inr (.inl z)
theorem lo__law_unary__law_e : Loc (defScope s__law_unary) "_law_e" := by first | exact .inl rfl | exact .inr rfl
theorem vs__law_unary__law_e : Vis (defScope s__law_unary) "_law_e" := lo__law_unary__law_e.elim .inl fun z => .inr (.inl z)
theorem lo__law_unary__law_k : Loc (defScope s__law_unary) "_law_k" := by first | exact .inl rfl | exact .inr rfl
theorem vs__law_unary__law_k : Vis (defScope s__law_unary) "_law_k" := lo__law_unary__law_k.elim .inl fun z => .inr (.inl z)
theorem g__law_unary_range : (defScope s__law_unary).names.lookup ("range" : Str) = some .globalImplicit := rfl
def T__law_unary (CS : Nat → Addr) : FT := fnT 3 (sCo (sSet 1 (eTup (aC (eC (.str "cell")) (aC (eC (.str "x")) (aN))))) (
  sCo (sFor (gName 2) (iR1 (eBin oSub (eV 0) (eC (.int 1)))) (sSet 1 (eTup (aC (eC (.str "not")) (aC (eV 1) (aN)))))) (
  sRet (eV 1))))
theorem ok__law_unary {f : Addr} {fd : FuncData} {CS : Nat → Addr} (F : Fun K "_law_unary" "_law_unary" s__law_unary f fd) (T : Txt w K mg CS) : FnOk P w K mg base (L2.CX P w) 1 f fd ["_law_n"] (spX K 1 (T__law_unary CS)) :=
  okX F sc__law_unary rfl rfl (by decide) fun cdv A outer s H E hr =>
  cs_cons (c1_set sc__law_unary.nd rfl lo__law_unary__law_e (cm_tup (ca_cons (cm_str) (ca_cons (cm_str) (ca_nil) rfl) rfl) (by decide)) rfl (.inl rfl))
  (cs_cons (c1_for (cg_name sc__law_unary.nd rfl lo__law_unary__law_k (.inl rfl)) (ci_range1 g__law_unary_range T.b_range (cm_bin cmo_sub (cm_v (i := 0) rfl vs__law_unary__law_n nd__law_n.1 nd__law_n.2) (cm_int)) rfl) (cs_one (c1_set sc__law_unary.nd rfl lo__law_unary__law_e (cm_tup (ca_cons (cm_str) (ca_cons (cm_v (i := 1) rfl vs__law_unary__law_e nd__law_e.1 nd__law_e.2) (ca_nil) rfl) rfl) (by decide)) rfl (.inl rfl))) rfl pass_cx (fun _ => rfl))
  (cs_one (c1_ret (cm_v (i := 1) rfl vs__law_unary__law_e nd__law_e.1 nd__law_e.2))))
abbrev s__law_bodies : Stmt := top 41
abbrev N__law_bodies : List Str := ["_law_kind", "_law_n", "_law_cells", "_law_rest", "_law_body", "_law_rows_here", "_law_k"]
theorem sc__law_bodies : FnScope N__law_bodies ["_law_kind", "_law_n"] (defScope s__law_bodies) := ⟨rfl, rfl, rfl, by decide +kernel, rfl, by decide +kernel, by decide +kernel⟩
theorem lo__law_bodies__law_kind : Loc (defScope s__law_bodies) "_law_kind" := by first | exact .inl rfl | exact .inr rfl
theorem vs__law_bodies__law_kind : Vis (defScope s__law_bodies) "_law_kind" := lo__law_bodies__law_kind.elim .inl fun z => .inr (.inl z)
theorem lo__law_bodies__law_n : Loc (defScope s__law_bodies) "_law_n" := by first | exact .inl rfl | exact .inr rfl
theorem vs__law_bodies__law_n : Vis (defScope s__law_bodies) "_law_n" := lo__law_bodies__law_n.elim .inl fun z => .inr (.inl z)
theorem lo__law_bodies__law_cells : Loc (defScope s__law_bodies) "_law_cells" := by first | exact .inl rfl | exact .inr rfl
theorem vs__law_bodies__law_cells : Vis (defScope s__law_bodies) "_law_cells" := lo__law_bodies__law_cells.elim .inl fun z => .inr (.inl z)
theorem lo__law_bodies__law_rest : Loc (defScope s__law_bodies) "_law_rest" := by first | exact .inl rfl | exact .inr rfl
theorem vs__law_bodies__law_rest : Vis (defScope s__law_bodies) "_law_rest" := lo__law_bodies__law_rest.elim .inl fun z => .inr (.inl z)
theorem lo__law_bodies__law_body : Loc (defScope s__law_bodies) "_law_body" := by first | exact .inl rfl | exact .inr rfl
theorem vs__law_bodies__law_body : Vis (defScope s__law_bodies) "_law_body" := lo__law_bodies__law_body.elim .inl fun z => .inr (.inl z)
theorem lo__law_bodies__law_rows_here : Loc (defScope s__law_bodies) "_law_rows_here" := by first | exact .inl rfl | exact .inr rfl
theorem vs__law_bodies__law_rows_here : Vis (defScope s__law_bodies) "_law_rows_here" := lo__law_bodies__law_rows_here.elim .inl fun z => .inr (.inl z)
theorem g__law_bodies_range : (defScope s__law_bodies).names.lookup ("range" : Str) = some .globalImplicit := rfl
theorem g__law_bodies__law_whole : (defScope s__law_bodies).names.lookup ("_law_whole" : Str) = some .globalImplicit := rfl
theorem g__law_bodies__law_task : (defScope s__law_bodies).names.lookup ("_law_task" : Str) = some .globalImplicit := rfl
theorem g__law_bodies__law_deep : (defScope s__law_bodies).names.lookup ("_law_deep" : Str) = some .globalImplicit := rfl
theorem g__law_bodies__law_loops : (defScope s__law_bodies).names.lookup ("_law_loops" : Str) = some .globalImplicit := rfl
theorem g__law_bodies__law_unary : (defScope s__law_bodies).names.lookup ("_law_unary" : Str) = some .globalImplicit := rfl
theorem g__law_bodies__law_operation : (defScope s__law_bodies).names.lookup ("_law_operation" : Str) = some .globalImplicit := rfl
theorem g__law_bodies__law_wide : (defScope s__law_bodies).names.lookup ("_law_wide" : Str) = some .globalImplicit := rfl
def T__law_bodies (CS : Nat → Addr) : FT := fnT 7 (sCo (sSet 2 (eLst (aC (eTup (aC (eC (.str "x")) (aC (eC (.int 0)) (aN)))) (aC (eTup (aC (eC (.str "y")) (aC (eC (.int 3)) (aN)))) (aN))))) (
  sCo (sIf (tCmp oEq (eV 0) (eC (.int 0))) (sCo (sSet 3 (eLc false [6] (b1 6) (iR1 (eBin oSub (eV 1) (eC (.int 3)))) (tYes) (eTup (aC (eC (.str "set")) (aC (eTup (aC (eC (.str "cell")) (aC (eC (.str "x")) (aN)))) (aC (eTup (aC (eC (.str "num")) (aC (eC (.int 1)) (aN)))) (aN))))))) (
  sCo (sSet 4 (eLst (aC (eTup (aC (eC (.str "if")) (aC (eTup (aC (eC (.str "num")) (aC (eC (.int 1)) (aN)))) (aC (eSl (eV 3) (pN) (pS (eC (.int 60)))) (aC (eLst (aN)) (aN)))))) (aC (eTup (aC (eC (.str "loop")) (aC (eC (.str "i")) (aC (eC (.int 2)) (aC (eC .non) (aC (eSl (eV 3) (pS (eC (.int 60))) (pS (eC (.int 90)))) (aN))))))) (aC (eTup (aC (eC (.str "write")) (aC (eC (.str "q")) (aC (eTup (aC (eC (.str "num")) (aC (eC (.int 1)) (aN)))) (aN))))) (aN)))))) (
  sRet (eCall (T__law_whole CS) (aC (eLst (aC (eTup (aC (eC (.str "out")) (aC (eC (.str "q")) (aN)))) (aN))) (aC (eLst (aN)) (aC (eLst (aC (eCall (T__law_task CS) (aC (eBin oAdd (eV 4) (eSl (eV 3) (pS (eC (.int 90))) (pN))) (aC (eV 2) (aN)))) (aN))) (aC (eLst (aN)) (aN))))))))) (sNo)) (
  sCo (sIf (tCmp oEq (eV 0) (eC (.int 1))) (sRet (eCall (T__law_whole CS) (aC (eLst (aN)) (aC (eLst (aN)) (aC (eLst (aC (eCall (T__law_task CS) (aC (eCall (T__law_deep CS) (aC (eV 1) (aC (eLst (aN)) (aN)))) (aC (eV 2) (aN)))) (aN))) (aC (eLst (aN)) (aN))))))) (sNo)) (
  sCo (sIf (tCmp oEq (eV 0) (eC (.int 2))) (sRet (eCall (T__law_whole CS) (aC (eLst (aN)) (aC (eLst (aN)) (aC (eLst (aC (eCall (T__law_task CS) (aC (eCall (T__law_loops CS) (aC (eV 1) (aN))) (aC (eV 2) (aN)))) (aN))) (aC (eLst (aN)) (aN))))))) (sNo)) (
  sCo (sIf (tCmp oEq (eV 0) (eC (.int 3))) (sRet (eCall (T__law_whole CS) (aC (eLst (aN)) (aC (eLst (aN)) (aC (eLst (aC (eCall (T__law_task CS) (aC (eLst (aC (eTup (aC (eC (.str "set")) (aC (eTup (aC (eC (.str "at")) (aC (eC (.str "y")) (aC (eCall (T__law_unary CS) (aC (eV 1) (aN))) (aN))))) (aC (eTup (aC (eC (.str "num")) (aC (eC (.int 1)) (aN)))) (aN))))) (aN))) (aC (eV 2) (aN)))) (aN))) (aC (eLst (aN)) (aN))))))) (sNo)) (
  sCo (sIf (tCmp oEq (eV 0) (eC (.int 4))) (sCo (sSet 5 (eLst (aC (eTup (aC (eC (.str "object")) (aC (eC (.str "o")) (aC (eLst (aN)) (aC (eLst (aC (eCall (T__law_operation CS) (aC (eC (.str "f")) (aC (eLst (aC (eC (.str "a")) (aN))) (aC (eLst (aN)) (aC (eLst (aN)) (aN)))))) (aN))) (aN)))))) (aN)))) (
  sRet (eCall (T__law_whole CS) (aC (eLst (aN)) (aC (eV 5) (aC (eLst (aC (eCall (T__law_task CS) (aC (eLst (aC (eTup (aC (eC (.str "call")) (aC (eC .non) (aC (eC (.str "o")) (aC (eC (.str "f")) (aC (eLst (aC (eCall (T__law_unary CS) (aC (eV 1) (aN))) (aN))) (aN))))))) (aN))) (aC (eV 2) (aN)))) (aN))) (aC (eLst (aN)) (aN)))))))) (sNo)) (
  sCo (sIf (tCmp oEq (eV 0) (eC (.int 5))) (sRet (eCall (T__law_whole CS) (aC (eLst (aN)) (aC (eLst (aN)) (aC (eLst (aC (eCall (T__law_task CS) (aC (eLst (aN)) (aC (eLst (aC (eTup (aC (eC (.str "x")) (aC (eV 1) (aN)))) (aN))) (aN)))) (aN))) (aC (eLst (aN)) (aN))))))) (sNo)) (
  sCo (sIf (tCmp oEq (eV 0) (eC (.int 6))) (sRet (eCall (T__law_whole CS) (aC (eLst (aN)) (aC (eLst (aN)) (aC (eLst (aC (eCall (T__law_task CS) (aC (eLst (aC (eTup (aC (eC (.str "loop")) (aC (eC (.str "i")) (aC (eV 1) (aC (eC .non) (aC (eLst (aN)) (aN))))))) (aN))) (aC (eV 2) (aN)))) (aN))) (aC (eLst (aN)) (aN))))))) (sNo)) (
  sCo (sIf (tCmp oEq (eV 0) (eC (.int 7))) (sRet (eCall (T__law_whole CS) (aC (eLst (aN)) (aC (eLst (aN)) (aC (eLst (aC (eTup (aC (eC (.str "task")) (aC (eC (.str "t")) (aC (eV 1) (aC (eBin oSub (eC (.int 4194304)) (eC (.int 7))) (aC (eLst (aN)) (aC (eLst (aN)) (aN)))))))) (aN))) (aC (eLst (aN)) (aN))))))) (sNo)) (
  sCo (sIf (tCmp oEq (eV 0) (eC (.int 8))) (sRet (eCall (T__law_whole CS) (aC (eLst (aN)) (aC (eLst (aN)) (aC (eLst (aC (eTup (aC (eC (.str "task")) (aC (eC (.str "t")) (aC (eC (.int 50)) (aC (eV 1) (aC (eLst (aN)) (aC (eLst (aN)) (aN)))))))) (aN))) (aC (eLst (aN)) (aN))))))) (sNo)) (
  sCo (sIf (tCmp oEq (eV 0) (eC (.int 9))) (sRet (eCall (T__law_whole CS) (aC (eLst (aN)) (aC (eLst (aN)) (aC (eLst (aC (eCall (T__law_task CS) (aC (eLst (aC (eTup (aC (eC (.str "set")) (aC (eTup (aC (eC (.str "cell")) (aC (eC (.str "x")) (aN)))) (aC (eCall (T__law_wide CS) (aC (eV 1) (aN))) (aN))))) (aN))) (aC (eV 2) (aN)))) (aN))) (aC (eLst (aN)) (aN))))))) (sNo)) (
  sRet (eCall (T__law_whole CS) (aC (eLst (aN)) (aC (eLst (aN)) (aC (eLst (aC (eTup (aC (eC (.str "task")) (aC (eBin oAdd (eBin oAdd (eC (.str "T")) (eBin oMulS (eC (.str "_")) (eBin oSub (eV 1) (eC (.int 2))))) (eC (.str "9"))) (aC (eC (.int 9)) (aC (eC (.int 9)) (aC (eLst (aN)) (aC (eLst (aN)) (aN)))))))) (aN))) (aC (eLst (aN)) (aN))))))))))))))))))
theorem ok__law_bodies {f : Addr} {fd : FuncData} {CS : Nat → Addr} (F : Fun K "_law_bodies" "_law_bodies" s__law_bodies f fd) (T : Txt w K mg CS) (C__law_whole : CalX P w K mg base 1 "_law_whole" 4 (T__law_whole CS)) (C__law_task : CalX P w K mg base 1 "_law_task" 2 (T__law_task CS)) (C__law_deep : CalX P w K mg base 1 "_law_deep" 2 (T__law_deep CS)) (C__law_loops : CalX P w K mg base 1 "_law_loops" 1 (T__law_loops CS)) (C__law_operation : CalX P w K mg base 1 "_law_operation" 4 (T__law_operation CS)) (C__law_wide : CalX P w K mg base 1 "_law_wide" 1 (T__law_wide CS)) (C__law_unary : CalX P w K mg base 1 "_law_unary" 1 (T__law_unary CS)) : FnOk P w K mg base (L2.CX P w) 2 f fd ["_law_kind", "_law_n"] (spX K 2 (T__law_bodies CS)) :=
  okX F sc__law_bodies rfl rfl (by decide) fun cdv A outer s H E hr =>
  cs_cons (c1_set sc__law_bodies.nd rfl lo__law_bodies__law_cells (cm_lst (ca_cons (cm_tup (ca_cons (cm_str) (ca_cons (cm_int) (ca_nil) rfl) rfl) (by decide)) (ca_cons (cm_tup (ca_cons (cm_str) (ca_cons (cm_int) (ca_nil) rfl) rfl) (by decide)) (ca_nil) rfl) rfl) (by decide)) rfl (.inl rfl))
  (cs_cons (c1_if (ct_cmp (cmo_eq hr) (cm_v (i := 0) rfl vs__law_bodies__law_kind nd__law_kind.1 nd__law_kind.2) (cm_int) rfl) (cs_cons ((by first | exact c1_setLc (iy := 3) (own := [("_law_k", 6)]) rfl sc__law_bodies.nd (blkOk_by (N := N__law_bodies) (sc := defScope s__law_bodies) (by decide +kernel)) (bind1 (by decide)) (fun _ _ _ _ _ => L2.pg_name sc__law_bodies.nd (i := 6) rfl (.inl rfl) (.inr rfl)) (ci_range1 g__law_bodies_range T.b_range (cm_bin cmo_sub (cm_v (i := 1) rfl vs__law_bodies__law_n nd__law_n.1 nd__law_n.2) (cm_int)) rfl) (fun _ _ _ _ _ => cts_nil) (fun _ _ _ _ _ => cm_tup (ca_cons (cm_str) (ca_cons (cm_tup (ca_cons (cm_str) (ca_cons (cm_str) (ca_nil) rfl) rfl) (by decide)) (ca_cons (cm_tup (ca_cons (cm_str) (ca_cons (cm_int) (ca_nil) rfl) rfl) (by decide)) (ca_nil) rfl) rfl) rfl) (by decide)) rfl rfl (sw_true rfl rfl rfl (by decide +kernel)) (fun _ => rfl) | exact c1_set (i := 3) sc__law_bodies.nd rfl lo__law_bodies__law_rest (cm_lc (own := [("_law_k", 6)]) rfl sc__law_bodies.nd (blkOk_by (N := N__law_bodies) (sc := defScope s__law_bodies) (by decide +kernel)) (bind1 (by decide)) (fun _ _ _ _ _ => L2.pg_name sc__law_bodies.nd (i := 6) rfl (.inl rfl) (.inr rfl)) (ci_range1 g__law_bodies_range T.b_range (cm_bin cmo_sub (cm_v (i := 1) rfl vs__law_bodies__law_n nd__law_n.1 nd__law_n.2) (cm_int)) rfl) (fun _ _ _ _ _ => cts_nil) (fun _ _ _ _ _ => cm_tup (ca_cons (cm_str) (ca_cons (cm_tup (ca_cons (cm_str) (ca_cons (cm_str) (ca_nil) rfl) rfl) (by decide)) (ca_cons (cm_tup (ca_cons (cm_str) (ca_cons (cm_int) (ca_nil) rfl) rfl) (by decide)) (ca_nil) rfl) rfl) rfl) (by decide)) (fun _ => rfl)) rfl (.inl rfl)))
  (cs_cons (c1_set sc__law_bodies.nd rfl lo__law_bodies__law_body (cm_lst (ca_cons (cm_tup (ca_cons (cm_str) (ca_cons (cm_tup (ca_cons (cm_str) (ca_cons (cm_int) (ca_nil) rfl) rfl) (by decide)) (ca_cons (cm_sl (cm_v (i := 3) rfl vs__law_bodies__law_rest nd__law_rest.1 nd__law_rest.2) (cp_none) (cp_some (cm_int))) (ca_cons (cm_lst (ca_nil) (by decide)) (ca_nil) rfl) rfl) rfl) rfl) (by decide)) (ca_cons (cm_tup (ca_cons (cm_str) (ca_cons (cm_str) (ca_cons (cm_int) (ca_cons (cm_non) (ca_cons (cm_sl (cm_v (i := 3) rfl vs__law_bodies__law_rest nd__law_rest.1 nd__law_rest.2) (cp_some (cm_int)) (cp_some (cm_int))) (ca_nil) rfl) rfl) rfl) rfl) rfl) (by decide)) (ca_cons (cm_tup (ca_cons (cm_str) (ca_cons (cm_str) (ca_cons (cm_tup (ca_cons (cm_str) (ca_cons (cm_int) (ca_nil) rfl) rfl) (by decide)) (ca_nil) rfl) rfl) rfl) (by decide)) (ca_nil) rfl) rfl) rfl) (by decide)) rfl (.inl rfl))
  (cs_one (c1_ret (cm_call C__law_whole (hr.mono (by decide)) g__law_bodies__law_whole (ca_cons (cm_lst (ca_cons (cm_tup (ca_cons (cm_str) (ca_cons (cm_str) (ca_nil) rfl) rfl) (by decide)) (ca_nil) rfl) (by decide)) (ca_cons (cm_lst (ca_nil) (by decide)) (ca_cons (cm_lst (ca_cons (cm_call C__law_task (hr.mono (by decide)) g__law_bodies__law_task (ca_cons (cm_bin cmo_add (cm_v (i := 4) rfl vs__law_bodies__law_body nd__law_body.1 nd__law_body.2) (cm_sl (cm_v (i := 3) rfl vs__law_bodies__law_rest nd__law_rest.1 nd__law_rest.2) (cp_some (cm_int)) (cp_none))) (ca_cons (cm_v (i := 2) rfl vs__law_bodies__law_cells nd__law_cells.1 nd__law_cells.2) (ca_nil) rfl) rfl) nd__law_task.1 rfl rfl) (ca_nil) rfl) (by decide)) (ca_cons (cm_lst (ca_nil) (by decide)) (ca_nil) rfl) rfl) rfl) rfl) nd__law_whole.1 rfl rfl))))) (cs_nil))
  (cs_cons (c1_if (ct_cmp (cmo_eq hr) (cm_v (i := 0) rfl vs__law_bodies__law_kind nd__law_kind.1 nd__law_kind.2) (cm_int) rfl) (cs_one (c1_ret (cm_call C__law_whole (hr.mono (by decide)) g__law_bodies__law_whole (ca_cons (cm_lst (ca_nil) (by decide)) (ca_cons (cm_lst (ca_nil) (by decide)) (ca_cons (cm_lst (ca_cons (cm_call C__law_task (hr.mono (by decide)) g__law_bodies__law_task (ca_cons (cm_call C__law_deep (hr.mono (by decide)) g__law_bodies__law_deep (ca_cons (cm_v (i := 1) rfl vs__law_bodies__law_n nd__law_n.1 nd__law_n.2) (ca_cons (cm_lst (ca_nil) (by decide)) (ca_nil) rfl) rfl) nd__law_deep.1 rfl rfl) (ca_cons (cm_v (i := 2) rfl vs__law_bodies__law_cells nd__law_cells.1 nd__law_cells.2) (ca_nil) rfl) rfl) nd__law_task.1 rfl rfl) (ca_nil) rfl) (by decide)) (ca_cons (cm_lst (ca_nil) (by decide)) (ca_nil) rfl) rfl) rfl) rfl) nd__law_whole.1 rfl rfl))) (cs_nil))
  (cs_cons (c1_if (ct_cmp (cmo_eq hr) (cm_v (i := 0) rfl vs__law_bodies__law_kind nd__law_kind.1 nd__law_kind.2) (cm_int) rfl) (cs_one (c1_ret (cm_call C__law_whole (hr.mono (by decide)) g__law_bodies__law_whole (ca_cons (cm_lst (ca_nil) (by decide)) (ca_cons (cm_lst (ca_nil) (by decide)) (ca_cons (cm_lst (ca_cons (cm_call C__law_task (hr.mono (by decide)) g__law_bodies__law_task (ca_cons (cm_call C__law_loops (hr.mono (by decide)) g__law_bodies__law_loops (ca_cons (cm_v (i := 1) rfl vs__law_bodies__law_n nd__law_n.1 nd__law_n.2) (ca_nil) rfl) nd__law_loops.1 rfl rfl) (ca_cons (cm_v (i := 2) rfl vs__law_bodies__law_cells nd__law_cells.1 nd__law_cells.2) (ca_nil) rfl) rfl) nd__law_task.1 rfl rfl) (ca_nil) rfl) (by decide)) (ca_cons (cm_lst (ca_nil) (by decide)) (ca_nil) rfl) rfl) rfl) rfl) nd__law_whole.1 rfl rfl))) (cs_nil))
  (cs_cons (c1_if (ct_cmp (cmo_eq hr) (cm_v (i := 0) rfl vs__law_bodies__law_kind nd__law_kind.1 nd__law_kind.2) (cm_int) rfl) (cs_one (c1_ret (cm_call C__law_whole (hr.mono (by decide)) g__law_bodies__law_whole (ca_cons (cm_lst (ca_nil) (by decide)) (ca_cons (cm_lst (ca_nil) (by decide)) (ca_cons (cm_lst (ca_cons (cm_call C__law_task (hr.mono (by decide)) g__law_bodies__law_task (ca_cons (cm_lst (ca_cons (cm_tup (ca_cons (cm_str) (ca_cons (cm_tup (ca_cons (cm_str) (ca_cons (cm_str) (ca_cons (cm_call C__law_unary (hr.mono (by decide)) g__law_bodies__law_unary (ca_cons (cm_v (i := 1) rfl vs__law_bodies__law_n nd__law_n.1 nd__law_n.2) (ca_nil) rfl) nd__law_unary.1 rfl rfl) (ca_nil) rfl) rfl) rfl) (by decide)) (ca_cons (cm_tup (ca_cons (cm_str) (ca_cons (cm_int) (ca_nil) rfl) rfl) (by decide)) (ca_nil) rfl) rfl) rfl) (by decide)) (ca_nil) rfl) (by decide)) (ca_cons (cm_v (i := 2) rfl vs__law_bodies__law_cells nd__law_cells.1 nd__law_cells.2) (ca_nil) rfl) rfl) nd__law_task.1 rfl rfl) (ca_nil) rfl) (by decide)) (ca_cons (cm_lst (ca_nil) (by decide)) (ca_nil) rfl) rfl) rfl) rfl) nd__law_whole.1 rfl rfl))) (cs_nil))
  (cs_cons (c1_if (ct_cmp (cmo_eq hr) (cm_v (i := 0) rfl vs__law_bodies__law_kind nd__law_kind.1 nd__law_kind.2) (cm_int) rfl) (cs_cons (c1_set sc__law_bodies.nd rfl lo__law_bodies__law_rows_here (cm_lst (ca_cons (cm_tup (ca_cons (cm_str) (ca_cons (cm_str) (ca_cons (cm_lst (ca_nil) (by decide)) (ca_cons (cm_lst (ca_cons (cm_call C__law_operation (hr.mono (by decide)) g__law_bodies__law_operation (ca_cons (cm_str) (ca_cons (cm_lst (ca_cons (cm_str) (ca_nil) rfl) (by decide)) (ca_cons (cm_lst (ca_nil) (by decide)) (ca_cons (cm_lst (ca_nil) (by decide)) (ca_nil) rfl) rfl) rfl) rfl) nd__law_operation.1 rfl rfl) (ca_nil) rfl) (by decide)) (ca_nil) rfl) rfl) rfl) rfl) (by decide)) (ca_nil) rfl) (by decide)) rfl (.inl rfl))
  (cs_one (c1_ret (cm_call C__law_whole (hr.mono (by decide)) g__law_bodies__law_whole (ca_cons (cm_lst (ca_nil) (by decide)) (ca_cons (cm_v (i := 5) rfl vs__law_bodies__law_rows_here nd__law_rows_here.1 nd__law_rows_here.2) (ca_cons (cm_lst (ca_cons (cm_call C__law_task (hr.mono (by decide)) g__law_bodies__law_task (ca_cons (cm_lst (ca_cons (cm_tup (ca_cons (cm_str) (ca_cons (cm_non) (ca_cons (cm_str) (ca_cons (cm_str) (ca_cons (cm_lst (ca_cons (cm_call C__law_unary (hr.mono (by decide)) g__law_bodies__law_unary (ca_cons (cm_v (i := 1) rfl vs__law_bodies__law_n nd__law_n.1 nd__law_n.2) (ca_nil) rfl) nd__law_unary.1 rfl rfl) (ca_nil) rfl) (by decide)) (ca_nil) rfl) rfl) rfl) rfl) rfl) (by decide)) (ca_nil) rfl) (by decide)) (ca_cons (cm_v (i := 2) rfl vs__law_bodies__law_cells nd__law_cells.1 nd__law_cells.2) (ca_nil) rfl) rfl) nd__law_task.1 rfl rfl) (ca_nil) rfl) (by decide)) (ca_cons (cm_lst (ca_nil) (by decide)) (ca_nil) rfl) rfl) rfl) rfl) nd__law_whole.1 rfl rfl)))) (cs_nil))
  (cs_cons (c1_if (ct_cmp (cmo_eq hr) (cm_v (i := 0) rfl vs__law_bodies__law_kind nd__law_kind.1 nd__law_kind.2) (cm_int) rfl) (cs_one (c1_ret (cm_call C__law_whole (hr.mono (by decide)) g__law_bodies__law_whole (ca_cons (cm_lst (ca_nil) (by decide)) (ca_cons (cm_lst (ca_nil) (by decide)) (ca_cons (cm_lst (ca_cons (cm_call C__law_task (hr.mono (by decide)) g__law_bodies__law_task (ca_cons (cm_lst (ca_nil) (by decide)) (ca_cons (cm_lst (ca_cons (cm_tup (ca_cons (cm_str) (ca_cons (cm_v (i := 1) rfl vs__law_bodies__law_n nd__law_n.1 nd__law_n.2) (ca_nil) rfl) rfl) (by decide)) (ca_nil) rfl) (by decide)) (ca_nil) rfl) rfl) nd__law_task.1 rfl rfl) (ca_nil) rfl) (by decide)) (ca_cons (cm_lst (ca_nil) (by decide)) (ca_nil) rfl) rfl) rfl) rfl) nd__law_whole.1 rfl rfl))) (cs_nil))
  (cs_cons (c1_if (ct_cmp (cmo_eq hr) (cm_v (i := 0) rfl vs__law_bodies__law_kind nd__law_kind.1 nd__law_kind.2) (cm_int) rfl) (cs_one (c1_ret (cm_call C__law_whole (hr.mono (by decide)) g__law_bodies__law_whole (ca_cons (cm_lst (ca_nil) (by decide)) (ca_cons (cm_lst (ca_nil) (by decide)) (ca_cons (cm_lst (ca_cons (cm_call C__law_task (hr.mono (by decide)) g__law_bodies__law_task (ca_cons (cm_lst (ca_cons (cm_tup (ca_cons (cm_str) (ca_cons (cm_str) (ca_cons (cm_v (i := 1) rfl vs__law_bodies__law_n nd__law_n.1 nd__law_n.2) (ca_cons (cm_non) (ca_cons (cm_lst (ca_nil) (by decide)) (ca_nil) rfl) rfl) rfl) rfl) rfl) (by decide)) (ca_nil) rfl) (by decide)) (ca_cons (cm_v (i := 2) rfl vs__law_bodies__law_cells nd__law_cells.1 nd__law_cells.2) (ca_nil) rfl) rfl) nd__law_task.1 rfl rfl) (ca_nil) rfl) (by decide)) (ca_cons (cm_lst (ca_nil) (by decide)) (ca_nil) rfl) rfl) rfl) rfl) nd__law_whole.1 rfl rfl))) (cs_nil))
  (cs_cons (c1_if (ct_cmp (cmo_eq hr) (cm_v (i := 0) rfl vs__law_bodies__law_kind nd__law_kind.1 nd__law_kind.2) (cm_int) rfl) (cs_one (c1_ret (cm_call C__law_whole (hr.mono (by decide)) g__law_bodies__law_whole (ca_cons (cm_lst (ca_nil) (by decide)) (ca_cons (cm_lst (ca_nil) (by decide)) (ca_cons (cm_lst (ca_cons (cm_tup (ca_cons (cm_str) (ca_cons (cm_str) (ca_cons (cm_v (i := 1) rfl vs__law_bodies__law_n nd__law_n.1 nd__law_n.2) (ca_cons (cm_bin cmo_sub (cm_int) (cm_int)) (ca_cons (cm_lst (ca_nil) (by decide)) (ca_cons (cm_lst (ca_nil) (by decide)) (ca_nil) rfl) rfl) rfl) rfl) rfl) rfl) (by decide)) (ca_nil) rfl) (by decide)) (ca_cons (cm_lst (ca_nil) (by decide)) (ca_nil) rfl) rfl) rfl) rfl) nd__law_whole.1 rfl rfl))) (cs_nil))
  (cs_cons (c1_if (ct_cmp (cmo_eq hr) (cm_v (i := 0) rfl vs__law_bodies__law_kind nd__law_kind.1 nd__law_kind.2) (cm_int) rfl) (cs_one (c1_ret (cm_call C__law_whole (hr.mono (by decide)) g__law_bodies__law_whole (ca_cons (cm_lst (ca_nil) (by decide)) (ca_cons (cm_lst (ca_nil) (by decide)) (ca_cons (cm_lst (ca_cons (cm_tup (ca_cons (cm_str) (ca_cons (cm_str) (ca_cons (cm_int) (ca_cons (cm_v (i := 1) rfl vs__law_bodies__law_n nd__law_n.1 nd__law_n.2) (ca_cons (cm_lst (ca_nil) (by decide)) (ca_cons (cm_lst (ca_nil) (by decide)) (ca_nil) rfl) rfl) rfl) rfl) rfl) rfl) (by decide)) (ca_nil) rfl) (by decide)) (ca_cons (cm_lst (ca_nil) (by decide)) (ca_nil) rfl) rfl) rfl) rfl) nd__law_whole.1 rfl rfl))) (cs_nil))
  (cs_cons (c1_if (ct_cmp (cmo_eq hr) (cm_v (i := 0) rfl vs__law_bodies__law_kind nd__law_kind.1 nd__law_kind.2) (cm_int) rfl) (cs_one (c1_ret (cm_call C__law_whole (hr.mono (by decide)) g__law_bodies__law_whole (ca_cons (cm_lst (ca_nil) (by decide)) (ca_cons (cm_lst (ca_nil) (by decide)) (ca_cons (cm_lst (ca_cons (cm_call C__law_task (hr.mono (by decide)) g__law_bodies__law_task (ca_cons (cm_lst (ca_cons (cm_tup (ca_cons (cm_str) (ca_cons (cm_tup (ca_cons (cm_str) (ca_cons (cm_str) (ca_nil) rfl) rfl) (by decide)) (ca_cons (cm_call C__law_wide (hr.mono (by decide)) g__law_bodies__law_wide (ca_cons (cm_v (i := 1) rfl vs__law_bodies__law_n nd__law_n.1 nd__law_n.2) (ca_nil) rfl) nd__law_wide.1 rfl rfl) (ca_nil) rfl) rfl) rfl) (by decide)) (ca_nil) rfl) (by decide)) (ca_cons (cm_v (i := 2) rfl vs__law_bodies__law_cells nd__law_cells.1 nd__law_cells.2) (ca_nil) rfl) rfl) nd__law_task.1 rfl rfl) (ca_nil) rfl) (by decide)) (ca_cons (cm_lst (ca_nil) (by decide)) (ca_nil) rfl) rfl) rfl) rfl) nd__law_whole.1 rfl rfl))) (cs_nil))
  (cs_one (c1_ret (cm_call C__law_whole (hr.mono (by decide)) g__law_bodies__law_whole (ca_cons (cm_lst (ca_nil) (by decide)) (ca_cons (cm_lst (ca_nil) (by decide)) (ca_cons (cm_lst (ca_cons (cm_tup (ca_cons (cm_str) (ca_cons (cm_bin cmo_add (cm_bin cmo_add (cm_str) (cm_bin cmo_mulS (cm_str) (cm_bin cmo_sub (cm_v (i := 1) rfl vs__law_bodies__law_n nd__law_n.1 nd__law_n.2) (cm_int)))) (cm_str)) (ca_cons (cm_int) (ca_cons (cm_int) (ca_cons (cm_lst (ca_nil) (by decide)) (ca_cons (cm_lst (ca_nil) (by decide)) (ca_nil) rfl) rfl) rfl) rfl) rfl) rfl) (by decide)) (ca_nil) rfl) (by decide)) (ca_cons (cm_lst (ca_nil) (by decide)) (ca_nil) rfl) rfl) rfl) rfl) nd__law_whole.1 rfl rfl)))))))))))))
abbrev s_Checker___init__ : Stmt := inClass (top 22) 0
abbrev N_Checker___init__ : List Str := ["self", "program"]
theorem sc_Checker___init__ : FnScope N_Checker___init__ ["self", "program"] (defScope s_Checker___init__) := ⟨rfl, rfl, rfl, by decide +kernel, rfl, by decide +kernel, by decide +kernel⟩
theorem lo_Checker___init___self : Loc (defScope s_Checker___init__) "self" := by first | exact .inl rfl | exact .inr rfl
theorem vs_Checker___init___self : Vis (defScope s_Checker___init__) "self" := lo_Checker___init___self.elim .inl fun z => .inr (.inl z)
theorem lo_Checker___init___program : Loc (defScope s_Checker___init__) "program" := by first | exact .inl rfl | exact .inr rfl
theorem vs_Checker___init___program : Vis (defScope s_Checker___init__) "program" := lo_Checker___init___program.elim .inl fun z => .inr (.inl z)
def T_Checker___init__ (CS : Nat → Addr) : FT := fnT 2 (sCo (sFld [CS 0] f_ports (eV 0) (eIx oIx (eV 1) (eC (.int 2)))) (
  sFld [CS 0] f_objects (eV 0) (eIx oIx (eV 1) (eC (.int 3)))))
theorem ok_Checker___init__ {f : Addr} {fd : FuncData} {CS : Nat → Addr} (F : Fun K "__init__" "Checker.__init__" s_Checker___init__ f fd) (T : Txt w K mg CS) : FnOk P w K mg base (L2.CX P w) 1 f fd ["self", "program"] (spX K 2 (T_Checker___init__ CS)) :=
  okX F sc_Checker___init__ rfl rfl (by decide) fun cdv A outer s H E hr =>
  cs_cons (c1_fld fn_ports (fl1 ⟨T.cl_Checker, T.na_Checker_ports⟩) (cm_v (i := 0) rfl vs_Checker___init___self nd_self.1 nd_self.2) (cm_ix cmi_ix (cm_v (i := 1) rfl vs_Checker___init___program nd_program.1 nd_program.2) (cm_int) (fun _ _ => rfl)) rfl)
  (cs_one (c1_fld fn_objects (fl1 ⟨T.cl_Checker, T.na_Checker_objects⟩) (cm_v (i := 0) rfl vs_Checker___init___self nd_self.1 nd_self.2) (cm_ix cmi_ix (cm_v (i := 1) rfl vs_Checker___init___program nd_program.1 nd_program.2) (cm_int) (fun _ _ => rfl)) rfl))
abbrev s__require : Stmt := top 16
abbrev N__require : List Str := ["holds", "rule"]
theorem sc__require : FnScope N__require ["holds", "rule"] (defScope s__require) := ⟨rfl, rfl, rfl, by decide +kernel, rfl, by decide +kernel, by decide +kernel⟩
theorem lo__require_holds : Loc (defScope s__require) "holds" := by first | exact .inl rfl | exact .inr rfl
theorem vs__require_holds : Vis (defScope s__require) "holds" := lo__require_holds.elim .inl fun z => .inr (.inl z)
theorem lo__require_rule : Loc (defScope s__require) "rule" := by first | exact .inl rfl | exact .inr rfl
theorem vs__require_rule : Vis (defScope s__require) "rule" := lo__require_rule.elim .inl fun z => .inr (.inl z)
theorem g__require_RuleError : (defScope s__require).names.lookup ("RuleError" : Str) = some .globalImplicit := rfl
def T__require (CS : Nat → Addr) : FT := fnT 2 (sIf (tNot (tV (eV 0))) (sRz (CS 2) f_rule (eV 1)) (sNo))
theorem ok__require {f : Addr} {fd : FuncData} {CS : Nat → Addr} (F : Fun K "_require" "_require" s__require f fd) (T : Txt w K mg CS) (C_RuleError : CalE P w K mg base "RuleError" (CS 2) f_rule) : FnOk P w K mg base (L2.CX P w) 3 f fd ["holds", "rule"] (spX K 2 (T__require CS)) :=
  okX F sc__require rfl rfl (by decide) fun cdv A outer s H E hr =>
  cs_one (c1_if (ct_not (ct_v (cm_v (i := 0) rfl vs__require_holds nd_holds.1 nd_holds.2))) (cs_one (c1_rz rfl C_RuleError (hr.mono (by decide)) g__require_RuleError (cm_v (i := 1) rfl vs__require_rule nd_rule.1 nd_rule.2) nd_RuleError.1 rfl rfl)) (cs_nil))
abbrev s_is_reserved : Stmt := top 5
abbrev N_is_reserved : List Str := ["name"]
theorem sc_is_reserved : FnScope N_is_reserved ["name"] (defScope s_is_reserved) := ⟨rfl, rfl, rfl, by decide +kernel, rfl, by decide +kernel, by decide +kernel⟩
theorem lo_is_reserved_name : Loc (defScope s_is_reserved) "name" := by first | exact .inl rfl | exact .inr rfl
theorem vs_is_reserved_name : Vis (defScope s_is_reserved) "name" := lo_is_reserved_name.elim .inl fun z => .inr (.inl z)
theorem g_is_reserved_RESERVED : (defScope s_is_reserved).names.lookup ("RESERVED" : Str) = some .globalImplicit := rfl
def T_is_reserved (CS : Nat → Addr) : FT := fnT 1 (sRet (eBin oIn (eV 0) (eC (.tup [.str "system", .str "in", .str "out", .str "object", .str "cell", .str "operation", .str "give", .str "end", .str "task", .str "every", .str "within", .str "if", .str "else", .str "loop", .str "to", .str "while", .str "read", .str "write", .str "interrupt", .str "calls", .str "mod", .str "and", .str "or"]))))
theorem ok_is_reserved {f : Addr} {fd : FuncData} {CS : Nat → Addr} (F : Fun K "is_reserved" "is_reserved" s_is_reserved f fd) (T : Txt w K mg CS) : FnOk P w K mg base (L2.CX P w) 1 f fd ["name"] (spX K 1 (T_is_reserved CS)) :=
  okX F sc_is_reserved rfl rfl (by decide) fun cdv A outer s H E hr =>
  cs_one (c1_ret (cm_cmp cmo_in (cm_v (i := 0) rfl vs_is_reserved_name nd_name.1 nd_name.2) (cm_glob T.c_RESERVED g_is_reserved_RESERVED nd_RESERVED.1) rfl))
abbrev s_is_name : Stmt := top 15
abbrev N_is_name : List Str := ["text", "k", "char", "letter"]
theorem sc_is_name : FnScope N_is_name ["text"] (defScope s_is_name) := ⟨rfl, rfl, rfl, by decide +kernel, rfl, by decide +kernel, by decide +kernel⟩
theorem lo_is_name_text : Loc (defScope s_is_name) "text" := by first | exact .inl rfl | exact .inr rfl
theorem vs_is_name_text : Vis (defScope s_is_name) "text" := lo_is_name_text.elim .inl fun z => .inr (.inl z)
theorem lo_is_name_k : Loc (defScope s_is_name) "k" := by first | exact .inl rfl | exact .inr rfl
theorem vs_is_name_k : Vis (defScope s_is_name) "k" := lo_is_name_k.elim .inl fun z => .inr (.inl z)
theorem lo_is_name_char : Loc (defScope s_is_name) "char" := by first | exact .inl rfl | exact .inr rfl
theorem vs_is_name_char : Vis (defScope s_is_name) "char" := lo_is_name_char.elim .inl fun z => .inr (.inl z)
theorem lo_is_name_letter : Loc (defScope s_is_name) "letter" := by first | exact .inl rfl | exact .inr rfl
theorem vs_is_name_letter : Vis (defScope s_is_name) "letter" := lo_is_name_letter.elim .inl fun z => .inr (.inl z)
theorem g_is_name_len : (defScope s_is_name).names.lookup ("len" : Str) = some .globalImplicit := rfl
theorem g_is_name_is_reserved : (defScope s_is_name).names.lookup ("is_reserved" : Str) = some .globalImplicit := rfl
theorem g_is_name_enumerate : (defScope s_is_name).names.lookup ("enumerate" : Str) = some .globalImplicit := rfl
def T_is_name (CS : Nat → Addr) : FT := fnT 4 (sCo (sIf (tOr (tCmp oLt (eCB cLen (aC (eV 0) (aN))) (eC (.int 1))) (tOr (tCmp oGt (eCB cLen (aC (eV 0) (aN))) (eC (.int 16))) (tV (eCall (T_is_reserved CS) (aC (eV 0) (aN)))))) (sRet (eC (.bl false))) (sNo)) (
  sCo (sFor (gTup 2 (gsC (gName 1) (gsC (gName 2) (gsN)))) (iEnA (eV 0)) (sCo (sSet 3 (eOr (eChain oLeS oLeS (eC (.str "a")) (eV 2) (eC (.str "z"))) (eChain oLeS oLeS (eC (.str "A")) (eV 2) (eC (.str "Z"))))) (
  sIf (tAnd (tNot (tV (eV 3))) (tOr (tCmp oEq (eV 1) (eC (.int 0))) (tNot (tOr (tChain oLeS oLeS (eC (.str "0")) (eV 2) (eC (.str "9"))) (tCmp oEq (eV 2) (eC (.str "_"))))))) (sRet (eC (.bl false))) (sNo)))) (
  sRet (eC (.bl true)))))
theorem ok_is_name {f : Addr} {fd : FuncData} {CS : Nat → Addr} (F : Fun K "is_name" "is_name" s_is_name f fd) (T : Txt w K mg CS) (C_is_reserved : CalX P w K mg base 1 "is_reserved" 1 (T_is_reserved CS)) : FnOk P w K mg base (L2.CX P w) 2 f fd ["text"] (spX K 1 (T_is_name CS)) :=
  okX F sc_is_name rfl rfl (by decide) fun cdv A outer s H E hr =>
  cs_cons (c1_if (ct_pw (cpw_or (ct_cmp cmo_lt (cm_callB cmc_len bb_len T.b_len g_is_name_len (ca_cons (cm_v (i := 0) rfl vs_is_name_text nd_text.1 nd_text.2) (ca_nil) rfl) nn_len nd_len.1 rfl rfl) (cm_int) rfl) (cpw_or (ct_cmp cmo_gt (cm_callB cmc_len bb_len T.b_len g_is_name_len (ca_cons (cm_v (i := 0) rfl vs_is_name_text nd_text.1 nd_text.2) (ca_nil) rfl) nn_len nd_len.1 rfl rfl) (cm_int) rfl) (cpw_or1 (ct_v (cm_call C_is_reserved (hr.mono (by decide)) g_is_name_is_reserved (ca_cons (cm_v (i := 0) rfl vs_is_name_text nd_text.1 nd_text.2) (ca_nil) rfl) nd_is_reserved.1 rfl rfl)))))) (cs_one (c1_ret (cm_bl))) (cs_nil))
  (cs_cons (c1_for (cg_tup rfl (cgs_cons (cg_name sc_is_name.nd rfl lo_is_name_k (.inl rfl)) (cgs_cons (cg_name sc_is_name.nd rfl lo_is_name_char (.inl rfl)) (cgs_nil) rfl) rfl) rfl rfl) (ci_enA g_is_name_enumerate T.b_enumerate (cm_v (i := 0) rfl vs_is_name_text nd_text.1 nd_text.2) rfl) (cs_cons (c1_set sc_is_name.nd rfl lo_is_name_letter (cm_or (cm_chain cmo_leS cmo_leS (cm_str) (cm_v (i := 2) rfl vs_is_name_char nd_char.1 nd_char.2) (cm_str) rfl) (cm_one (cm_chain cmo_leS cmo_leS (cm_str) (cm_v (i := 2) rfl vs_is_name_char nd_char.1 nd_char.2) (cm_str) rfl))) rfl (.inl rfl))
  (cs_one (c1_if (ct_pw (cpw_and (ct_not (ct_v (cm_v (i := 3) rfl vs_is_name_letter nd_letter.1 nd_letter.2))) (cpw_and1 (ct_pw (cpw_or (ct_cmp (cmo_eq hr) (cm_v (i := 1) rfl vs_is_name_k nd_k.1 nd_k.2) (cm_int) rfl) (cpw_or1 (ct_not (ct_pw (cpw_or (ct_chain cmo_leS cmo_leS (cm_str) (cm_v (i := 2) rfl vs_is_name_char nd_char.1 nd_char.2) (cm_str) rfl) (cpw_or1 (ct_cmp (cmo_eq hr) (cm_v (i := 2) rfl vs_is_name_char nd_char.1 nd_char.2) (cm_str) rfl))))))))))) (cs_one (c1_ret (cm_bl))) (cs_nil)))) rfl pass_cx (fun _ => rfl))
  (cs_one (c1_ret (cm_bl))))
abbrev s__check_ports : Stmt := top 25
abbrev N__check_ports : List Str := ["program", "names", "kind", "port"]
theorem sc__check_ports : FnScope N__check_ports ["program", "names"] (defScope s__check_ports) := ⟨rfl, rfl, rfl, by decide +kernel, rfl, by decide +kernel, by decide +kernel⟩
theorem lo__check_ports_program : Loc (defScope s__check_ports) "program" := by first | exact .inl rfl | exact .inr rfl
theorem vs__check_ports_program : Vis (defScope s__check_ports) "program" := lo__check_ports_program.elim .inl fun z => .inr (.inl z)
theorem lo__check_ports_names : Loc (defScope s__check_ports) "names" := by first | exact .inl rfl | exact .inr rfl
theorem vs__check_ports_names : Vis (defScope s__check_ports) "names" := lo__check_ports_names.elim .inl fun z => .inr (.inl z)
theorem lo__check_ports_kind : Loc (defScope s__check_ports) "kind" := by first | exact .inl rfl | exact .inr rfl
theorem vs__check_ports_kind : Vis (defScope s__check_ports) "kind" := lo__check_ports_kind.elim .inl fun z => .inr (.inl z)
theorem lo__check_ports_port : Loc (defScope s__check_ports) "port" := by first | exact .inl rfl | exact .inr rfl
theorem vs__check_ports_port : Vis (defScope s__check_ports) "port" := lo__check_ports_port.elim .inl fun z => .inr (.inl z)
theorem g__check_ports__require : (defScope s__check_ports).names.lookup ("_require" : Str) = some .globalImplicit := rfl
theorem g__check_ports_len : (defScope s__check_ports).names.lookup ("len" : Str) = some .globalImplicit := rfl
theorem g__check_ports_is_name : (defScope s__check_ports).names.lookup ("is_name" : Str) = some .globalImplicit := rfl
def T__check_ports (CS : Nat → Addr) : FT := fnT 4 (sCo (sFor (gName 2) (iSeq (eTup (aC (eC (.str "in")) (aC (eC (.str "out")) (aN))))) (sExpr (eCall (T__require CS) (aC (eBin oLe (eCB cLen (aC (eLc false [3] (b1 3) (iSeq (eIx oIx (eV 0) (eC (.int 2)))) (tCmp oEq (eIx oIx (eV 3) (eC (.int 0))) (eV 2)) (eV 3)) (aN))) (eC (.int 8))) (aC (eC (.str "size")) (aN)))))) (
  sFor (gName 3) (iSeq (eIx oIx (eV 0) (eC (.int 2)))) (sCo (sExpr (eCall (T__require CS) (aC (eAnd (eCall (T_is_name CS) (aC (eIx oIx (eV 3) (eC (.int 1))) (aN))) (eBin oNotInD (eIx oIx (eV 3) (eC (.int 1))) (eV 1))) (aC (eC (.str "name")) (aN))))) (
  sDPut (eV 1) (eIx oIx (eV 3) (eC (.int 1))) (eC (.bl true))))))
theorem ok__check_ports {f : Addr} {fd : FuncData} {CS : Nat → Addr} (F : Fun K "_check_ports" "_check_ports" s__check_ports f fd) (T : Txt w K mg CS) (C__require : CalX P w K mg base 3 "_require" 2 (T__require CS)) (C_is_name : CalX P w K mg base 2 "is_name" 1 (T_is_name CS)) : FnOk P w K mg base (L2.CX P w) 4 f fd ["program", "names"] (spX K 2 (T__check_ports CS)) :=
  okX F sc__check_ports rfl rfl (by decide) fun cdv A outer s H E hr =>
  cs_cons (c1_for (cg_name sc__check_ports.nd rfl lo__check_ports_kind (.inl rfl)) (ci_seq (cm_tup (ca_cons (cm_str) (ca_cons (cm_str) (ca_nil) rfl) rfl) (by decide))) (cs_one (c1_expr (cm_call C__require (hr.mono (by decide)) g__check_ports__require (ca_cons (cm_cmp cmo_le (cm_callB cmc_len bb_len T.b_len g__check_ports_len (ca_cons (cm_lc (own := [("port", 3)]) rfl sc__check_ports.nd (blkOk_by (N := N__check_ports) (sc := defScope s__check_ports) (by decide +kernel)) (bind1 (by decide)) (fun _ _ _ _ _ => L2.pg_name sc__check_ports.nd (i := 3) rfl (.inl rfl) (.inr rfl)) (ci_seq (cm_ix cmi_ix (cm_v (i := 0) rfl vs__check_ports_program nd_program.1 nd_program.2) (cm_int) (fun _ _ => rfl))) (fun _ _ _ _ _ => cts_one (ct_cmp (cmo_eq hr) (cm_ix cmi_ix (cm_v (i := 3) rfl (by first | exact Or.inl rfl | exact Or.inr (Or.inl rfl) | exact Or.inr (Or.inr rfl)) nd_port.1 nd_port.2) (cm_int) (fun _ _ => rfl)) (cm_v (i := 2) rfl (by first | exact Or.inl rfl | exact Or.inr (Or.inl rfl) | exact Or.inr (Or.inr rfl)) nd_kind.1 nd_kind.2) rfl)) (fun _ _ _ _ _ => cm_v (i := 3) rfl (by first | exact Or.inl rfl | exact Or.inr (Or.inl rfl) | exact Or.inr (Or.inr rfl)) nd_port.1 nd_port.2) (fun _ => rfl)) (ca_nil) rfl) nn_len nd_len.1 rfl rfl) (cm_int) rfl) (ca_cons (cm_str) (ca_nil) rfl) rfl) nd__require.1 rfl rfl) rfl)) rfl pass_cx (fun _ => rfl))
  (cs_one (c1_for (cg_name sc__check_ports.nd rfl lo__check_ports_port (.inl rfl)) (ci_seq (cm_ix cmi_ix (cm_v (i := 0) rfl vs__check_ports_program nd_program.1 nd_program.2) (cm_int) (fun _ _ => rfl))) (cs_cons (c1_expr (cm_call C__require (hr.mono (by decide)) g__check_ports__require (ca_cons (cm_and (cm_call C_is_name (hr.mono (by decide)) g__check_ports_is_name (ca_cons (cm_ix cmi_ix (cm_v (i := 3) rfl vs__check_ports_port nd_port.1 nd_port.2) (cm_int) (fun _ _ => rfl)) (ca_nil) rfl) nd_is_name.1 rfl rfl) (cm_one (cm_cmp (cmo_notInD hr) (cm_ix cmi_ix (cm_v (i := 3) rfl vs__check_ports_port nd_port.1 nd_port.2) (cm_int) (fun _ _ => rfl)) (cm_v (i := 1) rfl vs__check_ports_names nd_names.1 nd_names.2) rfl))) (ca_cons (cm_str) (ca_nil) rfl) rfl) nd__require.1 rfl rfl) rfl)
  (cs_one (c1_dput hr (cm_v (i := 1) rfl vs__check_ports_names nd_names.1 nd_names.2) (cm_ix cmi_ix (cm_v (i := 3) rfl vs__check_ports_port nd_port.1 nd_port.2) (cm_int) (fun _ _ => rfl)) (cm_bl) rfl))) rfl pass_cx (fun _ => rfl)))
abbrev s__declare : Stmt := top 24
abbrev N__declare : List Str := ["declared", "scope", "name", "many"]
theorem sc__declare : FnScope N__declare ["declared", "scope"] (defScope s__declare) := ⟨rfl, rfl, rfl, by decide +kernel, rfl, by decide +kernel, by decide +kernel⟩
theorem lo__declare_declared : Loc (defScope s__declare) "declared" := by first | exact .inl rfl | exact .inr rfl
theorem vs__declare_declared : Vis (defScope s__declare) "declared" := lo__declare_declared.elim .inl fun z => .inr (.inl z)
theorem lo__declare_scope : Loc (defScope s__declare) "scope" := by first | exact .inl rfl | exact .inr rfl
theorem vs__declare_scope : Vis (defScope s__declare) "scope" := lo__declare_scope.elim .inl fun z => .inr (.inl z)
theorem lo__declare_name : Loc (defScope s__declare) "name" := by first | exact .inl rfl | exact .inr rfl
theorem vs__declare_name : Vis (defScope s__declare) "name" := lo__declare_name.elim .inl fun z => .inr (.inl z)
theorem lo__declare_many : Loc (defScope s__declare) "many" := by first | exact .inl rfl | exact .inr rfl
theorem vs__declare_many : Vis (defScope s__declare) "many" := lo__declare_many.elim .inl fun z => .inr (.inl z)
theorem g__declare__require : (defScope s__declare).names.lookup ("_require" : Str) = some .globalImplicit := rfl
theorem g__declare_is_name : (defScope s__declare).names.lookup ("is_name" : Str) = some .globalImplicit := rfl
def T__declare (CS : Nat → Addr) : FT := fnT 4 (sFor (gTup 2 (gsC (gName 2) (gsC (gName 3) (gsN)))) (iSeq (eV 0)) (sCo (sExpr (eCall (T__require CS) (aC (eChain oLe oLe (eC (.int 0)) (eV 3) (eC (.int 64))) (aC (eC (.str "size")) (aN))))) (
  sCo (sExpr (eCall (T__require CS) (aC (eAnd (eCall (T_is_name CS) (aC (eV 2) (aN))) (eBin oNotInD (eV 2) (eV 1))) (aC (eC (.str "name")) (aN))))) (
  sDPut (eV 1) (eV 2) (eV 3)))))
theorem ok__declare {f : Addr} {fd : FuncData} {CS : Nat → Addr} (F : Fun K "_declare" "_declare" s__declare f fd) (T : Txt w K mg CS) (C__require : CalX P w K mg base 3 "_require" 2 (T__require CS)) (C_is_name : CalX P w K mg base 2 "is_name" 1 (T_is_name CS)) : FnOk P w K mg base (L2.CX P w) 4 f fd ["declared", "scope"] (spX K 2 (T__declare CS)) :=
  okX F sc__declare rfl rfl (by decide) fun cdv A outer s H E hr =>
  cs_one (c1_for (cg_tup rfl (cgs_cons (cg_name sc__declare.nd rfl lo__declare_name (.inl rfl)) (cgs_cons (cg_name sc__declare.nd rfl lo__declare_many (.inl rfl)) (cgs_nil) rfl) rfl) rfl rfl) (ci_seq (cm_v (i := 0) rfl vs__declare_declared nd_declared.1 nd_declared.2)) (cs_cons (c1_expr (cm_call C__require (hr.mono (by decide)) g__declare__require (ca_cons (cm_chain cmo_le cmo_le (cm_int) (cm_v (i := 3) rfl vs__declare_many nd_many.1 nd_many.2) (cm_int) rfl) (ca_cons (cm_str) (ca_nil) rfl) rfl) nd__require.1 rfl rfl) rfl)
  (cs_cons (c1_expr (cm_call C__require (hr.mono (by decide)) g__declare__require (ca_cons (cm_and (cm_call C_is_name (hr.mono (by decide)) g__declare_is_name (ca_cons (cm_v (i := 2) rfl vs__declare_name nd_name.1 nd_name.2) (ca_nil) rfl) nd_is_name.1 rfl rfl) (cm_one (cm_cmp (cmo_notInD hr) (cm_v (i := 2) rfl vs__declare_name nd_name.1 nd_name.2) (cm_v (i := 1) rfl vs__declare_scope nd_scope.1 nd_scope.2) rfl))) (ca_cons (cm_str) (ca_nil) rfl) rfl) nd__require.1 rfl rfl) rfl)
  (cs_one (c1_dput hr (cm_v (i := 1) rfl vs__declare_scope nd_scope.1 nd_scope.2) (cm_v (i := 2) rfl vs__declare_name nd_name.1 nd_name.2) (cm_v (i := 3) rfl vs__declare_many nd_many.1 nd_many.2) rfl)))) rfl pass_cx (fun _ => rfl))
abbrev s__count : Stmt := top 21
abbrev N__count : List Str := ["body", "many", "deep", "loops", "statement", "rows", "own", "row", "inner"]
theorem sc__count : FnScope N__count ["body"] (defScope s__count) := ⟨rfl, rfl, rfl, by decide +kernel, rfl, by decide +kernel, by decide +kernel⟩
theorem lo__count_body : Loc (defScope s__count) "body" := by first | exact .inl rfl | exact .inr rfl
theorem vs__count_body : Vis (defScope s__count) "body" := lo__count_body.elim .inl fun z => .inr (.inl z)
theorem lo__count_many : Loc (defScope s__count) "many" := by first | exact .inl rfl | exact .inr rfl
theorem vs__count_many : Vis (defScope s__count) "many" := lo__count_many.elim .inl fun z => .inr (.inl z)
theorem lo__count_deep : Loc (defScope s__count) "deep" := by first | exact .inl rfl | exact .inr rfl
theorem vs__count_deep : Vis (defScope s__count) "deep" := lo__count_deep.elim .inl fun z => .inr (.inl z)
theorem lo__count_loops : Loc (defScope s__count) "loops" := by first | exact .inl rfl | exact .inr rfl
theorem vs__count_loops : Vis (defScope s__count) "loops" := lo__count_loops.elim .inl fun z => .inr (.inl z)
theorem lo__count_statement : Loc (defScope s__count) "statement" := by first | exact .inl rfl | exact .inr rfl
theorem vs__count_statement : Vis (defScope s__count) "statement" := lo__count_statement.elim .inl fun z => .inr (.inl z)
theorem lo__count_rows : Loc (defScope s__count) "rows" := by first | exact .inl rfl | exact .inr rfl
theorem vs__count_rows : Vis (defScope s__count) "rows" := lo__count_rows.elim .inl fun z => .inr (.inl z)
theorem lo__count_own : Loc (defScope s__count) "own" := by first | exact .inl rfl | exact .inr rfl
theorem vs__count_own : Vis (defScope s__count) "own" := lo__count_own.elim .inl fun z => .inr (.inl z)
theorem lo__count_row : Loc (defScope s__count) "row" := by first | exact .inl rfl | exact .inr rfl
theorem vs__count_row : Vis (defScope s__count) "row" := lo__count_row.elim .inl fun z => .inr (.inl z)
theorem lo__count_inner : Loc (defScope s__count) "inner" := by first | exact .inl rfl | exact .inr rfl
theorem vs__count_inner : Vis (defScope s__count) "inner" := lo__count_inner.elim .inl fun z => .inr (.inl z)
theorem g__count_len : (defScope s__count).names.lookup ("len" : Str) = some .globalImplicit := rfl
theorem g__count__count : (defScope s__count).names.lookup ("_count" : Str) = some .globalImplicit := rfl
theorem g__count_max : (defScope s__count).names.lookup ("max" : Str) = some .globalImplicit := rfl
def B__count (CS : Nat → Addr) (R : Nat → FT) : FT := fnT 9 (sCo (sSet 1 (eCB cLen (aC (eV 0) (aN)))) (
  sCo (sSet 2 (eC (.int 0))) (
  sCo (sSet 3 (eC (.int 0))) (
  sCo (sFor (gName 4) (iSeq (eV 0)) (sCo (sSet 5 (eLst (aN))) (
  sCo (sSet 6 (eC (.int 0))) (
  sCo (sIf (tCmp oEq (eIx oIx (eV 4) (eC (.int 0))) (eC (.str "if"))) (sSet 5 (eLst (aC (eIx oIx (eV 4) (eC (.int 2))) (aC (eIx oIx (eV 4) (eC (.int 3))) (aN))))) (sIf (tCmp oEq (eIx oIx (eV 4) (eC (.int 0))) (eC (.str "loop"))) (sCo (sSet 5 (eLst (aC (eIx oIx (eV 4) (eC (.int 4))) (aN)))) (
  sSet 6 (eC (.int 1)))) (sNo))) (
  sFor (gName 7) (iSeq (eV 5)) (sCo (sSet 8 (eCall (R 0) (aC (eV 7) (aN)))) (
  sCo (sSet 1 (eBin oAdd (eV 1) (eIx oIx (eV 8) (eC (.int 0))))) (
  sCo (sSet 2 (eCB cMax (aC (eV 2) (aC (eIx oIx (eV 8) (eC (.int 1))) (aN))))) (
  sSet 3 (eCB cMax (aC (eV 3) (aC (eBin oAdd (eV 6) (eIx oIx (eV 8) (eC (.int 2)))) (aN))))))))))))) (
  sRet (eTup (aC (eV 1) (aC (eBin oAdd (eC (.int 1)) (eV 2)) (aC (eV 3) (aN))))))))))
theorem ok__count {f : Addr} {fd : FuncData} {CS : Nat → Addr} {lv : Nat} {R : Nat → FT} (hl : 0 ≤ lv) (F : Fun K "_count" "_count" s__count f fd) (T : Txt w K mg CS) (C__count : CalX P w K mg base lv "_count" 1 (R 0)) : FnOk P w K mg base (L2.CX P w) (lv + 1) f fd ["body"] (spX K 1 (B__count CS R)) :=
  okX F sc__count rfl rfl (by decide) fun cdv A outer s H E hr =>
  cs_cons (c1_set sc__count.nd rfl lo__count_many (cm_callB cmc_len bb_len T.b_len g__count_len (ca_cons (cm_v (i := 0) rfl vs__count_body nd_body.1 nd_body.2) (ca_nil) rfl) nn_len nd_len.1 rfl rfl) rfl (.inl rfl))
  (cs_cons (c1_set sc__count.nd rfl lo__count_deep (cm_int) rfl (.inl rfl))
  (cs_cons (c1_set sc__count.nd rfl lo__count_loops (cm_int) rfl (.inl rfl))
  (cs_cons (c1_for (cg_name sc__count.nd rfl lo__count_statement (.inl rfl)) (ci_seq (cm_v (i := 0) rfl vs__count_body nd_body.1 nd_body.2)) (cs_cons (c1_set sc__count.nd rfl lo__count_rows (cm_lst (ca_nil) (by decide)) rfl (.inl rfl))
  (cs_cons (c1_set sc__count.nd rfl lo__count_own (cm_int) rfl (.inl rfl))
  (cs_cons (c1_if (ct_cmp (cmo_eq hr) (cm_ix cmi_ix (cm_v (i := 4) rfl vs__count_statement nd_statement.1 nd_statement.2) (cm_int) (fun _ _ => rfl)) (cm_str) rfl) (cs_one (c1_set sc__count.nd rfl lo__count_rows (cm_lst (ca_cons (cm_ix cmi_ix (cm_v (i := 4) rfl vs__count_statement nd_statement.1 nd_statement.2) (cm_int) (fun _ _ => rfl)) (ca_cons (cm_ix cmi_ix (cm_v (i := 4) rfl vs__count_statement nd_statement.1 nd_statement.2) (cm_int) (fun _ _ => rfl)) (ca_nil) rfl) rfl) (by decide)) rfl (.inl rfl))) (cs_one (c1_if (ct_cmp (cmo_eq hr) (cm_ix cmi_ix (cm_v (i := 4) rfl vs__count_statement nd_statement.1 nd_statement.2) (cm_int) (fun _ _ => rfl)) (cm_str) rfl) (cs_cons (c1_set sc__count.nd rfl lo__count_rows (cm_lst (ca_cons (cm_ix cmi_ix (cm_v (i := 4) rfl vs__count_statement nd_statement.1 nd_statement.2) (cm_int) (fun _ _ => rfl)) (ca_nil) rfl) (by decide)) rfl (.inl rfl))
  (cs_one (c1_set sc__count.nd rfl lo__count_own (cm_int) rfl (.inl rfl)))) (cs_nil))))
  (cs_one (c1_for (cg_name sc__count.nd rfl lo__count_row (.inl rfl)) (ci_seq (cm_v (i := 5) rfl vs__count_rows nd_rows.1 nd_rows.2)) (cs_cons (c1_set sc__count.nd rfl lo__count_inner (cm_call C__count (hr.mono (by omega)) g__count__count (ca_cons (cm_v (i := 7) rfl vs__count_row nd_row.1 nd_row.2) (ca_nil) rfl) nd__count.1 rfl rfl) rfl (.inl rfl))
  (cs_cons (c1_set sc__count.nd rfl lo__count_many (cm_bin cmo_add (cm_v (i := 1) rfl vs__count_many nd_many.1 nd_many.2) (cm_ix cmi_ix (cm_v (i := 8) rfl vs__count_inner nd_inner.1 nd_inner.2) (cm_int) (fun _ _ => rfl))) rfl (.inl rfl))
  (cs_cons (c1_set sc__count.nd rfl lo__count_deep (cm_callB (cmc_max rfl) bb_max T.b_max g__count_max (ca_cons (cm_v (i := 2) rfl vs__count_deep nd_deep.1 nd_deep.2) (ca_cons (cm_ix cmi_ix (cm_v (i := 8) rfl vs__count_inner nd_inner.1 nd_inner.2) (cm_int) (fun _ _ => rfl)) (ca_nil) rfl) rfl) nn_max nd_max.1 rfl rfl) rfl (.inl rfl))
  (cs_one (c1_set sc__count.nd rfl lo__count_loops (cm_callB (cmc_max rfl) bb_max T.b_max g__count_max (ca_cons (cm_v (i := 3) rfl vs__count_loops nd_loops.1 nd_loops.2) (ca_cons (cm_bin cmo_add (cm_v (i := 6) rfl vs__count_own nd_own.1 nd_own.2) (cm_ix cmi_ix (cm_v (i := 8) rfl vs__count_inner nd_inner.1 nd_inner.2) (cm_int) (fun _ _ => rfl))) (ca_nil) rfl) rfl) nn_max nd_max.1 rfl rfl) rfl (.inl rfl)))))) rfl pass_cx (fun _ => rfl)))))) rfl pass_cx (fun _ => rfl))
  (cs_one (c1_ret (cm_tup (ca_cons (cm_v (i := 1) rfl vs__count_many nd_many.1 nd_many.2) (ca_cons (cm_bin cmo_add (cm_int) (cm_v (i := 2) rfl vs__count_deep nd_deep.1 nd_deep.2)) (ca_cons (cm_v (i := 3) rfl vs__count_loops nd_loops.1 nd_loops.2) (ca_nil) rfl) rfl) rfl) (by decide)))))))
def TS_0 (CS : Nat → Addr) : Nat → Nat → FT
  | 0 => fun _ => noT
  | n + 1 => fun i => match i with | _ => B__count CS (TS_0 CS n)
def T__count (CS : Nat → Addr) : FT := TS_0 CS 10 0
abbrev s__check_cells : Stmt := top 17
abbrev N__check_cells : List Str := ["e", "scope"]
theorem sc__check_cells : FnScope N__check_cells ["e", "scope"] (defScope s__check_cells) := ⟨rfl, rfl, rfl, by decide +kernel, rfl, by decide +kernel, by decide +kernel⟩
theorem lo__check_cells_e : Loc (defScope s__check_cells) "e" := by first | exact .inl rfl | exact .inr rfl
theorem vs__check_cells_e : Vis (defScope s__check_cells) "e" := lo__check_cells_e.elim .inl fun z => .inr (.inl z)
theorem lo__check_cells_scope : Loc (defScope s__check_cells) "scope" := by first | exact .inl rfl | exact .inr rfl
theorem vs__check_cells_scope : Vis (defScope s__check_cells) "scope" := lo__check_cells_scope.elim .inl fun z => .inr (.inl z)
theorem g__check_cells__require : (defScope s__check_cells).names.lookup ("_require" : Str) = some .globalImplicit := rfl
theorem g__check_cells__check_cells : (defScope s__check_cells).names.lookup ("_check_cells" : Str) = some .globalImplicit := rfl
def B__check_cells (CS : Nat → Addr) (R : Nat → FT) : FT := fnT 2 (sIf (tCmp oEq (eIx oIx (eV 0) (eC (.int 0))) (eC (.str "cell"))) (sExpr (eCall (T__require CS) (aC (eBin oLe (eDGet2 (eV 1) (eIx oIx (eV 0) (eC (.int 1))) (eC (.int 1))) (eC (.int 0))) (aC (eC (.str "cell")) (aN))))) (sIf (tCmp oEq (eIx oIx (eV 0) (eC (.int 0))) (eC (.str "at"))) (sCo (sExpr (eCall (T__require CS) (aC (eBin oGt (eDGet2 (eV 1) (eIx oIx (eV 0) (eC (.int 1))) (eC (.int 0))) (eC (.int 0))) (aC (eC (.str "cell")) (aN))))) (
  sExpr (eCall (R 0) (aC (eIx oIx (eV 0) (eC (.int 2))) (aC (eV 1) (aN)))))) (sIf (tCmp oNe (eIx oIx (eV 0) (eC (.int 0))) (eC (.str "num"))) (sCo (sExpr (eCall (R 0) (aC (eIx oIx (eV 0) (eC (.int 1))) (aC (eV 1) (aN))))) (
  sIf (tCmp oNotIn (eIx oIx (eV 0) (eC (.int 0))) (eTup (aC (eC (.str "neg")) (aC (eC (.str "inv")) (aC (eC (.str "not")) (aN)))))) (sExpr (eCall (R 0) (aC (eIx oIx (eV 0) (eC (.int 2))) (aC (eV 1) (aN))))) (sNo))) (sNo))))
theorem ok__check_cells {f : Addr} {fd : FuncData} {CS : Nat → Addr} {lv : Nat} {R : Nat → FT} (hl : 3 ≤ lv) (F : Fun K "_check_cells" "_check_cells" s__check_cells f fd) (T : Txt w K mg CS) (C__require : CalX P w K mg base 3 "_require" 2 (T__require CS)) (C__check_cells : CalX P w K mg base lv "_check_cells" 2 (R 0)) : FnOk P w K mg base (L2.CX P w) (lv + 1) f fd ["e", "scope"] (spX K 2 (B__check_cells CS R)) :=
  okX F sc__check_cells rfl rfl (by decide) fun cdv A outer s H E hr =>
  cs_one (c1_if (ct_cmp (cmo_eq hr) (cm_ix cmi_ix (cm_v (i := 0) rfl vs__check_cells_e nd_e.1 nd_e.2) (cm_int) (fun _ _ => rfl)) (cm_str) rfl) (cs_one (c1_expr (cm_call C__require (hr.mono (by omega)) g__check_cells__require (ca_cons (cm_cmp cmo_le (cm_dget2 hr (cm_v (i := 1) rfl vs__check_cells_scope nd_scope.1 nd_scope.2) (cm_ix cmi_ix (cm_v (i := 0) rfl vs__check_cells_e nd_e.1 nd_e.2) (cm_int) (fun _ _ => rfl)) (cm_int) ⟨rfl, rfl, rfl, rfl⟩) (cm_int) rfl) (ca_cons (cm_str) (ca_nil) rfl) rfl) nd__require.1 rfl rfl) rfl)) (cs_one (c1_if (ct_cmp (cmo_eq hr) (cm_ix cmi_ix (cm_v (i := 0) rfl vs__check_cells_e nd_e.1 nd_e.2) (cm_int) (fun _ _ => rfl)) (cm_str) rfl) (cs_cons (c1_expr (cm_call C__require (hr.mono (by omega)) g__check_cells__require (ca_cons (cm_cmp cmo_gt (cm_dget2 hr (cm_v (i := 1) rfl vs__check_cells_scope nd_scope.1 nd_scope.2) (cm_ix cmi_ix (cm_v (i := 0) rfl vs__check_cells_e nd_e.1 nd_e.2) (cm_int) (fun _ _ => rfl)) (cm_int) ⟨rfl, rfl, rfl, rfl⟩) (cm_int) rfl) (ca_cons (cm_str) (ca_nil) rfl) rfl) nd__require.1 rfl rfl) rfl)
  (cs_one (c1_expr (cm_call C__check_cells (hr.mono (by omega)) g__check_cells__check_cells (ca_cons (cm_ix cmi_ix (cm_v (i := 0) rfl vs__check_cells_e nd_e.1 nd_e.2) (cm_int) (fun _ _ => rfl)) (ca_cons (cm_v (i := 1) rfl vs__check_cells_scope nd_scope.1 nd_scope.2) (ca_nil) rfl) rfl) nd__check_cells.1 rfl rfl) rfl))) (cs_one (c1_if (ct_cmp (cmo_ne hr) (cm_ix cmi_ix (cm_v (i := 0) rfl vs__check_cells_e nd_e.1 nd_e.2) (cm_int) (fun _ _ => rfl)) (cm_str) rfl) (cs_cons (c1_expr (cm_call C__check_cells (hr.mono (by omega)) g__check_cells__check_cells (ca_cons (cm_ix cmi_ix (cm_v (i := 0) rfl vs__check_cells_e nd_e.1 nd_e.2) (cm_int) (fun _ _ => rfl)) (ca_cons (cm_v (i := 1) rfl vs__check_cells_scope nd_scope.1 nd_scope.2) (ca_nil) rfl) rfl) nd__check_cells.1 rfl rfl) rfl)
  (cs_one (c1_if (ct_cmp cmo_notIn (cm_ix cmi_ix (cm_v (i := 0) rfl vs__check_cells_e nd_e.1 nd_e.2) (cm_int) (fun _ _ => rfl)) (cm_tup (ca_cons (cm_str) (ca_cons (cm_str) (ca_cons (cm_str) (ca_nil) rfl) rfl) rfl) (by decide)) rfl) (cs_one (c1_expr (cm_call C__check_cells (hr.mono (by omega)) g__check_cells__check_cells (ca_cons (cm_ix cmi_ix (cm_v (i := 0) rfl vs__check_cells_e nd_e.1 nd_e.2) (cm_int) (fun _ _ => rfl)) (ca_cons (cm_v (i := 1) rfl vs__check_cells_scope nd_scope.1 nd_scope.2) (ca_nil) rfl) rfl) nd__check_cells.1 rfl rfl) rfl)) (cs_nil)))) (cs_nil))))))
def TS_1 (CS : Nat → Addr) : Nat → Nat → FT
  | 0 => fun _ => noT
  | n + 1 => fun i => match i with | _ => B__check_cells CS (TS_1 CS n)
def T__check_cells (CS : Nat → Addr) : FT := TS_1 CS 10 0
abbrev s_parts : Stmt := top 8
abbrev N_parts : List Str := ["e"]
theorem sc_parts : FnScope N_parts ["e"] (defScope s_parts) := ⟨rfl, rfl, rfl, by decide +kernel, rfl, by decide +kernel, by decide +kernel⟩
theorem lo_parts_e : Loc (defScope s_parts) "e" := by first | exact .inl rfl | exact .inr rfl
theorem vs_parts_e : Vis (defScope s_parts) "e" := lo_parts_e.elim .inl fun z => .inr (.inl z)
theorem g_parts_UNARY : (defScope s_parts).names.lookup ("UNARY" : Str) = some .globalImplicit := rfl
def T_parts (CS : Nat → Addr) : FT := fnT 1 (sCo (sIf (tOr (tCmp oEq (eIx oIx (eV 0) (eC (.int 0))) (eC (.str "num"))) (tCmp oEq (eIx oIx (eV 0) (eC (.int 0))) (eC (.str "cell")))) (sRet (eLst (aN))) (sNo)) (
  sCo (sIf (tCmp oEq (eIx oIx (eV 0) (eC (.int 0))) (eC (.str "at"))) (sRet (eLst (aC (eIx oIx (eV 0) (eC (.int 2))) (aN)))) (sNo)) (
  sCo (sIf (tCmp (oInC (CS 3) ["neg", "inv", "not"]) (eIx oIx (eV 0) (eC (.int 0))) (eC (.ref (CS 3)))) (sRet (eLst (aC (eIx oIx (eV 0) (eC (.int 1))) (aN)))) (sNo)) (
  sRet (eLst (aC (eIx oIx (eV 0) (eC (.int 1))) (aC (eIx oIx (eV 0) (eC (.int 2))) (aN))))))))
theorem ok_parts {f : Addr} {fd : FuncData} {CS : Nat → Addr} (F : Fun K "parts" "parts" s_parts f fd) (T : Txt w K mg CS) : FnOk P w K mg base (L2.CX P w) 1 f fd ["e"] (spX K 1 (T_parts CS)) :=
  okX F sc_parts rfl rfl (by decide) fun cdv A outer s H E hr =>
  cs_cons (c1_if (ct_pw (cpw_or (ct_cmp (cmo_eq hr) (cm_ix cmi_ix (cm_v (i := 0) rfl vs_parts_e nd_e.1 nd_e.2) (cm_int) (fun _ _ => rfl)) (cm_str) rfl) (cpw_or1 (ct_cmp (cmo_eq hr) (cm_ix cmi_ix (cm_v (i := 0) rfl vs_parts_e nd_e.1 nd_e.2) (cm_int) (fun _ _ => rfl)) (cm_str) rfl)))) (cs_one (c1_ret (cm_lst (ca_nil) (by decide)))) (cs_nil))
  (cs_cons (c1_if (ct_cmp (cmo_eq hr) (cm_ix cmi_ix (cm_v (i := 0) rfl vs_parts_e nd_e.1 nd_e.2) (cm_int) (fun _ _ => rfl)) (cm_str) rfl) (cs_one (c1_ret (cm_lst (ca_cons (cm_ix cmi_ix (cm_v (i := 0) rfl vs_parts_e nd_e.1 nd_e.2) (cm_int) (fun _ _ => rfl)) (ca_nil) rfl) (by decide)))) (cs_nil))
  (cs_cons (c1_if (ct_cmp (cmo_inC T.kd_UNARY) (cm_ix cmi_ix (cm_v (i := 0) rfl vs_parts_e nd_e.1 nd_e.2) (cm_int) (fun _ _ => rfl)) (cm_glob T.c_UNARY g_parts_UNARY nd_UNARY.1) rfl) (cs_one (c1_ret (cm_lst (ca_cons (cm_ix cmi_ix (cm_v (i := 0) rfl vs_parts_e nd_e.1 nd_e.2) (cm_int) (fun _ _ => rfl)) (ca_nil) rfl) (by decide)))) (cs_nil))
  (cs_one (c1_ret (cm_lst (ca_cons (cm_ix cmi_ix (cm_v (i := 0) rfl vs_parts_e nd_e.1 nd_e.2) (cm_int) (fun _ _ => rfl)) (ca_cons (cm_ix cmi_ix (cm_v (i := 0) rfl vs_parts_e nd_e.1 nd_e.2) (cm_int) (fun _ _ => rfl)) (ca_nil) rfl) rfl) (by decide))))))
abbrev s_depth : Stmt := top 9
abbrev N_depth : List Str := ["e", "part"]
theorem sc_depth : FnScope N_depth ["e"] (defScope s_depth) := ⟨rfl, rfl, rfl, by decide +kernel, rfl, by decide +kernel, by decide +kernel⟩
theorem lo_depth_e : Loc (defScope s_depth) "e" := by first | exact .inl rfl | exact .inr rfl
theorem vs_depth_e : Vis (defScope s_depth) "e" := lo_depth_e.elim .inl fun z => .inr (.inl z)
theorem g_depth_max : (defScope s_depth).names.lookup ("max" : Str) = some .globalImplicit := rfl
theorem g_depth_parts : (defScope s_depth).names.lookup ("parts" : Str) = some .globalImplicit := rfl
def B_depth (CS : Nat → Addr) (R : Nat → FT) : FT := fnT 2 (sRet (eBin oAdd (eC (.int 1)) (eMaxD (eLc false [1] (b1 1) (iSeq (eCall (T_parts CS) (aC (eV 0) (aN)))) (tYes) (eCall (R 0) (aC (eV 1) (aN)))) (eC (.int 0)))))
theorem ok_depth {f : Addr} {fd : FuncData} {CS : Nat → Addr} {lv : Nat} {R : Nat → FT} (hl : 1 ≤ lv) (F : Fun K "depth" "depth" s_depth f fd) (T : Txt w K mg CS) (C_depth : CalX P w K mg base lv "depth" 1 (R 0)) (C_parts : CalX P w K mg base 1 "parts" 1 (T_parts CS)) : FnOk P w K mg base (L2.CX P w) (lv + 1) f fd ["e"] (spX K 1 (B_depth CS R)) :=
  okX F sc_depth rfl rfl (by decide) fun cdv A outer s H E hr =>
  cs_one (c1_ret (cm_bin cmo_add (cm_int) (cm_maxD rfl hr g_depth_max T.b_max (cm_lc (own := [("part", 1)]) rfl sc_depth.nd (blkOk_by (N := N_depth) (sc := defScope s_depth) (by decide +kernel)) (bind1 (by decide)) (fun _ _ _ _ _ => L2.pg_name sc_depth.nd (i := 1) rfl (.inl rfl) (.inr rfl)) (ci_seq (cm_call C_parts (hr.mono (by omega)) g_depth_parts (ca_cons (cm_v (i := 0) rfl vs_depth_e nd_e.1 nd_e.2) (ca_nil) rfl) nd_parts.1 rfl rfl)) (fun _ _ _ _ _ => cts_nil) (fun _ _ _ _ _ => cm_call C_depth (hr.mono (by omega)) rfl (ca_cons (cm_v (i := 1) rfl (by first | exact Or.inl rfl | exact Or.inr (Or.inl rfl) | exact Or.inr (Or.inr rfl)) nd_part.1 nd_part.2) (ca_nil) rfl) nd_depth.1 rfl rfl) (fun _ => rfl)) (cm_int) rfl rfl)))
def TS_2 (CS : Nat → Addr) : Nat → Nat → FT
  | 0 => fun _ => noT
  | n + 1 => fun i => match i with | _ => B_depth CS (TS_2 CS n)
def T_depth (CS : Nat → Addr) : FT := TS_2 CS 10 0
abbrev s_size : Stmt := top 10
abbrev N_size : List Str := ["e", "part"]
theorem sc_size : FnScope N_size ["e"] (defScope s_size) := ⟨rfl, rfl, rfl, by decide +kernel, rfl, by decide +kernel, by decide +kernel⟩
theorem lo_size_e : Loc (defScope s_size) "e" := by first | exact .inl rfl | exact .inr rfl
theorem vs_size_e : Vis (defScope s_size) "e" := lo_size_e.elim .inl fun z => .inr (.inl z)
theorem g_size_sum : (defScope s_size).names.lookup ("sum" : Str) = some .globalImplicit := rfl
theorem g_size_parts : (defScope s_size).names.lookup ("parts" : Str) = some .globalImplicit := rfl
def B_size (CS : Nat → Addr) (R : Nat → FT) : FT := fnT 2 (sRet (eBin oAdd (eC (.int 1)) (eCB cSum (aC (eLc false [1] (b1 1) (iSeq (eCall (T_parts CS) (aC (eV 0) (aN)))) (tYes) (eCall (R 0) (aC (eV 1) (aN)))) (aN)))))
theorem ok_size {f : Addr} {fd : FuncData} {CS : Nat → Addr} {lv : Nat} {R : Nat → FT} (hl : 1 ≤ lv) (F : Fun K "size" "size" s_size f fd) (T : Txt w K mg CS) (C_size : CalX P w K mg base lv "size" 1 (R 0)) (C_parts : CalX P w K mg base 1 "parts" 1 (T_parts CS)) : FnOk P w K mg base (L2.CX P w) (lv + 1) f fd ["e"] (spX K 1 (B_size CS R)) :=
  okX F sc_size rfl rfl (by decide) fun cdv A outer s H E hr =>
  cs_one (c1_ret (cm_bin cmo_add (cm_int) (cm_callB (cmc_sum rfl) bb_sum T.b_sum g_size_sum (ca_cons (cm_lc (own := [("part", 1)]) rfl sc_size.nd (blkOk_by (N := N_size) (sc := defScope s_size) (by decide +kernel)) (bind1 (by decide)) (fun _ _ _ _ _ => L2.pg_name sc_size.nd (i := 1) rfl (.inl rfl) (.inr rfl)) (ci_seq (cm_call C_parts (hr.mono (by omega)) g_size_parts (ca_cons (cm_v (i := 0) rfl vs_size_e nd_e.1 nd_e.2) (ca_nil) rfl) nd_parts.1 rfl rfl)) (fun _ _ _ _ _ => cts_nil) (fun _ _ _ _ _ => cm_call C_size (hr.mono (by omega)) rfl (ca_cons (cm_v (i := 1) rfl (by first | exact Or.inl rfl | exact Or.inr (Or.inl rfl) | exact Or.inr (Or.inr rfl)) nd_part.1 nd_part.2) (ca_nil) rfl) nd_size.1 rfl rfl) (fun _ => rfl)) (ca_nil) rfl) nn_sum nd_sum.1 rfl rfl)))
def TS_3 (CS : Nat → Addr) : Nat → Nat → FT
  | 0 => fun _ => noT
  | n + 1 => fun i => match i with | _ => B_size CS (TS_3 CS n)
def T_size (CS : Nat → Addr) : FT := TS_3 CS 10 0
abbrev s__check_expression : Stmt := top 18
abbrev N__check_expression : List Str := ["e", "scope", "deepest"]
theorem sc__check_expression : FnScope N__check_expression ["e", "scope", "deepest"] (defScope s__check_expression) := ⟨rfl, rfl, rfl, by decide +kernel, rfl, by decide +kernel, by decide +kernel⟩
theorem lo__check_expression_e : Loc (defScope s__check_expression) "e" := by first | exact .inl rfl | exact .inr rfl
theorem vs__check_expression_e : Vis (defScope s__check_expression) "e" := lo__check_expression_e.elim .inl fun z => .inr (.inl z)
theorem lo__check_expression_scope : Loc (defScope s__check_expression) "scope" := by first | exact .inl rfl | exact .inr rfl
theorem vs__check_expression_scope : Vis (defScope s__check_expression) "scope" := lo__check_expression_scope.elim .inl fun z => .inr (.inl z)
theorem lo__check_expression_deepest : Loc (defScope s__check_expression) "deepest" := by first | exact .inl rfl | exact .inr rfl
theorem vs__check_expression_deepest : Vis (defScope s__check_expression) "deepest" := lo__check_expression_deepest.elim .inl fun z => .inr (.inl z)
theorem g__check_expression__require : (defScope s__check_expression).names.lookup ("_require" : Str) = some .globalImplicit := rfl
theorem g__check_expression_depth : (defScope s__check_expression).names.lookup ("depth" : Str) = some .globalImplicit := rfl
theorem g__check_expression_size : (defScope s__check_expression).names.lookup ("size" : Str) = some .globalImplicit := rfl
theorem g__check_expression__check_cells : (defScope s__check_expression).names.lookup ("_check_cells" : Str) = some .globalImplicit := rfl
def T__check_expression (CS : Nat → Addr) : FT := fnT 3 (sCo (sExpr (eCall (T__require CS) (aC (eAnd (eBin oLe (eCall (T_depth CS) (aC (eV 0) (aN))) (eV 2)) (eBin oLe (eCall (T_size CS) (aC (eV 0) (aN))) (eC (.int 40)))) (aC (eC (.str "size")) (aN))))) (
  sExpr (eCall (T__check_cells CS) (aC (eV 0) (aC (eV 1) (aN))))))
theorem ok__check_expression {f : Addr} {fd : FuncData} {CS : Nat → Addr} (F : Fun K "_check_expression" "_check_expression" s__check_expression f fd) (T : Txt w K mg CS) (C__require : CalX P w K mg base 3 "_require" 2 (T__require CS)) (C__check_cells : CalX P w K mg base 14 "_check_cells" 2 (T__check_cells CS)) (C_depth : CalX P w K mg base 12 "depth" 1 (T_depth CS)) (C_size : CalX P w K mg base 12 "size" 1 (T_size CS)) : FnOk P w K mg base (L2.CX P w) 15 f fd ["e", "scope", "deepest"] (spX K 3 (T__check_expression CS)) :=
  okX F sc__check_expression rfl rfl (by decide) fun cdv A outer s H E hr =>
  cs_cons (c1_expr (cm_call C__require (hr.mono (by decide)) g__check_expression__require (ca_cons (cm_and (cm_cmp cmo_le (cm_call C_depth (hr.mono (by decide)) g__check_expression_depth (ca_cons (cm_v (i := 0) rfl vs__check_expression_e nd_e.1 nd_e.2) (ca_nil) rfl) nd_depth.1 rfl rfl) (cm_v (i := 2) rfl vs__check_expression_deepest nd_deepest.1 nd_deepest.2) rfl) (cm_one (cm_cmp cmo_le (cm_call C_size (hr.mono (by decide)) g__check_expression_size (ca_cons (cm_v (i := 0) rfl vs__check_expression_e nd_e.1 nd_e.2) (ca_nil) rfl) nd_size.1 rfl rfl) (cm_int) rfl))) (ca_cons (cm_str) (ca_nil) rfl) rfl) nd__require.1 rfl rfl) rfl)
  (cs_one (c1_expr (cm_call C__check_cells (hr.mono (by decide)) g__check_expression__check_cells (ca_cons (cm_v (i := 0) rfl vs__check_expression_e nd_e.1 nd_e.2) (ca_cons (cm_v (i := 1) rfl vs__check_expression_scope nd_scope.1 nd_scope.2) (ca_nil) rfl) rfl) nd__check_cells.1 rfl rfl) rfl))
abbrev s__check_index : Stmt := top 19
abbrev N__check_index : List Str := ["place", "scope"]
theorem sc__check_index : FnScope N__check_index ["place", "scope"] (defScope s__check_index) := ⟨rfl, rfl, rfl, by decide +kernel, rfl, by decide +kernel, by decide +kernel⟩
theorem lo__check_index_place : Loc (defScope s__check_index) "place" := by first | exact .inl rfl | exact .inr rfl
theorem vs__check_index_place : Vis (defScope s__check_index) "place" := lo__check_index_place.elim .inl fun z => .inr (.inl z)
theorem lo__check_index_scope : Loc (defScope s__check_index) "scope" := by first | exact .inl rfl | exact .inr rfl
theorem vs__check_index_scope : Vis (defScope s__check_index) "scope" := lo__check_index_scope.elim .inl fun z => .inr (.inl z)
theorem g__check_index__check_expression : (defScope s__check_index).names.lookup ("_check_expression" : Str) = some .globalImplicit := rfl
def T__check_index (CS : Nat → Addr) : FT := fnT 2 (sIf (tAnd (tCmp oNotN (eV 0) (eC .non)) (tCmp oEq (eIx oIx (eV 0) (eC (.int 0))) (eC (.str "at")))) (sExpr (eCall (T__check_expression CS) (aC (eIx oIx (eV 0) (eC (.int 2))) (aC (eV 1) (aC (eC (.int 6)) (aN)))))) (sNo))
theorem ok__check_index {f : Addr} {fd : FuncData} {CS : Nat → Addr} (F : Fun K "_check_index" "_check_index" s__check_index f fd) (T : Txt w K mg CS) (C__check_expression : CalX P w K mg base 15 "_check_expression" 3 (T__check_expression CS)) : FnOk P w K mg base (L2.CX P w) 16 f fd ["place", "scope"] (spX K 2 (T__check_index CS)) :=
  okX F sc__check_index rfl rfl (by decide) fun cdv A outer s H E hr =>
  cs_one (c1_if (ct_pw (cpw_and (ct_cmp cmo_notN (cm_v (i := 0) rfl vs__check_index_place nd_place.1 nd_place.2) (cm_non) rfl) (cpw_and1 (ct_cmp (cmo_eq hr) (cm_ix cmi_ix (cm_v (i := 0) rfl vs__check_index_place nd_place.1 nd_place.2) (cm_int) (fun _ _ => rfl)) (cm_str) rfl)))) (cs_one (c1_expr (cm_call C__check_expression (hr.mono (by decide)) g__check_index__check_expression (ca_cons (cm_ix cmi_ix (cm_v (i := 0) rfl vs__check_index_place nd_place.1 nd_place.2) (cm_int) (fun _ _ => rfl)) (ca_cons (cm_v (i := 1) rfl vs__check_index_scope nd_scope.1 nd_scope.2) (ca_cons (cm_int) (ca_nil) rfl) rfl) rfl) nd__check_expression.1 rfl rfl) rfl)) (cs_nil))
abbrev s__check_place : Stmt := top 20
abbrev N__check_place : List Str := ["place", "scope"]
theorem sc__check_place : FnScope N__check_place ["place", "scope"] (defScope s__check_place) := ⟨rfl, rfl, rfl, by decide +kernel, rfl, by decide +kernel, by decide +kernel⟩
theorem lo__check_place_place : Loc (defScope s__check_place) "place" := by first | exact .inl rfl | exact .inr rfl
theorem vs__check_place_place : Vis (defScope s__check_place) "place" := lo__check_place_place.elim .inl fun z => .inr (.inl z)
theorem lo__check_place_scope : Loc (defScope s__check_place) "scope" := by first | exact .inl rfl | exact .inr rfl
theorem vs__check_place_scope : Vis (defScope s__check_place) "scope" := lo__check_place_scope.elim .inl fun z => .inr (.inl z)
theorem g__check_place__require : (defScope s__check_place).names.lookup ("_require" : Str) = some .globalImplicit := rfl
def T__check_place (CS : Nat → Addr) : FT := fnT 2 (sCo (sIf (tCmp oIsN (eV 0) (eC .non)) (sRetN) (sNo)) (
  sIf (tCmp oEq (eIx oIx (eV 0) (eC (.int 0))) (eC (.str "at"))) (sExpr (eCall (T__require CS) (aC (eBin oGt (eDGet2 (eV 1) (eIx oIx (eV 0) (eC (.int 1))) (eC (.int 0))) (eC (.int 0))) (aC (eC (.str "cell")) (aN))))) (sExpr (eCall (T__require CS) (aC (eBin oEq (eDGet2 (eV 1) (eIx oIx (eV 0) (eC (.int 1))) (eC (.int 1))) (eC (.int 0))) (aC (eC (.str "cell")) (aN)))))))
theorem ok__check_place {f : Addr} {fd : FuncData} {CS : Nat → Addr} (F : Fun K "_check_place" "_check_place" s__check_place f fd) (T : Txt w K mg CS) (C__require : CalX P w K mg base 3 "_require" 2 (T__require CS)) : FnOk P w K mg base (L2.CX P w) 4 f fd ["place", "scope"] (spX K 2 (T__check_place CS)) :=
  okX F sc__check_place rfl rfl (by decide) fun cdv A outer s H E hr =>
  cs_cons (c1_if (ct_cmp cmo_isN (cm_v (i := 0) rfl vs__check_place_place nd_place.1 nd_place.2) (cm_non) rfl) (cs_one (c1_retN)) (cs_nil))
  (cs_one (c1_if (ct_cmp (cmo_eq hr) (cm_ix cmi_ix (cm_v (i := 0) rfl vs__check_place_place nd_place.1 nd_place.2) (cm_int) (fun _ _ => rfl)) (cm_str) rfl) (cs_one (c1_expr (cm_call C__require (hr.mono (by decide)) g__check_place__require (ca_cons (cm_cmp cmo_gt (cm_dget2 hr (cm_v (i := 1) rfl vs__check_place_scope nd_scope.1 nd_scope.2) (cm_ix cmi_ix (cm_v (i := 0) rfl vs__check_place_place nd_place.1 nd_place.2) (cm_int) (fun _ _ => rfl)) (cm_int) ⟨rfl, rfl, rfl, rfl⟩) (cm_int) rfl) (ca_cons (cm_str) (ca_nil) rfl) rfl) nd__require.1 rfl rfl) rfl)) (cs_one (c1_expr (cm_call C__require (hr.mono (by decide)) g__check_place__require (ca_cons (cm_cmp (cmo_eq hr) (cm_dget2 hr (cm_v (i := 1) rfl vs__check_place_scope nd_scope.1 nd_scope.2) (cm_ix cmi_ix (cm_v (i := 0) rfl vs__check_place_place nd_place.1 nd_place.2) (cm_int) (fun _ _ => rfl)) (cm_int) ⟨rfl, rfl, rfl, rfl⟩) (cm_int) rfl) (ca_cons (cm_str) (ca_nil) rfl) rfl) nd__require.1 rfl rfl) rfl))))
abbrev s_find : Stmt := top 14
abbrev N_find : List Str := ["rows", "name", "k", "row"]
theorem sc_find : FnScope N_find ["rows", "name"] (defScope s_find) := ⟨rfl, rfl, rfl, by decide +kernel, rfl, by decide +kernel, by decide +kernel⟩
theorem lo_find_rows : Loc (defScope s_find) "rows" := by first | exact .inl rfl | exact .inr rfl
theorem vs_find_rows : Vis (defScope s_find) "rows" := lo_find_rows.elim .inl fun z => .inr (.inl z)
theorem lo_find_name : Loc (defScope s_find) "name" := by first | exact .inl rfl | exact .inr rfl
theorem vs_find_name : Vis (defScope s_find) "name" := lo_find_name.elim .inl fun z => .inr (.inl z)
theorem lo_find_k : Loc (defScope s_find) "k" := by first | exact .inl rfl | exact .inr rfl
theorem vs_find_k : Vis (defScope s_find) "k" := lo_find_k.elim .inl fun z => .inr (.inl z)
theorem lo_find_row : Loc (defScope s_find) "row" := by first | exact .inl rfl | exact .inr rfl
theorem vs_find_row : Vis (defScope s_find) "row" := lo_find_row.elim .inl fun z => .inr (.inl z)
theorem g_find_enumerate : (defScope s_find).names.lookup ("enumerate" : Str) = some .globalImplicit := rfl
def T_find (CS : Nat → Addr) : FT := fnT 4 (sCo (sFor (gTup 2 (gsC (gName 2) (gsC (gName 3) (gsN)))) (iEnA (eV 0)) (sIf (tCmp oEq (eIx oIx (eV 3) (eC (.int 1))) (eV 1)) (sRet (eV 2)) (sNo))) (
  sRet (eNeg (eC (.int 1)))))
theorem ok_find {f : Addr} {fd : FuncData} {CS : Nat → Addr} (F : Fun K "find" "find" s_find f fd) (T : Txt w K mg CS) : FnOk P w K mg base (L2.CX P w) 1 f fd ["rows", "name"] (spX K 2 (T_find CS)) :=
  okX F sc_find rfl rfl (by decide) fun cdv A outer s H E hr =>
  cs_cons (c1_for (cg_tup rfl (cgs_cons (cg_name sc_find.nd rfl lo_find_k (.inl rfl)) (cgs_cons (cg_name sc_find.nd rfl lo_find_row (.inl rfl)) (cgs_nil) rfl) rfl) rfl rfl) (ci_enA g_find_enumerate T.b_enumerate (cm_v (i := 0) rfl vs_find_rows nd_rows.1 nd_rows.2) rfl) (cs_one (c1_if (ct_cmp (cmo_eq hr) (cm_ix cmi_ix (cm_v (i := 3) rfl vs_find_row nd_row.1 nd_row.2) (cm_int) (fun _ _ => rfl)) (cm_v (i := 1) rfl vs_find_name nd_name.1 nd_name.2) rfl) (cs_one (c1_ret (cm_v (i := 2) rfl vs_find_k nd_k.1 nd_k.2))) (cs_nil))) rfl pass_cx (fun _ => rfl))
  (cs_one (c1_ret (cm_neg (cm_int))))
abbrev s_check_call : Stmt := top 23
abbrev N_check_call : List Str := ["objects", "name", "operation", "many", "owner", "at", "k"]
theorem sc_check_call : FnScope N_check_call ["objects", "name", "operation", "many", "owner"] (defScope s_check_call) := ⟨rfl, rfl, rfl, by decide +kernel, rfl, by decide +kernel, by decide +kernel⟩
theorem lo_check_call_objects : Loc (defScope s_check_call) "objects" := by first | exact .inl rfl | exact .inr rfl
theorem vs_check_call_objects : Vis (defScope s_check_call) "objects" := lo_check_call_objects.elim .inl fun z => .inr (.inl z)
theorem lo_check_call_name : Loc (defScope s_check_call) "name" := by first | exact .inl rfl | exact .inr rfl
theorem vs_check_call_name : Vis (defScope s_check_call) "name" := lo_check_call_name.elim .inl fun z => .inr (.inl z)
theorem lo_check_call_operation : Loc (defScope s_check_call) "operation" := by first | exact .inl rfl | exact .inr rfl
theorem vs_check_call_operation : Vis (defScope s_check_call) "operation" := lo_check_call_operation.elim .inl fun z => .inr (.inl z)
theorem lo_check_call_many : Loc (defScope s_check_call) "many" := by first | exact .inl rfl | exact .inr rfl
theorem vs_check_call_many : Vis (defScope s_check_call) "many" := lo_check_call_many.elim .inl fun z => .inr (.inl z)
theorem lo_check_call_owner : Loc (defScope s_check_call) "owner" := by first | exact .inl rfl | exact .inr rfl
theorem vs_check_call_owner : Vis (defScope s_check_call) "owner" := lo_check_call_owner.elim .inl fun z => .inr (.inl z)
theorem lo_check_call_at : Loc (defScope s_check_call) "at" := by first | exact .inl rfl | exact .inr rfl
theorem vs_check_call_at : Vis (defScope s_check_call) "at" := lo_check_call_at.elim .inl fun z => .inr (.inl z)
theorem lo_check_call_k : Loc (defScope s_check_call) "k" := by first | exact .inl rfl | exact .inr rfl
theorem vs_check_call_k : Vis (defScope s_check_call) "k" := lo_check_call_k.elim .inl fun z => .inr (.inl z)
theorem g_check_call_find : (defScope s_check_call).names.lookup ("find" : Str) = some .globalImplicit := rfl
theorem g_check_call__require : (defScope s_check_call).names.lookup ("_require" : Str) = some .globalImplicit := rfl
theorem g_check_call_len : (defScope s_check_call).names.lookup ("len" : Str) = some .globalImplicit := rfl
def T_check_call (CS : Nat → Addr) : FT := fnT 7 (sCo (sSet 5 (eCall (T_find CS) (aC (eV 0) (aC (eV 1) (aN))))) (
  sCo (sExpr (eCall (T__require CS) (aC (eBin oGt (eV 5) (eV 4)) (aC (eC (.str "call")) (aN))))) (
  sCo (sSet 6 (eCall (T_find CS) (aC (eIx oIx (eIx oIx (eV 0) (eV 5)) (eC (.int 3))) (aC (eV 2) (aN))))) (
  sExpr (eCall (T__require CS) (aC (eAnd (eBin oGe (eV 6) (eC (.int 0))) (eBin oEq (eCB cLen (aC (eIx oIx (eIx oIx (eIx oIx (eIx oIx (eV 0) (eV 5)) (eC (.int 3))) (eV 6)) (eC (.int 2))) (aN))) (eV 3))) (aC (eC (.str "call")) (aN))))))))
theorem ok_check_call {f : Addr} {fd : FuncData} {CS : Nat → Addr} (F : Fun K "check_call" "check_call" s_check_call f fd) (T : Txt w K mg CS) (C_find : CalX P w K mg base 1 "find" 2 (T_find CS)) (C__require : CalX P w K mg base 3 "_require" 2 (T__require CS)) : FnOk P w K mg base (L2.CX P w) 4 f fd ["objects", "name", "operation", "many", "owner"] (spX K 5 (T_check_call CS)) :=
  okX F sc_check_call rfl rfl (by decide) fun cdv A outer s H E hr =>
  cs_cons (c1_set sc_check_call.nd rfl lo_check_call_at (cm_call C_find (hr.mono (by decide)) g_check_call_find (ca_cons (cm_v (i := 0) rfl vs_check_call_objects nd_objects.1 nd_objects.2) (ca_cons (cm_v (i := 1) rfl vs_check_call_name nd_name.1 nd_name.2) (ca_nil) rfl) rfl) nd_find.1 rfl rfl) rfl (.inl rfl))
  (cs_cons (c1_expr (cm_call C__require (hr.mono (by decide)) g_check_call__require (ca_cons (cm_cmp cmo_gt (cm_v (i := 5) rfl vs_check_call_at nd_at.1 nd_at.2) (cm_v (i := 4) rfl vs_check_call_owner nd_owner.1 nd_owner.2) rfl) (ca_cons (cm_str) (ca_nil) rfl) rfl) nd__require.1 rfl rfl) rfl)
  (cs_cons (c1_set sc_check_call.nd rfl lo_check_call_k (cm_call C_find (hr.mono (by decide)) g_check_call_find (ca_cons (cm_ix cmi_ix (cm_ix cmi_ix (cm_v (i := 0) rfl vs_check_call_objects nd_objects.1 nd_objects.2) (cm_v (i := 5) rfl vs_check_call_at nd_at.1 nd_at.2) (fun _ _ => rfl)) (cm_int) (fun _ _ => rfl)) (ca_cons (cm_v (i := 2) rfl vs_check_call_operation nd_operation.1 nd_operation.2) (ca_nil) rfl) rfl) nd_find.1 rfl rfl) rfl (.inl rfl))
  (cs_one (c1_expr (cm_call C__require (hr.mono (by decide)) g_check_call__require (ca_cons (cm_and (cm_cmp cmo_ge (cm_v (i := 6) rfl vs_check_call_k nd_k.1 nd_k.2) (cm_int) rfl) (cm_one (cm_cmp (cmo_eq hr) (cm_callB cmc_len bb_len T.b_len g_check_call_len (ca_cons (cm_ix cmi_ix (cm_ix cmi_ix (cm_ix cmi_ix (cm_ix cmi_ix (cm_v (i := 0) rfl vs_check_call_objects nd_objects.1 nd_objects.2) (cm_v (i := 5) rfl vs_check_call_at nd_at.1 nd_at.2) (fun _ _ => rfl)) (cm_int) (fun _ _ => rfl)) (cm_v (i := 6) rfl vs_check_call_k nd_k.1 nd_k.2) (fun _ _ => rfl)) (cm_int) (fun _ _ => rfl)) (ca_nil) rfl) nn_len nd_len.1 rfl rfl) (cm_v (i := 3) rfl vs_check_call_many nd_many.1 nd_many.2) rfl))) (ca_cons (cm_str) (ca_nil) rfl) rfl) nd__require.1 rfl rfl) rfl))))
abbrev s_Checker_call : Stmt := inClass (top 22) 4
abbrev N_Checker_call : List Str := ["self", "statement", "scope", "owner", "e"]
theorem sc_Checker_call : FnScope N_Checker_call ["self", "statement", "scope", "owner"] (defScope s_Checker_call) := ⟨rfl, rfl, rfl, by decide +kernel, rfl, by decide +kernel, by decide +kernel⟩
theorem lo_Checker_call_self : Loc (defScope s_Checker_call) "self" := by first | exact .inl rfl | exact .inr rfl
theorem vs_Checker_call_self : Vis (defScope s_Checker_call) "self" := lo_Checker_call_self.elim .inl fun z => .inr (.inl z)
theorem lo_Checker_call_statement : Loc (defScope s_Checker_call) "statement" := by first | exact .inl rfl | exact .inr rfl
theorem vs_Checker_call_statement : Vis (defScope s_Checker_call) "statement" := lo_Checker_call_statement.elim .inl fun z => .inr (.inl z)
theorem lo_Checker_call_scope : Loc (defScope s_Checker_call) "scope" := by first | exact .inl rfl | exact .inr rfl
theorem vs_Checker_call_scope : Vis (defScope s_Checker_call) "scope" := lo_Checker_call_scope.elim .inl fun z => .inr (.inl z)
theorem lo_Checker_call_owner : Loc (defScope s_Checker_call) "owner" := by first | exact .inl rfl | exact .inr rfl
theorem vs_Checker_call_owner : Vis (defScope s_Checker_call) "owner" := lo_Checker_call_owner.elim .inl fun z => .inr (.inl z)
theorem lo_Checker_call_e : Loc (defScope s_Checker_call) "e" := by first | exact .inl rfl | exact .inr rfl
theorem vs_Checker_call_e : Vis (defScope s_Checker_call) "e" := lo_Checker_call_e.elim .inl fun z => .inr (.inl z)
theorem g_Checker_call__check_expression : (defScope s_Checker_call).names.lookup ("_check_expression" : Str) = some .globalImplicit := rfl
theorem g_Checker_call__check_index : (defScope s_Checker_call).names.lookup ("_check_index" : Str) = some .globalImplicit := rfl
theorem g_Checker_call__check_place : (defScope s_Checker_call).names.lookup ("_check_place" : Str) = some .globalImplicit := rfl
theorem g_Checker_call_check_call : (defScope s_Checker_call).names.lookup ("check_call" : Str) = some .globalImplicit := rfl
theorem g_Checker_call_len : (defScope s_Checker_call).names.lookup ("len" : Str) = some .globalImplicit := rfl
def T_Checker_call (CS : Nat → Addr) : FT := fnT 5 (sCo (sFor (gName 4) (iSeq (eIx oIx (eV 1) (eC (.int 4)))) (sExpr (eCall (T__check_expression CS) (aC (eV 4) (aC (eV 2) (aC (eC (.int 4)) (aN))))))) (
  sCo (sExpr (eCall (T__check_index CS) (aC (eIx oIx (eV 1) (eC (.int 1))) (aC (eV 2) (aN))))) (
  sCo (sExpr (eCall (T__check_place CS) (aC (eIx oIx (eV 1) (eC (.int 1))) (aC (eV 2) (aN))))) (
  sExpr (eCall (T_check_call CS) (aC (eFld [CS 0] f_objects (eV 0)) (aC (eIx oIx (eV 1) (eC (.int 2))) (aC (eIx oIx (eV 1) (eC (.int 3))) (aC (eCB cLen (aC (eIx oIx (eV 1) (eC (.int 4))) (aN))) (aC (eV 3) (aN)))))))))))
theorem ok_Checker_call {f : Addr} {fd : FuncData} {CS : Nat → Addr} (F : Fun K "call" "Checker.call" s_Checker_call f fd) (T : Txt w K mg CS) (C__check_index : CalX P w K mg base 16 "_check_index" 2 (T__check_index CS)) (C__check_place : CalX P w K mg base 4 "_check_place" 2 (T__check_place CS)) (C_check_call : CalX P w K mg base 4 "check_call" 5 (T_check_call CS)) (C__check_expression : CalX P w K mg base 15 "_check_expression" 3 (T__check_expression CS)) : FnOk P w K mg base (L2.CX P w) 17 f fd ["self", "statement", "scope", "owner"] (spX K 4 (T_Checker_call CS)) :=
  okX F sc_Checker_call rfl rfl (by decide) fun cdv A outer s H E hr =>
  cs_cons (c1_for (cg_name sc_Checker_call.nd rfl lo_Checker_call_e (.inl rfl)) (ci_seq (cm_ix cmi_ix (cm_v (i := 1) rfl vs_Checker_call_statement nd_statement.1 nd_statement.2) (cm_int) (fun _ _ => rfl))) (cs_one (c1_expr (cm_call C__check_expression (hr.mono (by decide)) g_Checker_call__check_expression (ca_cons (cm_v (i := 4) rfl vs_Checker_call_e nd_e.1 nd_e.2) (ca_cons (cm_v (i := 2) rfl vs_Checker_call_scope nd_scope.1 nd_scope.2) (ca_cons (cm_int) (ca_nil) rfl) rfl) rfl) nd__check_expression.1 rfl rfl) rfl)) rfl pass_cx (fun _ => rfl))
  (cs_cons (c1_expr (cm_call C__check_index (hr.mono (by decide)) g_Checker_call__check_index (ca_cons (cm_ix cmi_ix (cm_v (i := 1) rfl vs_Checker_call_statement nd_statement.1 nd_statement.2) (cm_int) (fun _ _ => rfl)) (ca_cons (cm_v (i := 2) rfl vs_Checker_call_scope nd_scope.1 nd_scope.2) (ca_nil) rfl) rfl) nd__check_index.1 rfl rfl) rfl)
  (cs_cons (c1_expr (cm_call C__check_place (hr.mono (by decide)) g_Checker_call__check_place (ca_cons (cm_ix cmi_ix (cm_v (i := 1) rfl vs_Checker_call_statement nd_statement.1 nd_statement.2) (cm_int) (fun _ _ => rfl)) (ca_cons (cm_v (i := 2) rfl vs_Checker_call_scope nd_scope.1 nd_scope.2) (ca_nil) rfl) rfl) nd__check_place.1 rfl rfl) rfl)
  (cs_one (c1_expr (cm_call C_check_call (hr.mono (by decide)) g_Checker_call_check_call (ca_cons (cm_fld fn_objects (fl1 ⟨T.cl_Checker, T.na_Checker_objects⟩) (cm_v (i := 0) rfl vs_Checker_call_self nd_self.1 nd_self.2) rfl) (ca_cons (cm_ix cmi_ix (cm_v (i := 1) rfl vs_Checker_call_statement nd_statement.1 nd_statement.2) (cm_int) (fun _ _ => rfl)) (ca_cons (cm_ix cmi_ix (cm_v (i := 1) rfl vs_Checker_call_statement nd_statement.1 nd_statement.2) (cm_int) (fun _ _ => rfl)) (ca_cons (cm_callB cmc_len bb_len T.b_len g_Checker_call_len (ca_cons (cm_ix cmi_ix (cm_v (i := 1) rfl vs_Checker_call_statement nd_statement.1 nd_statement.2) (cm_int) (fun _ _ => rfl)) (ca_nil) rfl) nn_len nd_len.1 rfl rfl) (ca_cons (cm_v (i := 3) rfl vs_Checker_call_owner nd_owner.1 nd_owner.2) (ca_nil) rfl) rfl) rfl) rfl) rfl) nd_check_call.1 rfl rfl) rfl))))
abbrev s_Checker_transfer : Stmt := inClass (top 22) 5
abbrev N_Checker_transfer : List Str := ["self", "statement", "scope", "owner", "name", "kind", "at"]
theorem sc_Checker_transfer : FnScope N_Checker_transfer ["self", "statement", "scope", "owner"] (defScope s_Checker_transfer) := ⟨rfl, rfl, rfl, by decide +kernel, rfl, by decide +kernel, by decide +kernel⟩
theorem lo_Checker_transfer_self : Loc (defScope s_Checker_transfer) "self" := by first | exact .inl rfl | exact .inr rfl
theorem vs_Checker_transfer_self : Vis (defScope s_Checker_transfer) "self" := lo_Checker_transfer_self.elim .inl fun z => .inr (.inl z)
theorem lo_Checker_transfer_statement : Loc (defScope s_Checker_transfer) "statement" := by first | exact .inl rfl | exact .inr rfl
theorem vs_Checker_transfer_statement : Vis (defScope s_Checker_transfer) "statement" := lo_Checker_transfer_statement.elim .inl fun z => .inr (.inl z)
theorem lo_Checker_transfer_scope : Loc (defScope s_Checker_transfer) "scope" := by first | exact .inl rfl | exact .inr rfl
theorem vs_Checker_transfer_scope : Vis (defScope s_Checker_transfer) "scope" := lo_Checker_transfer_scope.elim .inl fun z => .inr (.inl z)
theorem lo_Checker_transfer_owner : Loc (defScope s_Checker_transfer) "owner" := by first | exact .inl rfl | exact .inr rfl
theorem vs_Checker_transfer_owner : Vis (defScope s_Checker_transfer) "owner" := lo_Checker_transfer_owner.elim .inl fun z => .inr (.inl z)
theorem lo_Checker_transfer_name : Loc (defScope s_Checker_transfer) "name" := by first | exact .inl rfl | exact .inr rfl
theorem vs_Checker_transfer_name : Vis (defScope s_Checker_transfer) "name" := lo_Checker_transfer_name.elim .inl fun z => .inr (.inl z)
theorem lo_Checker_transfer_kind : Loc (defScope s_Checker_transfer) "kind" := by first | exact .inl rfl | exact .inr rfl
theorem vs_Checker_transfer_kind : Vis (defScope s_Checker_transfer) "kind" := lo_Checker_transfer_kind.elim .inl fun z => .inr (.inl z)
theorem lo_Checker_transfer_at : Loc (defScope s_Checker_transfer) "at" := by first | exact .inl rfl | exact .inr rfl
theorem vs_Checker_transfer_at : Vis (defScope s_Checker_transfer) "at" := lo_Checker_transfer_at.elim .inl fun z => .inr (.inl z)
theorem g_Checker_transfer__check_index : (defScope s_Checker_transfer).names.lookup ("_check_index" : Str) = some .globalImplicit := rfl
theorem g_Checker_transfer__check_place : (defScope s_Checker_transfer).names.lookup ("_check_place" : Str) = some .globalImplicit := rfl
theorem g_Checker_transfer__check_expression : (defScope s_Checker_transfer).names.lookup ("_check_expression" : Str) = some .globalImplicit := rfl
theorem g_Checker_transfer_find : (defScope s_Checker_transfer).names.lookup ("find" : Str) = some .globalImplicit := rfl
theorem g_Checker_transfer__require : (defScope s_Checker_transfer).names.lookup ("_require" : Str) = some .globalImplicit := rfl
def T_Checker_transfer (CS : Nat → Addr) : FT := fnT 7 (sCo (sIf (tCmp oEq (eIx oIx (eV 1) (eC (.int 0))) (eC (.str "read"))) (sCo (sExpr (eCall (T__check_index CS) (aC (eIx oIx (eV 1) (eC (.int 1))) (aC (eV 2) (aN))))) (
  sCo (sExpr (eCall (T__check_place CS) (aC (eIx oIx (eV 1) (eC (.int 1))) (aC (eV 2) (aN))))) (
  sPar 4 5 (aC (eIx oIx (eV 1) (eC (.int 2))) (aC (eC (.str "in")) (aN)))))) (sCo (sExpr (eCall (T__check_expression CS) (aC (eIx oIx (eV 1) (eC (.int 2))) (aC (eV 2) (aC (eC (.int 6)) (aN)))))) (
  sPar 4 5 (aC (eIx oIx (eV 1) (eC (.int 1))) (aC (eC (.str "out")) (aN)))))) (
  sCo (sSet 6 (eCall (T_find CS) (aC (eFld [CS 0] f_ports (eV 0)) (aC (eV 4) (aN))))) (
  sExpr (eCall (T__require CS) (aC (eAnd (eBin oLt (eV 3) (eC (.int 0))) (eAnd (eBin oGe (eV 6) (eC (.int 0))) (eBin oEq (eIx oIx (eIx oIx (eFld [CS 0] f_ports (eV 0)) (eV 6)) (eC (.int 0))) (eV 5)))) (aC (eC (.str "port")) (aN)))))))
theorem ok_Checker_transfer {f : Addr} {fd : FuncData} {CS : Nat → Addr} (F : Fun K "transfer" "Checker.transfer" s_Checker_transfer f fd) (T : Txt w K mg CS) (C_find : CalX P w K mg base 1 "find" 2 (T_find CS)) (C__require : CalX P w K mg base 3 "_require" 2 (T__require CS)) (C__check_index : CalX P w K mg base 16 "_check_index" 2 (T__check_index CS)) (C__check_place : CalX P w K mg base 4 "_check_place" 2 (T__check_place CS)) (C__check_expression : CalX P w K mg base 15 "_check_expression" 3 (T__check_expression CS)) : FnOk P w K mg base (L2.CX P w) 17 f fd ["self", "statement", "scope", "owner"] (spX K 4 (T_Checker_transfer CS)) :=
  okX F sc_Checker_transfer rfl rfl (by decide) fun cdv A outer s H E hr =>
  cs_cons (c1_if (ct_cmp (cmo_eq hr) (cm_ix cmi_ix (cm_v (i := 1) rfl vs_Checker_transfer_statement nd_statement.1 nd_statement.2) (cm_int) (fun _ _ => rfl)) (cm_str) rfl) (cs_cons (c1_expr (cm_call C__check_index (hr.mono (by decide)) g_Checker_transfer__check_index (ca_cons (cm_ix cmi_ix (cm_v (i := 1) rfl vs_Checker_transfer_statement nd_statement.1 nd_statement.2) (cm_int) (fun _ _ => rfl)) (ca_cons (cm_v (i := 2) rfl vs_Checker_transfer_scope nd_scope.1 nd_scope.2) (ca_nil) rfl) rfl) nd__check_index.1 rfl rfl) rfl)
  (cs_cons (c1_expr (cm_call C__check_place (hr.mono (by decide)) g_Checker_transfer__check_place (ca_cons (cm_ix cmi_ix (cm_v (i := 1) rfl vs_Checker_transfer_statement nd_statement.1 nd_statement.2) (cm_int) (fun _ _ => rfl)) (ca_cons (cm_v (i := 2) rfl vs_Checker_transfer_scope nd_scope.1 nd_scope.2) (ca_nil) rfl) rfl) nd__check_place.1 rfl rfl) rfl)
  (cs_one (c1_par rfl sc_Checker_transfer.nd rfl rfl (by decide) rfl rfl (ca_cons (cm_ix cmi_ix (cm_v (i := 1) rfl vs_Checker_transfer_statement nd_statement.1 nd_statement.2) (cm_int) (fun _ _ => rfl)) (ca_cons (cm_str) (ca_nil) rfl) rfl) rfl rfl)))) (cs_cons (c1_expr (cm_call C__check_expression (hr.mono (by decide)) g_Checker_transfer__check_expression (ca_cons (cm_ix cmi_ix (cm_v (i := 1) rfl vs_Checker_transfer_statement nd_statement.1 nd_statement.2) (cm_int) (fun _ _ => rfl)) (ca_cons (cm_v (i := 2) rfl vs_Checker_transfer_scope nd_scope.1 nd_scope.2) (ca_cons (cm_int) (ca_nil) rfl) rfl) rfl) nd__check_expression.1 rfl rfl) rfl)
  (cs_one (c1_par rfl sc_Checker_transfer.nd rfl rfl (by decide) rfl rfl (ca_cons (cm_ix cmi_ix (cm_v (i := 1) rfl vs_Checker_transfer_statement nd_statement.1 nd_statement.2) (cm_int) (fun _ _ => rfl)) (ca_cons (cm_str) (ca_nil) rfl) rfl) rfl rfl))))
  (cs_cons (c1_set sc_Checker_transfer.nd rfl lo_Checker_transfer_at (cm_call C_find (hr.mono (by decide)) g_Checker_transfer_find (ca_cons (cm_fld fn_ports (fl1 ⟨T.cl_Checker, T.na_Checker_ports⟩) (cm_v (i := 0) rfl vs_Checker_transfer_self nd_self.1 nd_self.2) rfl) (ca_cons (cm_v (i := 4) rfl vs_Checker_transfer_name nd_name.1 nd_name.2) (ca_nil) rfl) rfl) nd_find.1 rfl rfl) rfl (.inl rfl))
  (cs_one (c1_expr (cm_call C__require (hr.mono (by decide)) g_Checker_transfer__require (ca_cons (cm_and (cm_cmp cmo_lt (cm_v (i := 3) rfl vs_Checker_transfer_owner nd_owner.1 nd_owner.2) (cm_int) rfl) (cm_and (cm_cmp cmo_ge (cm_v (i := 6) rfl vs_Checker_transfer_at nd_at.1 nd_at.2) (cm_int) rfl) (cm_one (cm_cmp (cmo_eq hr) (cm_ix cmi_ix (cm_ix cmi_ix (cm_fld fn_ports (fl1 ⟨T.cl_Checker, T.na_Checker_ports⟩) (cm_v (i := 0) rfl vs_Checker_transfer_self nd_self.1 nd_self.2) rfl) (cm_v (i := 6) rfl vs_Checker_transfer_at nd_at.1 nd_at.2) (fun _ _ => rfl)) (cm_int) (fun _ _ => rfl)) (cm_v (i := 5) rfl vs_Checker_transfer_kind nd_kind.1 nd_kind.2) rfl)))) (ca_cons (cm_str) (ca_nil) rfl) rfl) nd__require.1 rfl rfl) rfl)))
abbrev s_Checker_statements : Stmt := inClass (top 22) 2
abbrev N_Checker_statements : List Str := ["self", "body", "scope", "owner", "statement", "kind"]
theorem sc_Checker_statements : FnScope N_Checker_statements ["self", "body", "scope", "owner"] (defScope s_Checker_statements) := ⟨rfl, rfl, rfl, by decide +kernel, rfl, by decide +kernel, by decide +kernel⟩
theorem lo_Checker_statements_self : Loc (defScope s_Checker_statements) "self" := by first | exact .inl rfl | exact .inr rfl
theorem vs_Checker_statements_self : Vis (defScope s_Checker_statements) "self" := lo_Checker_statements_self.elim .inl fun z => .inr (.inl z)
theorem lo_Checker_statements_body : Loc (defScope s_Checker_statements) "body" := by first | exact .inl rfl | exact .inr rfl
theorem vs_Checker_statements_body : Vis (defScope s_Checker_statements) "body" := lo_Checker_statements_body.elim .inl fun z => .inr (.inl z)
theorem lo_Checker_statements_scope : Loc (defScope s_Checker_statements) "scope" := by first | exact .inl rfl | exact .inr rfl
theorem vs_Checker_statements_scope : Vis (defScope s_Checker_statements) "scope" := lo_Checker_statements_scope.elim .inl fun z => .inr (.inl z)
theorem lo_Checker_statements_owner : Loc (defScope s_Checker_statements) "owner" := by first | exact .inl rfl | exact .inr rfl
theorem vs_Checker_statements_owner : Vis (defScope s_Checker_statements) "owner" := lo_Checker_statements_owner.elim .inl fun z => .inr (.inl z)
theorem lo_Checker_statements_statement : Loc (defScope s_Checker_statements) "statement" := by first | exact .inl rfl | exact .inr rfl
theorem vs_Checker_statements_statement : Vis (defScope s_Checker_statements) "statement" := lo_Checker_statements_statement.elim .inl fun z => .inr (.inl z)
theorem lo_Checker_statements_kind : Loc (defScope s_Checker_statements) "kind" := by first | exact .inl rfl | exact .inr rfl
theorem vs_Checker_statements_kind : Vis (defScope s_Checker_statements) "kind" := lo_Checker_statements_kind.elim .inl fun z => .inr (.inl z)
theorem g_Checker_statements__check_index : (defScope s_Checker_statements).names.lookup ("_check_index" : Str) = some .globalImplicit := rfl
theorem g_Checker_statements__check_expression : (defScope s_Checker_statements).names.lookup ("_check_expression" : Str) = some .globalImplicit := rfl
theorem g_Checker_statements__check_place : (defScope s_Checker_statements).names.lookup ("_check_place" : Str) = some .globalImplicit := rfl
def B_Checker_statements (CS : Nat → Addr) (R : Nat → FT) : FT := fnT 6 (sFor (gName 4) (iSeq (eV 1)) (sCo (sSet 5 (eIx oIx (eV 4) (eC (.int 0)))) (
  sIf (tCmp oEq (eV 5) (eC (.str "set"))) (sCo (sExpr (eCall (T__check_index CS) (aC (eIx oIx (eV 4) (eC (.int 1))) (aC (eV 2) (aN))))) (
  sCo (sExpr (eCall (T__check_expression CS) (aC (eIx oIx (eV 4) (eC (.int 2))) (aC (eV 2) (aC (eC (.int 6)) (aN)))))) (
  sExpr (eCall (T__check_place CS) (aC (eIx oIx (eV 4) (eC (.int 1))) (aC (eV 2) (aN))))))) (sIf (tCmp oEq (eV 5) (eC (.str "if"))) (sCo (sExpr (eCall (T__check_expression CS) (aC (eIx oIx (eV 4) (eC (.int 1))) (aC (eV 2) (aC (eC (.int 6)) (aN)))))) (
  sCo (sExpr (eMeth (CS 0) f_statements (R 0) (eV 0) (aC (eIx oIx (eV 4) (eC (.int 2))) (aC (eV 2) (aC (eV 3) (aN)))))) (
  sExpr (eMeth (CS 0) f_statements (R 0) (eV 0) (aC (eIx oIx (eV 4) (eC (.int 3))) (aC (eV 2) (aC (eV 3) (aN)))))))) (sIf (tCmp oEq (eV 5) (eC (.str "loop"))) (sExpr (eMeth (CS 0) f_loop (R 1) (eV 0) (aC (eV 4) (aC (eV 2) (aC (eV 3) (aN)))))) (sIf (tCmp oEq (eV 5) (eC (.str "call"))) (sExpr (eMeth (CS 0) f_call (T_Checker_call CS) (eV 0) (aC (eV 4) (aC (eV 2) (aC (eV 3) (aN)))))) (sExpr (eMeth (CS 0) f_transfer (T_Checker_transfer CS) (eV 0) (aC (eV 4) (aC (eV 2) (aC (eV 3) (aN))))))))))))
theorem ok_Checker_statements {f : Addr} {fd : FuncData} {CS : Nat → Addr} {lv : Nat} {R : Nat → FT} (hl : 17 ≤ lv) (F : Fun K "statements" "Checker.statements" s_Checker_statements f fd) (T : Txt w K mg CS) (C__check_index : CalX P w K mg base 16 "_check_index" 2 (T__check_index CS)) (C__check_expression : CalX P w K mg base 15 "_check_expression" 3 (T__check_expression CS)) (C__check_place : CalX P w K mg base 4 "_check_place" 2 (T__check_place CS)) (C_Checker_statements : CalM P w K mg base lv (CS 0) "statements" 4 (R 0)) (C_Checker_loop : CalM P w K mg base lv (CS 0) "loop" 4 (R 1)) (C_Checker_call : CalM P w K mg base 17 (CS 0) "call" 4 (T_Checker_call CS)) (C_Checker_transfer : CalM P w K mg base 17 (CS 0) "transfer" 4 (T_Checker_transfer CS)) : FnOk P w K mg base (L2.CX P w) (lv + 1) f fd ["self", "body", "scope", "owner"] (spX K 4 (B_Checker_statements CS R)) :=
  okX F sc_Checker_statements rfl rfl (by decide) fun cdv A outer s H E hr =>
  cs_one (c1_for (cg_name sc_Checker_statements.nd rfl lo_Checker_statements_statement (.inl rfl)) (ci_seq (cm_v (i := 1) rfl vs_Checker_statements_body nd_body.1 nd_body.2)) (cs_cons (c1_set sc_Checker_statements.nd rfl lo_Checker_statements_kind (cm_ix cmi_ix (cm_v (i := 4) rfl vs_Checker_statements_statement nd_statement.1 nd_statement.2) (cm_int) (fun _ _ => rfl)) rfl (.inl rfl))
  (cs_one (c1_if (ct_cmp (cmo_eq hr) (cm_v (i := 5) rfl vs_Checker_statements_kind nd_kind.1 nd_kind.2) (cm_str) rfl) (cs_cons (c1_expr (cm_call C__check_index (hr.mono (by omega)) g_Checker_statements__check_index (ca_cons (cm_ix cmi_ix (cm_v (i := 4) rfl vs_Checker_statements_statement nd_statement.1 nd_statement.2) (cm_int) (fun _ _ => rfl)) (ca_cons (cm_v (i := 2) rfl vs_Checker_statements_scope nd_scope.1 nd_scope.2) (ca_nil) rfl) rfl) nd__check_index.1 rfl rfl) rfl)
  (cs_cons (c1_expr (cm_call C__check_expression (hr.mono (by omega)) g_Checker_statements__check_expression (ca_cons (cm_ix cmi_ix (cm_v (i := 4) rfl vs_Checker_statements_statement nd_statement.1 nd_statement.2) (cm_int) (fun _ _ => rfl)) (ca_cons (cm_v (i := 2) rfl vs_Checker_statements_scope nd_scope.1 nd_scope.2) (ca_cons (cm_int) (ca_nil) rfl) rfl) rfl) nd__check_expression.1 rfl rfl) rfl)
  (cs_one (c1_expr (cm_call C__check_place (hr.mono (by omega)) g_Checker_statements__check_place (ca_cons (cm_ix cmi_ix (cm_v (i := 4) rfl vs_Checker_statements_statement nd_statement.1 nd_statement.2) (cm_int) (fun _ _ => rfl)) (ca_cons (cm_v (i := 2) rfl vs_Checker_statements_scope nd_scope.1 nd_scope.2) (ca_nil) rfl) rfl) nd__check_place.1 rfl rfl) rfl)))) (cs_one (c1_if (ct_cmp (cmo_eq hr) (cm_v (i := 5) rfl vs_Checker_statements_kind nd_kind.1 nd_kind.2) (cm_str) rfl) (cs_cons (c1_expr (cm_call C__check_expression (hr.mono (by omega)) g_Checker_statements__check_expression (ca_cons (cm_ix cmi_ix (cm_v (i := 4) rfl vs_Checker_statements_statement nd_statement.1 nd_statement.2) (cm_int) (fun _ _ => rfl)) (ca_cons (cm_v (i := 2) rfl vs_Checker_statements_scope nd_scope.1 nd_scope.2) (ca_cons (cm_int) (ca_nil) rfl) rfl) rfl) nd__check_expression.1 rfl rfl) rfl)
  (cs_cons (c1_expr (cm_meth C_Checker_statements fn_statements T.cl_Checker (hr.mono (by omega)) (cm_v (i := 0) rfl vs_Checker_statements_self nd_self.1 nd_self.2) (ca_cons (cm_ix cmi_ix (cm_v (i := 4) rfl vs_Checker_statements_statement nd_statement.1 nd_statement.2) (cm_int) (fun _ _ => rfl)) (ca_cons (cm_v (i := 2) rfl vs_Checker_statements_scope nd_scope.1 nd_scope.2) (ca_cons (cm_v (i := 3) rfl vs_Checker_statements_owner nd_owner.1 nd_owner.2) (ca_nil) rfl) rfl) rfl) rfl rfl rfl) rfl)
  (cs_one (c1_expr (cm_meth C_Checker_statements fn_statements T.cl_Checker (hr.mono (by omega)) (cm_v (i := 0) rfl vs_Checker_statements_self nd_self.1 nd_self.2) (ca_cons (cm_ix cmi_ix (cm_v (i := 4) rfl vs_Checker_statements_statement nd_statement.1 nd_statement.2) (cm_int) (fun _ _ => rfl)) (ca_cons (cm_v (i := 2) rfl vs_Checker_statements_scope nd_scope.1 nd_scope.2) (ca_cons (cm_v (i := 3) rfl vs_Checker_statements_owner nd_owner.1 nd_owner.2) (ca_nil) rfl) rfl) rfl) rfl rfl rfl) rfl)))) (cs_one (c1_if (ct_cmp (cmo_eq hr) (cm_v (i := 5) rfl vs_Checker_statements_kind nd_kind.1 nd_kind.2) (cm_str) rfl) (cs_one (c1_expr (cm_meth C_Checker_loop fn_loop T.cl_Checker (hr.mono (by omega)) (cm_v (i := 0) rfl vs_Checker_statements_self nd_self.1 nd_self.2) (ca_cons (cm_v (i := 4) rfl vs_Checker_statements_statement nd_statement.1 nd_statement.2) (ca_cons (cm_v (i := 2) rfl vs_Checker_statements_scope nd_scope.1 nd_scope.2) (ca_cons (cm_v (i := 3) rfl vs_Checker_statements_owner nd_owner.1 nd_owner.2) (ca_nil) rfl) rfl) rfl) rfl rfl rfl) rfl)) (cs_one (c1_if (ct_cmp (cmo_eq hr) (cm_v (i := 5) rfl vs_Checker_statements_kind nd_kind.1 nd_kind.2) (cm_str) rfl) (cs_one (c1_expr (cm_meth C_Checker_call fn_call T.cl_Checker (hr.mono (by omega)) (cm_v (i := 0) rfl vs_Checker_statements_self nd_self.1 nd_self.2) (ca_cons (cm_v (i := 4) rfl vs_Checker_statements_statement nd_statement.1 nd_statement.2) (ca_cons (cm_v (i := 2) rfl vs_Checker_statements_scope nd_scope.1 nd_scope.2) (ca_cons (cm_v (i := 3) rfl vs_Checker_statements_owner nd_owner.1 nd_owner.2) (ca_nil) rfl) rfl) rfl) rfl rfl rfl) rfl)) (cs_one (c1_expr (cm_meth C_Checker_transfer fn_transfer T.cl_Checker (hr.mono (by omega)) (cm_v (i := 0) rfl vs_Checker_statements_self nd_self.1 nd_self.2) (ca_cons (cm_v (i := 4) rfl vs_Checker_statements_statement nd_statement.1 nd_statement.2) (ca_cons (cm_v (i := 2) rfl vs_Checker_statements_scope nd_scope.1 nd_scope.2) (ca_cons (cm_v (i := 3) rfl vs_Checker_statements_owner nd_owner.1 nd_owner.2) (ca_nil) rfl) rfl) rfl) rfl rfl rfl) rfl))))))))))) rfl pass_cx (fun _ => rfl))
abbrev s_Checker_loop : Stmt := inClass (top 22) 3
abbrev N_Checker_loop : List Str := ["self", "statement", "scope", "owner", "_", "name", "count", "test", "body", "inner", "other"]
theorem sc_Checker_loop : FnScope N_Checker_loop ["self", "statement", "scope", "owner"] (defScope s_Checker_loop) := ⟨rfl, rfl, rfl, by decide +kernel, rfl, by decide +kernel, by decide +kernel⟩
theorem lo_Checker_loop_self : Loc (defScope s_Checker_loop) "self" := by first | exact .inl rfl | exact .inr rfl
theorem vs_Checker_loop_self : Vis (defScope s_Checker_loop) "self" := lo_Checker_loop_self.elim .inl fun z => .inr (.inl z)
theorem lo_Checker_loop_statement : Loc (defScope s_Checker_loop) "statement" := by first | exact .inl rfl | exact .inr rfl
theorem vs_Checker_loop_statement : Vis (defScope s_Checker_loop) "statement" := lo_Checker_loop_statement.elim .inl fun z => .inr (.inl z)
theorem lo_Checker_loop_scope : Loc (defScope s_Checker_loop) "scope" := by first | exact .inl rfl | exact .inr rfl
theorem vs_Checker_loop_scope : Vis (defScope s_Checker_loop) "scope" := lo_Checker_loop_scope.elim .inl fun z => .inr (.inl z)
theorem lo_Checker_loop_owner : Loc (defScope s_Checker_loop) "owner" := by first | exact .inl rfl | exact .inr rfl
theorem vs_Checker_loop_owner : Vis (defScope s_Checker_loop) "owner" := lo_Checker_loop_owner.elim .inl fun z => .inr (.inl z)
theorem lo_Checker_loop__ : Loc (defScope s_Checker_loop) "_" := by first | exact .inl rfl | exact .inr rfl
theorem vs_Checker_loop__ : Vis (defScope s_Checker_loop) "_" := lo_Checker_loop__.elim .inl fun z => .inr (.inl z)
theorem lo_Checker_loop_name : Loc (defScope s_Checker_loop) "name" := by first | exact .inl rfl | exact .inr rfl
theorem vs_Checker_loop_name : Vis (defScope s_Checker_loop) "name" := lo_Checker_loop_name.elim .inl fun z => .inr (.inl z)
theorem lo_Checker_loop_count : Loc (defScope s_Checker_loop) "count" := by first | exact .inl rfl | exact .inr rfl
theorem vs_Checker_loop_count : Vis (defScope s_Checker_loop) "count" := lo_Checker_loop_count.elim .inl fun z => .inr (.inl z)
theorem lo_Checker_loop_test : Loc (defScope s_Checker_loop) "test" := by first | exact .inl rfl | exact .inr rfl
theorem vs_Checker_loop_test : Vis (defScope s_Checker_loop) "test" := lo_Checker_loop_test.elim .inl fun z => .inr (.inl z)
theorem lo_Checker_loop_body : Loc (defScope s_Checker_loop) "body" := by first | exact .inl rfl | exact .inr rfl
theorem vs_Checker_loop_body : Vis (defScope s_Checker_loop) "body" := lo_Checker_loop_body.elim .inl fun z => .inr (.inl z)
theorem lo_Checker_loop_inner : Loc (defScope s_Checker_loop) "inner" := by first | exact .inl rfl | exact .inr rfl
theorem vs_Checker_loop_inner : Vis (defScope s_Checker_loop) "inner" := lo_Checker_loop_inner.elim .inl fun z => .inr (.inl z)
theorem g_Checker_loop__check_expression : (defScope s_Checker_loop).names.lookup ("_check_expression" : Str) = some .globalImplicit := rfl
theorem g_Checker_loop__require : (defScope s_Checker_loop).names.lookup ("_require" : Str) = some .globalImplicit := rfl
theorem g_Checker_loop_is_name : (defScope s_Checker_loop).names.lookup ("is_name" : Str) = some .globalImplicit := rfl
theorem g_Checker_loop_VARIABLE : (defScope s_Checker_loop).names.lookup ("VARIABLE" : Str) = some .globalImplicit := rfl
def B_Checker_loop (CS : Nat → Addr) (R : Nat → FT) : FT := fnT 11 (sCo (sAsg (gTup 5 (gsC (gName 4) (gsC (gName 5) (gsC (gName 6) (gsC (gName 7) (gsC (gName 8) (gsN))))))) (eV 1)) (
  sCo (sIf (tCmp oNotN (eV 7) (eC .non)) (sExpr (eCall (T__check_expression CS) (aC (eV 7) (aC (eV 2) (aC (eC (.int 6)) (aN)))))) (sNo)) (
  sCo (sExpr (eCall (T__require CS) (aC (eChain oLe oLe (eC (.int 1)) (eV 6) (eC (.int 64))) (aC (eC (.str "size")) (aN))))) (
  sCo (sExpr (eCall (T__require CS) (aC (eAnd (eCall (T_is_name CS) (aC (eV 5) (aN))) (eBin oNotInD (eV 5) (eV 2))) (aC (eC (.str "name")) (aN))))) (
  sCo (sSet 9 (eDc [10] (b1 10) (iDct (eV 2)) (tYes) (eV 10) (eDGet (eV 2) (eV 10)))) (
  sCo (sDPut (eV 9) (eV 5) (eC (.int (-1)))) (
  sFrzV 9 (sExpr (eMeth (CS 0) f_statements (R 0) (eV 0) (aC (eV 8) (aC (eFrz (eV 9)) (aC (eV 3) (aN)))))))))))))
theorem ok_Checker_loop {f : Addr} {fd : FuncData} {CS : Nat → Addr} {lv : Nat} {R : Nat → FT} (hl : 17 ≤ lv) (F : Fun K "loop" "Checker.loop" s_Checker_loop f fd) (T : Txt w K mg CS) (C__require : CalX P w K mg base 3 "_require" 2 (T__require CS)) (C_Checker_statements : CalM P w K mg base lv (CS 0) "statements" 4 (R 0)) (C__check_expression : CalX P w K mg base 15 "_check_expression" 3 (T__check_expression CS)) (C_is_name : CalX P w K mg base 2 "is_name" 1 (T_is_name CS)) : FnOk P w K mg base (L2.CX P w) (lv + 1) f fd ["self", "statement", "scope", "owner"] (spX K 4 (B_Checker_loop CS R)) :=
  okX F sc_Checker_loop rfl rfl (by decide) fun cdv A outer s H E hr =>
  cs_cons (c1_asg (cg_tup rfl (cgs_cons (cg_name sc_Checker_loop.nd rfl lo_Checker_loop__ (.inl rfl)) (cgs_cons (cg_name sc_Checker_loop.nd rfl lo_Checker_loop_name (.inl rfl)) (cgs_cons (cg_name sc_Checker_loop.nd rfl lo_Checker_loop_count (.inl rfl)) (cgs_cons (cg_name sc_Checker_loop.nd rfl lo_Checker_loop_test (.inl rfl)) (cgs_cons (cg_name sc_Checker_loop.nd rfl lo_Checker_loop_body (.inl rfl)) (cgs_nil) rfl) rfl) rfl) rfl) rfl) rfl rfl) (cm_v (i := 1) rfl vs_Checker_loop_statement nd_statement.1 nd_statement.2) rfl rfl rfl)
  (cs_cons (c1_if (ct_cmp cmo_notN (cm_v (i := 7) rfl vs_Checker_loop_test nd_test.1 nd_test.2) (cm_non) rfl) (cs_one (c1_expr (cm_call C__check_expression (hr.mono (by omega)) g_Checker_loop__check_expression (ca_cons (cm_v (i := 7) rfl vs_Checker_loop_test nd_test.1 nd_test.2) (ca_cons (cm_v (i := 2) rfl vs_Checker_loop_scope nd_scope.1 nd_scope.2) (ca_cons (cm_int) (ca_nil) rfl) rfl) rfl) nd__check_expression.1 rfl rfl) rfl)) (cs_nil))
  (cs_cons (c1_expr (cm_call C__require (hr.mono (by omega)) g_Checker_loop__require (ca_cons (cm_chain cmo_le cmo_le (cm_int) (cm_v (i := 6) rfl vs_Checker_loop_count nd_count.1 nd_count.2) (cm_int) rfl) (ca_cons (cm_str) (ca_nil) rfl) rfl) nd__require.1 rfl rfl) rfl)
  (cs_cons (c1_expr (cm_call C__require (hr.mono (by omega)) g_Checker_loop__require (ca_cons (cm_and (cm_call C_is_name (hr.mono (by omega)) g_Checker_loop_is_name (ca_cons (cm_v (i := 5) rfl vs_Checker_loop_name nd_name.1 nd_name.2) (ca_nil) rfl) nd_is_name.1 rfl rfl) (cm_one (cm_cmp (cmo_notInD hr) (cm_v (i := 5) rfl vs_Checker_loop_name nd_name.1 nd_name.2) (cm_v (i := 2) rfl vs_Checker_loop_scope nd_scope.1 nd_scope.2) rfl))) (ca_cons (cm_str) (ca_nil) rfl) rfl) nd__require.1 rfl rfl) rfl)
  (cs_cons ((by first | exact c1_set sc_Checker_loop.nd rfl lo_Checker_loop_inner (cm_dc (own := [("other", 10)]) rfl sc_Checker_loop.nd (blkOk_by (N := N_Checker_loop) (sc := defScope s_Checker_loop) (by decide +kernel)) (bind1 (by decide)) (fun _ _ _ _ _ => L2.pg_name sc_Checker_loop.nd (i := 10) rfl (.inl rfl) (.inr rfl)) (ci_dct (cm_v (i := 2) rfl vs_Checker_loop_scope nd_scope.1 nd_scope.2)) (fun _ _ _ _ _ => cts_nil) (fun _ _ _ _ _ => cm_v (i := 10) rfl (by first | exact Or.inl rfl | exact Or.inr (Or.inl rfl) | exact Or.inr (Or.inr rfl)) nd_other.1 nd_other.2) (fun _ _ _ _ _ => cm_dget hr (cm_v (i := 2) rfl (by first | exact Or.inl rfl | exact Or.inr (Or.inl rfl) | exact Or.inr (Or.inr rfl)) nd_scope.1 nd_scope.2) (cm_v (i := 10) rfl (by first | exact Or.inl rfl | exact Or.inr (Or.inl rfl) | exact Or.inr (Or.inr rfl)) nd_other.1 nd_other.2) (fun _ _ => rfl)) (fun _ => rfl)) rfl (.inl rfl) | exact c1_setDc (iy := 9) (own := [("other", 10)]) rfl sc_Checker_loop.nd (blkOk_by (N := N_Checker_loop) (sc := defScope s_Checker_loop) (by decide +kernel)) (bind1 (by decide)) (fun _ _ _ _ _ => L2.pg_name sc_Checker_loop.nd (i := 10) rfl (.inl rfl) (.inr rfl)) (ci_dct (cm_v (i := 2) rfl vs_Checker_loop_scope nd_scope.1 nd_scope.2)) (fun _ _ _ _ _ => cts_nil) (fun _ _ _ _ _ => cm_v (i := 10) rfl (by first | exact Or.inl rfl | exact Or.inr (Or.inl rfl) | exact Or.inr (Or.inr rfl)) nd_other.1 nd_other.2) (fun _ _ _ _ _ => cm_dget hr (cm_v (i := 2) rfl (by first | exact Or.inl rfl | exact Or.inr (Or.inl rfl) | exact Or.inr (Or.inr rfl)) nd_scope.1 nd_scope.2) (cm_v (i := 10) rfl (by first | exact Or.inl rfl | exact Or.inr (Or.inl rfl) | exact Or.inr (Or.inr rfl)) nd_other.1 nd_other.2) (fun _ _ => rfl)) rfl rfl (sw_trueD rfl rfl rfl (by decide +kernel)) (fun _ => rfl)))
  (cs_cons (c1_dput hr (cm_v (i := 9) rfl vs_Checker_loop_inner nd_inner.1 nd_inner.2) (cm_v (i := 5) rfl vs_Checker_loop_name nd_name.1 nd_name.2) (cm_glob T.c_VARIABLE g_Checker_loop_VARIABLE nd_VARIABLE.1) rfl)
  (cs_one (c1_frzV (i := 9) (c1_expr (cm_meth C_Checker_statements fn_statements T.cl_Checker (hr.mono (by omega)) (cm_v (i := 0) rfl vs_Checker_loop_self nd_self.1 nd_self.2) (ca_cons (cm_v (i := 8) rfl vs_Checker_loop_body nd_body.1 nd_body.2) (ca_cons (cm_frz (cm_v (i := 9) rfl vs_Checker_loop_inner nd_inner.1 nd_inner.2)) (ca_cons (cm_v (i := 3) rfl vs_Checker_loop_owner nd_owner.1 nd_owner.2) (ca_nil) rfl) rfl) rfl) rfl rfl rfl) rfl))))))))
def TS_4 (CS : Nat → Addr) : Nat → Nat → FT
  | 0 => fun _ => noT
  | n + 1 => fun i => match i with | 0 => B_Checker_statements CS (TS_4 CS n) | _ => B_Checker_loop CS (TS_4 CS n)
def T_Checker_statements (CS : Nat → Addr) : FT := TS_4 CS 20 0
def T_Checker_loop (CS : Nat → Addr) : FT := TS_4 CS 20 1
abbrev s_Checker_body : Stmt := inClass (top 22) 1
abbrev N_Checker_body : List Str := ["self", "body", "scope", "owner", "many", "deep", "loops"]
theorem sc_Checker_body : FnScope N_Checker_body ["self", "body", "scope", "owner"] (defScope s_Checker_body) := ⟨rfl, rfl, rfl, by decide +kernel, rfl, by decide +kernel, by decide +kernel⟩
theorem lo_Checker_body_self : Loc (defScope s_Checker_body) "self" := by first | exact .inl rfl | exact .inr rfl
theorem vs_Checker_body_self : Vis (defScope s_Checker_body) "self" := lo_Checker_body_self.elim .inl fun z => .inr (.inl z)
theorem lo_Checker_body_body : Loc (defScope s_Checker_body) "body" := by first | exact .inl rfl | exact .inr rfl
theorem vs_Checker_body_body : Vis (defScope s_Checker_body) "body" := lo_Checker_body_body.elim .inl fun z => .inr (.inl z)
theorem lo_Checker_body_scope : Loc (defScope s_Checker_body) "scope" := by first | exact .inl rfl | exact .inr rfl
theorem vs_Checker_body_scope : Vis (defScope s_Checker_body) "scope" := lo_Checker_body_scope.elim .inl fun z => .inr (.inl z)
theorem lo_Checker_body_owner : Loc (defScope s_Checker_body) "owner" := by first | exact .inl rfl | exact .inr rfl
theorem vs_Checker_body_owner : Vis (defScope s_Checker_body) "owner" := lo_Checker_body_owner.elim .inl fun z => .inr (.inl z)
theorem lo_Checker_body_many : Loc (defScope s_Checker_body) "many" := by first | exact .inl rfl | exact .inr rfl
theorem vs_Checker_body_many : Vis (defScope s_Checker_body) "many" := lo_Checker_body_many.elim .inl fun z => .inr (.inl z)
theorem lo_Checker_body_deep : Loc (defScope s_Checker_body) "deep" := by first | exact .inl rfl | exact .inr rfl
theorem vs_Checker_body_deep : Vis (defScope s_Checker_body) "deep" := lo_Checker_body_deep.elim .inl fun z => .inr (.inl z)
theorem lo_Checker_body_loops : Loc (defScope s_Checker_body) "loops" := by first | exact .inl rfl | exact .inr rfl
theorem vs_Checker_body_loops : Vis (defScope s_Checker_body) "loops" := lo_Checker_body_loops.elim .inl fun z => .inr (.inl z)
theorem g_Checker_body__count : (defScope s_Checker_body).names.lookup ("_count" : Str) = some .globalImplicit := rfl
theorem g_Checker_body__require : (defScope s_Checker_body).names.lookup ("_require" : Str) = some .globalImplicit := rfl
def T_Checker_body (CS : Nat → Addr) : FT := fnT 7 (sCo (sAsg (gTup 3 (gsC (gName 4) (gsC (gName 5) (gsC (gName 6) (gsN))))) (eCall (T__count CS) (aC (eV 1) (aN)))) (
  sCo (sExpr (eCall (T__require CS) (aC (eAnd (eBin oLe (eV 4) (eC (.int 200))) (eAnd (eBin oLe (eV 5) (eC (.int 8))) (eBin oLe (eV 6) (eC (.int 4))))) (aC (eC (.str "size")) (aN))))) (
  sExpr (eMeth (CS 0) f_statements (T_Checker_statements CS) (eV 0) (aC (eV 1) (aC (eV 2) (aC (eV 3) (aN))))))))
theorem ok_Checker_body {f : Addr} {fd : FuncData} {CS : Nat → Addr} (F : Fun K "body" "Checker.body" s_Checker_body f fd) (T : Txt w K mg CS) (C__count : CalX P w K mg base 11 "_count" 1 (T__count CS)) (C__require : CalX P w K mg base 3 "_require" 2 (T__require CS)) (C_Checker_statements : CalM P w K mg base 38 (CS 0) "statements" 4 (T_Checker_statements CS)) : FnOk P w K mg base (L2.CX P w) 39 f fd ["self", "body", "scope", "owner"] (spX K 4 (T_Checker_body CS)) :=
  okX F sc_Checker_body rfl rfl (by decide) fun cdv A outer s H E hr =>
  cs_cons (c1_asg (cg_tup rfl (cgs_cons (cg_name sc_Checker_body.nd rfl lo_Checker_body_many (.inl rfl)) (cgs_cons (cg_name sc_Checker_body.nd rfl lo_Checker_body_deep (.inl rfl)) (cgs_cons (cg_name sc_Checker_body.nd rfl lo_Checker_body_loops (.inl rfl)) (cgs_nil) rfl) rfl) rfl) rfl rfl) (cm_call C__count (hr.mono (by decide)) g_Checker_body__count (ca_cons (cm_v (i := 1) rfl vs_Checker_body_body nd_body.1 nd_body.2) (ca_nil) rfl) nd__count.1 rfl rfl) rfl rfl rfl)
  (cs_cons (c1_expr (cm_call C__require (hr.mono (by decide)) g_Checker_body__require (ca_cons (cm_and (cm_cmp cmo_le (cm_v (i := 4) rfl vs_Checker_body_many nd_many.1 nd_many.2) (cm_int) rfl) (cm_and (cm_cmp cmo_le (cm_v (i := 5) rfl vs_Checker_body_deep nd_deep.1 nd_deep.2) (cm_int) rfl) (cm_one (cm_cmp cmo_le (cm_v (i := 6) rfl vs_Checker_body_loops nd_loops.1 nd_loops.2) (cm_int) rfl)))) (ca_cons (cm_str) (ca_nil) rfl) rfl) nd__require.1 rfl rfl) rfl)
  (cs_one (c1_expr (cm_meth C_Checker_statements fn_statements T.cl_Checker (hr.mono (by decide)) (cm_v (i := 0) rfl vs_Checker_body_self nd_self.1 nd_self.2) (ca_cons (cm_v (i := 1) rfl vs_Checker_body_body nd_body.1 nd_body.2) (ca_cons (cm_v (i := 2) rfl vs_Checker_body_scope nd_scope.1 nd_scope.2) (ca_cons (cm_v (i := 3) rfl vs_Checker_body_owner nd_owner.1 nd_owner.2) (ca_nil) rfl) rfl) rfl) rfl rfl rfl) rfl)))
abbrev s__check_operation : Stmt := top 26
abbrev N__check_operation : List Str := ["checker", "at", "part", "operation", "fields", "known", "_", "name", "params", "declared", "body", "result", "scope", "other", "param"]
theorem sc__check_operation : FnScope N__check_operation ["checker", "at", "part", "operation", "fields", "known"] (defScope s__check_operation) := ⟨rfl, rfl, rfl, by decide +kernel, rfl, by decide +kernel, by decide +kernel⟩
theorem lo__check_operation_checker : Loc (defScope s__check_operation) "checker" := by first | exact .inl rfl | exact .inr rfl
theorem vs__check_operation_checker : Vis (defScope s__check_operation) "checker" := lo__check_operation_checker.elim .inl fun z => .inr (.inl z)
theorem lo__check_operation_at : Loc (defScope s__check_operation) "at" := by first | exact .inl rfl | exact .inr rfl
theorem vs__check_operation_at : Vis (defScope s__check_operation) "at" := lo__check_operation_at.elim .inl fun z => .inr (.inl z)
theorem lo__check_operation_part : Loc (defScope s__check_operation) "part" := by first | exact .inl rfl | exact .inr rfl
theorem vs__check_operation_part : Vis (defScope s__check_operation) "part" := lo__check_operation_part.elim .inl fun z => .inr (.inl z)
theorem lo__check_operation_operation : Loc (defScope s__check_operation) "operation" := by first | exact .inl rfl | exact .inr rfl
theorem vs__check_operation_operation : Vis (defScope s__check_operation) "operation" := lo__check_operation_operation.elim .inl fun z => .inr (.inl z)
theorem lo__check_operation_fields : Loc (defScope s__check_operation) "fields" := by first | exact .inl rfl | exact .inr rfl
theorem vs__check_operation_fields : Vis (defScope s__check_operation) "fields" := lo__check_operation_fields.elim .inl fun z => .inr (.inl z)
theorem lo__check_operation_known : Loc (defScope s__check_operation) "known" := by first | exact .inl rfl | exact .inr rfl
theorem vs__check_operation_known : Vis (defScope s__check_operation) "known" := lo__check_operation_known.elim .inl fun z => .inr (.inl z)
theorem lo__check_operation__ : Loc (defScope s__check_operation) "_" := by first | exact .inl rfl | exact .inr rfl
theorem vs__check_operation__ : Vis (defScope s__check_operation) "_" := lo__check_operation__.elim .inl fun z => .inr (.inl z)
theorem lo__check_operation_name : Loc (defScope s__check_operation) "name" := by first | exact .inl rfl | exact .inr rfl
theorem vs__check_operation_name : Vis (defScope s__check_operation) "name" := lo__check_operation_name.elim .inl fun z => .inr (.inl z)
theorem lo__check_operation_params : Loc (defScope s__check_operation) "params" := by first | exact .inl rfl | exact .inr rfl
theorem vs__check_operation_params : Vis (defScope s__check_operation) "params" := lo__check_operation_params.elim .inl fun z => .inr (.inl z)
theorem lo__check_operation_declared : Loc (defScope s__check_operation) "declared" := by first | exact .inl rfl | exact .inr rfl
theorem vs__check_operation_declared : Vis (defScope s__check_operation) "declared" := lo__check_operation_declared.elim .inl fun z => .inr (.inl z)
theorem lo__check_operation_body : Loc (defScope s__check_operation) "body" := by first | exact .inl rfl | exact .inr rfl
theorem vs__check_operation_body : Vis (defScope s__check_operation) "body" := lo__check_operation_body.elim .inl fun z => .inr (.inl z)
theorem lo__check_operation_result : Loc (defScope s__check_operation) "result" := by first | exact .inl rfl | exact .inr rfl
theorem vs__check_operation_result : Vis (defScope s__check_operation) "result" := lo__check_operation_result.elim .inl fun z => .inr (.inl z)
theorem lo__check_operation_scope : Loc (defScope s__check_operation) "scope" := by first | exact .inl rfl | exact .inr rfl
theorem vs__check_operation_scope : Vis (defScope s__check_operation) "scope" := lo__check_operation_scope.elim .inl fun z => .inr (.inl z)
theorem g__check_operation__require : (defScope s__check_operation).names.lookup ("_require" : Str) = some .globalImplicit := rfl
theorem g__check_operation_len : (defScope s__check_operation).names.lookup ("len" : Str) = some .globalImplicit := rfl
theorem g__check_operation_is_name : (defScope s__check_operation).names.lookup ("is_name" : Str) = some .globalImplicit := rfl
theorem g__check_operation__declare : (defScope s__check_operation).names.lookup ("_declare" : Str) = some .globalImplicit := rfl
theorem g__check_operation__check_expression : (defScope s__check_operation).names.lookup ("_check_expression" : Str) = some .globalImplicit := rfl
def T__check_operation (CS : Nat → Addr) : FT := fnT 15 (sCo (sAsg (gTup 6 (gsC (gName 6) (gsC (gName 7) (gsC (gName 8) (gsC (gName 9) (gsC (gName 10) (gsC (gName 11) (gsN)))))))) (eV 3)) (
  sCo (sExpr (eCall (T__require CS) (aC (eAnd (eBin oLe (eCB cLen (aC (eV 8) (aN))) (eC (.int 4))) (eBin oLe (eCB cLen (aC (eV 9) (aN))) (eC (.int 16)))) (aC (eC (.str "size")) (aN))))) (
  sCo (sExpr (eCall (T__require CS) (aC (eAnd (eCall (T_is_name CS) (aC (eV 7) (aN))) (eBin oNotInD (eV 7) (eV 5))) (aC (eC (.str "name")) (aN))))) (
  sCo (sDPut (eV 5) (eV 7) (eC (.bl true))) (
  sCo (sSet 12 (eDc [13] (b1 13) (iDct (eV 4)) (tYes) (eV 13) (eDGet (eV 4) (eV 13)))) (
  sCo (sExpr (eCall (T__declare CS) (aC (eLc false [14] (b1 14) (iSeq (eV 8)) (tYes) (eTup (aC (eV 14) (aC (eC (.int 0)) (aN))))) (aC (eV 12) (aN))))) (
  sCo (sExpr (eCall (T__declare CS) (aC (eV 9) (aC (eV 12) (aN))))) (
  sCo (sFrzV 12 (sExpr (eMeth (CS 0) f_body (T_Checker_body CS) (eV 0) (aC (eV 10) (aC (eFrz (eV 12)) (aC (eV 1) (aN))))))) (
  sIf (tCmp oNotN (eV 11) (eC .non)) (sExpr (eCall (T__check_expression CS) (aC (eV 11) (aC (eV 12) (aC (eC (.int 6)) (aN)))))) (sNo))))))))))
theorem ok__check_operation {f : Addr} {fd : FuncData} {CS : Nat → Addr} (F : Fun K "_check_operation" "_check_operation" s__check_operation f fd) (T : Txt w K mg CS) (C__require : CalX P w K mg base 3 "_require" 2 (T__require CS)) (C__declare : CalX P w K mg base 4 "_declare" 2 (T__declare CS)) (C_Checker_body : CalM P w K mg base 39 (CS 0) "body" 4 (T_Checker_body CS)) (C__check_expression : CalX P w K mg base 15 "_check_expression" 3 (T__check_expression CS)) (C_is_name : CalX P w K mg base 2 "is_name" 1 (T_is_name CS)) : FnOk P w K mg base (L2.CX P w) 40 f fd ["checker", "at", "part", "operation", "fields", "known"] (spX K 6 (T__check_operation CS)) :=
  okX F sc__check_operation rfl rfl (by decide) fun cdv A outer s H E hr =>
  cs_cons (c1_asg (cg_tup rfl (cgs_cons (cg_name sc__check_operation.nd rfl lo__check_operation__ (.inl rfl)) (cgs_cons (cg_name sc__check_operation.nd rfl lo__check_operation_name (.inl rfl)) (cgs_cons (cg_name sc__check_operation.nd rfl lo__check_operation_params (.inl rfl)) (cgs_cons (cg_name sc__check_operation.nd rfl lo__check_operation_declared (.inl rfl)) (cgs_cons (cg_name sc__check_operation.nd rfl lo__check_operation_body (.inl rfl)) (cgs_cons (cg_name sc__check_operation.nd rfl lo__check_operation_result (.inl rfl)) (cgs_nil) rfl) rfl) rfl) rfl) rfl) rfl) rfl rfl) (cm_v (i := 3) rfl vs__check_operation_operation nd_operation.1 nd_operation.2) rfl rfl rfl)
  (cs_cons (c1_expr (cm_call C__require (hr.mono (by decide)) g__check_operation__require (ca_cons (cm_and (cm_cmp cmo_le (cm_callB cmc_len bb_len T.b_len g__check_operation_len (ca_cons (cm_v (i := 8) rfl vs__check_operation_params nd_params.1 nd_params.2) (ca_nil) rfl) nn_len nd_len.1 rfl rfl) (cm_int) rfl) (cm_one (cm_cmp cmo_le (cm_callB cmc_len bb_len T.b_len g__check_operation_len (ca_cons (cm_v (i := 9) rfl vs__check_operation_declared nd_declared.1 nd_declared.2) (ca_nil) rfl) nn_len nd_len.1 rfl rfl) (cm_int) rfl))) (ca_cons (cm_str) (ca_nil) rfl) rfl) nd__require.1 rfl rfl) rfl)
  (cs_cons (c1_expr (cm_call C__require (hr.mono (by decide)) g__check_operation__require (ca_cons (cm_and (cm_call C_is_name (hr.mono (by decide)) g__check_operation_is_name (ca_cons (cm_v (i := 7) rfl vs__check_operation_name nd_name.1 nd_name.2) (ca_nil) rfl) nd_is_name.1 rfl rfl) (cm_one (cm_cmp (cmo_notInD hr) (cm_v (i := 7) rfl vs__check_operation_name nd_name.1 nd_name.2) (cm_v (i := 5) rfl vs__check_operation_known nd_known.1 nd_known.2) rfl))) (ca_cons (cm_str) (ca_nil) rfl) rfl) nd__require.1 rfl rfl) rfl)
  (cs_cons (c1_dput hr (cm_v (i := 5) rfl vs__check_operation_known nd_known.1 nd_known.2) (cm_v (i := 7) rfl vs__check_operation_name nd_name.1 nd_name.2) (cm_bl) rfl)
  (cs_cons ((by first | exact c1_set sc__check_operation.nd rfl lo__check_operation_scope (cm_dc (own := [("other", 13)]) rfl sc__check_operation.nd (blkOk_by (N := N__check_operation) (sc := defScope s__check_operation) (by decide +kernel)) (bind1 (by decide)) (fun _ _ _ _ _ => L2.pg_name sc__check_operation.nd (i := 13) rfl (.inl rfl) (.inr rfl)) (ci_dct (cm_v (i := 4) rfl vs__check_operation_fields nd_fields.1 nd_fields.2)) (fun _ _ _ _ _ => cts_nil) (fun _ _ _ _ _ => cm_v (i := 13) rfl (by first | exact Or.inl rfl | exact Or.inr (Or.inl rfl) | exact Or.inr (Or.inr rfl)) nd_other.1 nd_other.2) (fun _ _ _ _ _ => cm_dget hr (cm_v (i := 4) rfl (by first | exact Or.inl rfl | exact Or.inr (Or.inl rfl) | exact Or.inr (Or.inr rfl)) nd_fields.1 nd_fields.2) (cm_v (i := 13) rfl (by first | exact Or.inl rfl | exact Or.inr (Or.inl rfl) | exact Or.inr (Or.inr rfl)) nd_other.1 nd_other.2) (fun _ _ => rfl)) (fun _ => rfl)) rfl (.inl rfl) | exact c1_setDc (iy := 12) (own := [("other", 13)]) rfl sc__check_operation.nd (blkOk_by (N := N__check_operation) (sc := defScope s__check_operation) (by decide +kernel)) (bind1 (by decide)) (fun _ _ _ _ _ => L2.pg_name sc__check_operation.nd (i := 13) rfl (.inl rfl) (.inr rfl)) (ci_dct (cm_v (i := 4) rfl vs__check_operation_fields nd_fields.1 nd_fields.2)) (fun _ _ _ _ _ => cts_nil) (fun _ _ _ _ _ => cm_v (i := 13) rfl (by first | exact Or.inl rfl | exact Or.inr (Or.inl rfl) | exact Or.inr (Or.inr rfl)) nd_other.1 nd_other.2) (fun _ _ _ _ _ => cm_dget hr (cm_v (i := 4) rfl (by first | exact Or.inl rfl | exact Or.inr (Or.inl rfl) | exact Or.inr (Or.inr rfl)) nd_fields.1 nd_fields.2) (cm_v (i := 13) rfl (by first | exact Or.inl rfl | exact Or.inr (Or.inl rfl) | exact Or.inr (Or.inr rfl)) nd_other.1 nd_other.2) (fun _ _ => rfl)) rfl rfl (sw_trueD rfl rfl rfl (by decide +kernel)) (fun _ => rfl)))
  (cs_cons (c1_expr (cm_call C__declare (hr.mono (by decide)) g__check_operation__declare (ca_cons (cm_lc (own := [("param", 14)]) rfl sc__check_operation.nd (blkOk_by (N := N__check_operation) (sc := defScope s__check_operation) (by decide +kernel)) (bind1 (by decide)) (fun _ _ _ _ _ => L2.pg_name sc__check_operation.nd (i := 14) rfl (.inl rfl) (.inr rfl)) (ci_seq (cm_v (i := 8) rfl vs__check_operation_params nd_params.1 nd_params.2)) (fun _ _ _ _ _ => cts_nil) (fun _ _ _ _ _ => cm_tup (ca_cons (cm_v (i := 14) rfl (by first | exact Or.inl rfl | exact Or.inr (Or.inl rfl) | exact Or.inr (Or.inr rfl)) nd_param.1 nd_param.2) (ca_cons (cm_int) (ca_nil) rfl) rfl) (by decide)) (fun _ => rfl)) (ca_cons (cm_v (i := 12) rfl vs__check_operation_scope nd_scope.1 nd_scope.2) (ca_nil) rfl) rfl) nd__declare.1 rfl rfl) rfl)
  (cs_cons (c1_expr (cm_call C__declare (hr.mono (by decide)) g__check_operation__declare (ca_cons (cm_v (i := 9) rfl vs__check_operation_declared nd_declared.1 nd_declared.2) (ca_cons (cm_v (i := 12) rfl vs__check_operation_scope nd_scope.1 nd_scope.2) (ca_nil) rfl) rfl) nd__declare.1 rfl rfl) rfl)
  (cs_cons (c1_frzV (i := 12) (c1_expr (cm_meth C_Checker_body fn_body T.cl_Checker (hr.mono (by decide)) (cm_v (i := 0) rfl vs__check_operation_checker nd_checker.1 nd_checker.2) (ca_cons (cm_v (i := 10) rfl vs__check_operation_body nd_body.1 nd_body.2) (ca_cons (cm_frz (cm_v (i := 12) rfl vs__check_operation_scope nd_scope.1 nd_scope.2)) (ca_cons (cm_v (i := 1) rfl vs__check_operation_at nd_at.1 nd_at.2) (ca_nil) rfl) rfl) rfl) rfl rfl rfl) rfl))
  (cs_one (c1_if (ct_cmp cmo_notN (cm_v (i := 11) rfl vs__check_operation_result nd_result.1 nd_result.2) (cm_non) rfl) (cs_one (c1_expr (cm_call C__check_expression (hr.mono (by decide)) g__check_operation__check_expression (ca_cons (cm_v (i := 11) rfl vs__check_operation_result nd_result.1 nd_result.2) (ca_cons (cm_v (i := 12) rfl vs__check_operation_scope nd_scope.1 nd_scope.2) (ca_cons (cm_int) (ca_nil) rfl) rfl) rfl) nd__check_expression.1 rfl rfl) rfl)) (cs_nil))))))))))
abbrev s__check_objects : Stmt := top 27
abbrev N__check_objects : List Str := ["program", "names", "checker", "at", "part", "fields", "known", "operation"]
theorem sc__check_objects : FnScope N__check_objects ["program", "names", "checker"] (defScope s__check_objects) := ⟨rfl, rfl, rfl, by decide +kernel, rfl, by decide +kernel, by decide +kernel⟩
theorem lo__check_objects_program : Loc (defScope s__check_objects) "program" := by first | exact .inl rfl | exact .inr rfl
theorem vs__check_objects_program : Vis (defScope s__check_objects) "program" := lo__check_objects_program.elim .inl fun z => .inr (.inl z)
theorem lo__check_objects_names : Loc (defScope s__check_objects) "names" := by first | exact .inl rfl | exact .inr rfl
theorem vs__check_objects_names : Vis (defScope s__check_objects) "names" := lo__check_objects_names.elim .inl fun z => .inr (.inl z)
theorem lo__check_objects_checker : Loc (defScope s__check_objects) "checker" := by first | exact .inl rfl | exact .inr rfl
theorem vs__check_objects_checker : Vis (defScope s__check_objects) "checker" := lo__check_objects_checker.elim .inl fun z => .inr (.inl z)
theorem lo__check_objects_at : Loc (defScope s__check_objects) "at" := by first | exact .inl rfl | exact .inr rfl
theorem vs__check_objects_at : Vis (defScope s__check_objects) "at" := lo__check_objects_at.elim .inl fun z => .inr (.inl z)
theorem lo__check_objects_part : Loc (defScope s__check_objects) "part" := by first | exact .inl rfl | exact .inr rfl
theorem vs__check_objects_part : Vis (defScope s__check_objects) "part" := lo__check_objects_part.elim .inl fun z => .inr (.inl z)
theorem lo__check_objects_fields : Loc (defScope s__check_objects) "fields" := by first | exact .inl rfl | exact .inr rfl
theorem vs__check_objects_fields : Vis (defScope s__check_objects) "fields" := lo__check_objects_fields.elim .inl fun z => .inr (.inl z)
theorem lo__check_objects_known : Loc (defScope s__check_objects) "known" := by first | exact .inl rfl | exact .inr rfl
theorem vs__check_objects_known : Vis (defScope s__check_objects) "known" := lo__check_objects_known.elim .inl fun z => .inr (.inl z)
theorem lo__check_objects_operation : Loc (defScope s__check_objects) "operation" := by first | exact .inl rfl | exact .inr rfl
theorem vs__check_objects_operation : Vis (defScope s__check_objects) "operation" := lo__check_objects_operation.elim .inl fun z => .inr (.inl z)
theorem g__check_objects__require : (defScope s__check_objects).names.lookup ("_require" : Str) = some .globalImplicit := rfl
theorem g__check_objects_len : (defScope s__check_objects).names.lookup ("len" : Str) = some .globalImplicit := rfl
theorem g__check_objects_enumerate : (defScope s__check_objects).names.lookup ("enumerate" : Str) = some .globalImplicit := rfl
theorem g__check_objects_is_name : (defScope s__check_objects).names.lookup ("is_name" : Str) = some .globalImplicit := rfl
theorem g__check_objects__declare : (defScope s__check_objects).names.lookup ("_declare" : Str) = some .globalImplicit := rfl
theorem g__check_objects__check_operation : (defScope s__check_objects).names.lookup ("_check_operation" : Str) = some .globalImplicit := rfl
def T__check_objects (CS : Nat → Addr) : FT := fnT 8 (sCo (sExpr (eCall (T__require CS) (aC (eBin oLe (eCB cLen (aC (eIx oIx (eV 0) (eC (.int 3))) (aN))) (eC (.int 4))) (aC (eC (.str "size")) (aN))))) (
  sFor (gTup 2 (gsC (gName 3) (gsC (gName 4) (gsN)))) (iEnA (eIx oIx (eV 0) (eC (.int 3)))) (sCo (sExpr (eCall (T__require CS) (aC (eAnd (eBin oLe (eCB cLen (aC (eIx oIx (eV 4) (eC (.int 2))) (aN))) (eC (.int 16))) (eBin oLe (eCB cLen (aC (eIx oIx (eV 4) (eC (.int 3))) (aN))) (eC (.int 4)))) (aC (eC (.str "size")) (aN))))) (
  sCo (sExpr (eCall (T__require CS) (aC (eAnd (eCall (T_is_name CS) (aC (eIx oIx (eV 4) (eC (.int 1))) (aN))) (eBin oNotInD (eIx oIx (eV 4) (eC (.int 1))) (eV 1))) (aC (eC (.str "name")) (aN))))) (
  sCo (sDPut (eV 1) (eIx oIx (eV 4) (eC (.int 1))) (eC (.bl true))) (
  sCo (sSet 5 (eDNew)) (
  sCo (sExpr (eCall (T__declare CS) (aC (eIx oIx (eV 4) (eC (.int 2))) (aC (eV 5) (aN))))) (
  sCo (sFrzV 5 (sSet 6 (eDNew))) (
  sFor (gName 7) (iSeq (eIx oIx (eV 4) (eC (.int 3)))) (sExpr (eCall (T__check_operation CS) (aC (eV 2) (aC (eV 3) (aC (eV 4) (aC (eV 7) (aC (eV 5) (aC (eV 6) (aN))))))))))))))))))
theorem ok__check_objects {f : Addr} {fd : FuncData} {CS : Nat → Addr} (F : Fun K "_check_objects" "_check_objects" s__check_objects f fd) (T : Txt w K mg CS) (C__require : CalX P w K mg base 3 "_require" 2 (T__require CS)) (C__declare : CalX P w K mg base 4 "_declare" 2 (T__declare CS)) (C__check_operation : CalX P w K mg base 40 "_check_operation" 6 (T__check_operation CS)) (C_is_name : CalX P w K mg base 2 "is_name" 1 (T_is_name CS)) : FnOk P w K mg base (L2.CX P w) 41 f fd ["program", "names", "checker"] (spX K 3 (T__check_objects CS)) :=
  okX F sc__check_objects rfl rfl (by decide) fun cdv A outer s H E hr =>
  cs_cons (c1_expr (cm_call C__require (hr.mono (by decide)) g__check_objects__require (ca_cons (cm_cmp cmo_le (cm_callB cmc_len bb_len T.b_len g__check_objects_len (ca_cons (cm_ix cmi_ix (cm_v (i := 0) rfl vs__check_objects_program nd_program.1 nd_program.2) (cm_int) (fun _ _ => rfl)) (ca_nil) rfl) nn_len nd_len.1 rfl rfl) (cm_int) rfl) (ca_cons (cm_str) (ca_nil) rfl) rfl) nd__require.1 rfl rfl) rfl)
  (cs_one (c1_for (cg_tup rfl (cgs_cons (cg_name sc__check_objects.nd rfl lo__check_objects_at (.inl rfl)) (cgs_cons (cg_name sc__check_objects.nd rfl lo__check_objects_part (.inl rfl)) (cgs_nil) rfl) rfl) rfl rfl) (ci_enA g__check_objects_enumerate T.b_enumerate (cm_ix cmi_ix (cm_v (i := 0) rfl vs__check_objects_program nd_program.1 nd_program.2) (cm_int) (fun _ _ => rfl)) rfl) (cs_cons (c1_expr (cm_call C__require (hr.mono (by decide)) g__check_objects__require (ca_cons (cm_and (cm_cmp cmo_le (cm_callB cmc_len bb_len T.b_len g__check_objects_len (ca_cons (cm_ix cmi_ix (cm_v (i := 4) rfl vs__check_objects_part nd_part.1 nd_part.2) (cm_int) (fun _ _ => rfl)) (ca_nil) rfl) nn_len nd_len.1 rfl rfl) (cm_int) rfl) (cm_one (cm_cmp cmo_le (cm_callB cmc_len bb_len T.b_len g__check_objects_len (ca_cons (cm_ix cmi_ix (cm_v (i := 4) rfl vs__check_objects_part nd_part.1 nd_part.2) (cm_int) (fun _ _ => rfl)) (ca_nil) rfl) nn_len nd_len.1 rfl rfl) (cm_int) rfl))) (ca_cons (cm_str) (ca_nil) rfl) rfl) nd__require.1 rfl rfl) rfl)
  (cs_cons (c1_expr (cm_call C__require (hr.mono (by decide)) g__check_objects__require (ca_cons (cm_and (cm_call C_is_name (hr.mono (by decide)) g__check_objects_is_name (ca_cons (cm_ix cmi_ix (cm_v (i := 4) rfl vs__check_objects_part nd_part.1 nd_part.2) (cm_int) (fun _ _ => rfl)) (ca_nil) rfl) nd_is_name.1 rfl rfl) (cm_one (cm_cmp (cmo_notInD hr) (cm_ix cmi_ix (cm_v (i := 4) rfl vs__check_objects_part nd_part.1 nd_part.2) (cm_int) (fun _ _ => rfl)) (cm_v (i := 1) rfl vs__check_objects_names nd_names.1 nd_names.2) rfl))) (ca_cons (cm_str) (ca_nil) rfl) rfl) nd__require.1 rfl rfl) rfl)
  (cs_cons (c1_dput hr (cm_v (i := 1) rfl vs__check_objects_names nd_names.1 nd_names.2) (cm_ix cmi_ix (cm_v (i := 4) rfl vs__check_objects_part nd_part.1 nd_part.2) (cm_int) (fun _ _ => rfl)) (cm_bl) rfl)
  (cs_cons (c1_set sc__check_objects.nd rfl lo__check_objects_fields (cm_dnew) rfl (.inl rfl))
  (cs_cons (c1_expr (cm_call C__declare (hr.mono (by decide)) g__check_objects__declare (ca_cons (cm_ix cmi_ix (cm_v (i := 4) rfl vs__check_objects_part nd_part.1 nd_part.2) (cm_int) (fun _ _ => rfl)) (ca_cons (cm_v (i := 5) rfl vs__check_objects_fields nd_fields.1 nd_fields.2) (ca_nil) rfl) rfl) nd__declare.1 rfl rfl) rfl)
  (cs_cons (c1_frzV (i := 5) (c1_set sc__check_objects.nd rfl lo__check_objects_known (cm_dnew) rfl (.inl rfl)))
  (cs_one (c1_for (cg_name sc__check_objects.nd rfl lo__check_objects_operation (.inl rfl)) (ci_seq (cm_ix cmi_ix (cm_v (i := 4) rfl vs__check_objects_part nd_part.1 nd_part.2) (cm_int) (fun _ _ => rfl))) (cs_one (c1_expr (cm_call C__check_operation (hr.mono (by decide)) g__check_objects__check_operation (ca_cons (cm_v (i := 2) rfl vs__check_objects_checker nd_checker.1 nd_checker.2) (ca_cons (cm_v (i := 3) rfl vs__check_objects_at nd_at.1 nd_at.2) (ca_cons (cm_v (i := 4) rfl vs__check_objects_part nd_part.1 nd_part.2) (ca_cons (cm_v (i := 7) rfl vs__check_objects_operation nd_operation.1 nd_operation.2) (ca_cons (cm_v (i := 5) rfl vs__check_objects_fields nd_fields.1 nd_fields.2) (ca_cons (cm_v (i := 6) rfl vs__check_objects_known nd_known.1 nd_known.2) (ca_nil) rfl) rfl) rfl) rfl) rfl) rfl) nd__check_operation.1 rfl rfl) rfl)) rfl pass_cx (fun _ => rfl))))))))) rfl pass_cx (fun _ => rfl)))
abbrev s__check_times : Stmt := top 28
abbrev N__check_times : List Str := ["part", "names"]
theorem sc__check_times : FnScope N__check_times ["part", "names"] (defScope s__check_times) := ⟨rfl, rfl, rfl, by decide +kernel, rfl, by decide +kernel, by decide +kernel⟩
theorem lo__check_times_part : Loc (defScope s__check_times) "part" := by first | exact .inl rfl | exact .inr rfl
theorem vs__check_times_part : Vis (defScope s__check_times) "part" := lo__check_times_part.elim .inl fun z => .inr (.inl z)
theorem lo__check_times_names : Loc (defScope s__check_times) "names" := by first | exact .inl rfl | exact .inr rfl
theorem vs__check_times_names : Vis (defScope s__check_times) "names" := lo__check_times_names.elim .inl fun z => .inr (.inl z)
theorem g__check_times__require : (defScope s__check_times).names.lookup ("_require" : Str) = some .globalImplicit := rfl
theorem g__check_times_LONGEST : (defScope s__check_times).names.lookup ("LONGEST" : Str) = some .globalImplicit := rfl
theorem g__check_times_is_name : (defScope s__check_times).names.lookup ("is_name" : Str) = some .globalImplicit := rfl
def T__check_times (CS : Nat → Addr) : FT := fnT 2 (sCo (sExpr (eCall (T__require CS) (aC (eChain3 oLe oLe oLe (eC (.int 1)) (eIx oIx (eV 0) (eC (.int 3))) (eIx oIx (eV 0) (eC (.int 2))) (eC (.int 4194304))) (aC (eC (.str "size")) (aN))))) (
  sCo (sExpr (eCall (T__require CS) (aC (eAnd (eCall (T_is_name CS) (aC (eIx oIx (eV 0) (eC (.int 1))) (aN))) (eBin oNotInD (eIx oIx (eV 0) (eC (.int 1))) (eV 1))) (aC (eC (.str "name")) (aN))))) (
  sDPut (eV 1) (eIx oIx (eV 0) (eC (.int 1))) (eC (.bl true)))))
theorem ok__check_times {f : Addr} {fd : FuncData} {CS : Nat → Addr} (F : Fun K "_check_times" "_check_times" s__check_times f fd) (T : Txt w K mg CS) (C__require : CalX P w K mg base 3 "_require" 2 (T__require CS)) (C_is_name : CalX P w K mg base 2 "is_name" 1 (T_is_name CS)) : FnOk P w K mg base (L2.CX P w) 4 f fd ["part", "names"] (spX K 2 (T__check_times CS)) :=
  okX F sc__check_times rfl rfl (by decide) fun cdv A outer s H E hr =>
  cs_cons (c1_expr (cm_call C__require (hr.mono (by decide)) g__check_times__require (ca_cons (cm_chain3 cmo_le cmo_le cmo_le (cm_int) (cm_ix cmi_ix (cm_v (i := 0) rfl vs__check_times_part nd_part.1 nd_part.2) (cm_int) (fun _ _ => rfl)) (cm_ix cmi_ix (cm_v (i := 0) rfl vs__check_times_part nd_part.1 nd_part.2) (cm_int) (fun _ _ => rfl)) (cm_glob T.c_LONGEST g__check_times_LONGEST nd_LONGEST.1) rfl) (ca_cons (cm_str) (ca_nil) rfl) rfl) nd__require.1 rfl rfl) rfl)
  (cs_cons (c1_expr (cm_call C__require (hr.mono (by decide)) g__check_times__require (ca_cons (cm_and (cm_call C_is_name (hr.mono (by decide)) g__check_times_is_name (ca_cons (cm_ix cmi_ix (cm_v (i := 0) rfl vs__check_times_part nd_part.1 nd_part.2) (cm_int) (fun _ _ => rfl)) (ca_nil) rfl) nd_is_name.1 rfl rfl) (cm_one (cm_cmp (cmo_notInD hr) (cm_ix cmi_ix (cm_v (i := 0) rfl vs__check_times_part nd_part.1 nd_part.2) (cm_int) (fun _ _ => rfl)) (cm_v (i := 1) rfl vs__check_times_names nd_names.1 nd_names.2) rfl))) (ca_cons (cm_str) (ca_nil) rfl) rfl) nd__require.1 rfl rfl) rfl)
  (cs_one (c1_dput hr (cm_v (i := 1) rfl vs__check_times_names nd_names.1 nd_names.2) (cm_ix cmi_ix (cm_v (i := 0) rfl vs__check_times_part nd_part.1 nd_part.2) (cm_int) (fun _ _ => rfl)) (cm_bl) rfl)))
abbrev s_check : Stmt := top 29
abbrev N_check : List Str := ["program", "names", "checker", "task", "scope", "interrupt"]
theorem sc_check : FnScope N_check ["program"] (defScope s_check) := ⟨rfl, rfl, rfl, by decide +kernel, rfl, by decide +kernel, by decide +kernel⟩
theorem lo_check_program : Loc (defScope s_check) "program" := by first | exact .inl rfl | exact .inr rfl
theorem vs_check_program : Vis (defScope s_check) "program" := lo_check_program.elim .inl fun z => .inr (.inl z)
theorem lo_check_names : Loc (defScope s_check) "names" := by first | exact .inl rfl | exact .inr rfl
theorem vs_check_names : Vis (defScope s_check) "names" := lo_check_names.elim .inl fun z => .inr (.inl z)
theorem lo_check_checker : Loc (defScope s_check) "checker" := by first | exact .inl rfl | exact .inr rfl
theorem vs_check_checker : Vis (defScope s_check) "checker" := lo_check_checker.elim .inl fun z => .inr (.inl z)
theorem lo_check_task : Loc (defScope s_check) "task" := by first | exact .inl rfl | exact .inr rfl
theorem vs_check_task : Vis (defScope s_check) "task" := lo_check_task.elim .inl fun z => .inr (.inl z)
theorem lo_check_scope : Loc (defScope s_check) "scope" := by first | exact .inl rfl | exact .inr rfl
theorem vs_check_scope : Vis (defScope s_check) "scope" := lo_check_scope.elim .inl fun z => .inr (.inl z)
theorem lo_check_interrupt : Loc (defScope s_check) "interrupt" := by first | exact .inl rfl | exact .inr rfl
theorem vs_check_interrupt : Vis (defScope s_check) "interrupt" := lo_check_interrupt.elim .inl fun z => .inr (.inl z)
theorem g_check_Checker : (defScope s_check).names.lookup ("Checker" : Str) = some .globalImplicit := rfl
theorem g_check__require : (defScope s_check).names.lookup ("_require" : Str) = some .globalImplicit := rfl
theorem g_check_is_name : (defScope s_check).names.lookup ("is_name" : Str) = some .globalImplicit := rfl
theorem g_check__check_ports : (defScope s_check).names.lookup ("_check_ports" : Str) = some .globalImplicit := rfl
theorem g_check__check_objects : (defScope s_check).names.lookup ("_check_objects" : Str) = some .globalImplicit := rfl
theorem g_check_len : (defScope s_check).names.lookup ("len" : Str) = some .globalImplicit := rfl
theorem g_check__check_times : (defScope s_check).names.lookup ("_check_times" : Str) = some .globalImplicit := rfl
theorem g_check__declare : (defScope s_check).names.lookup ("_declare" : Str) = some .globalImplicit := rfl
theorem g_check_check_call : (defScope s_check).names.lookup ("check_call" : Str) = some .globalImplicit := rfl
def T_check (CS : Nat → Addr) : FT := fnT 6 (sCo (sSet 1 (eDNew)) (
  sCo (sSet 2 (eMake (CS 0) (T_Checker___init__ CS) (aC (eV 0) (aN)))) (
  sCo (sExpr (eCall (T__require CS) (aC (eCall (T_is_name CS) (aC (eIx oIx (eV 0) (eC (.int 1))) (aN))) (aC (eC (.str "name")) (aN))))) (
  sCo (sExpr (eCall (T__check_ports CS) (aC (eV 0) (aC (eV 1) (aN))))) (
  sCo (sExpr (eCall (T__check_objects CS) (aC (eV 0) (aC (eV 1) (aC (eV 2) (aN)))))) (
  sCo (sExpr (eCall (T__require CS) (aC (eBin oLe (eCB cLen (aC (eIx oIx (eV 0) (eC (.int 4))) (aN))) (eC (.int 8))) (aC (eC (.str "size")) (aN))))) (
  sCo (sFor (gName 3) (iSeq (eIx oIx (eV 0) (eC (.int 4)))) (sCo (sExpr (eCall (T__require CS) (aC (eBin oLe (eCB cLen (aC (eIx oIx (eV 3) (eC (.int 4))) (aN))) (eC (.int 16))) (aC (eC (.str "size")) (aN))))) (
  sCo (sExpr (eCall (T__check_times CS) (aC (eV 3) (aC (eV 1) (aN))))) (
  sCo (sSet 4 (eDNew)) (
  sCo (sExpr (eCall (T__declare CS) (aC (eIx oIx (eV 3) (eC (.int 4))) (aC (eV 4) (aN))))) (
  sFrzV 4 (sExpr (eMeth (CS 0) f_body (T_Checker_body CS) (eV 2) (aC (eIx oIx (eV 3) (eC (.int 5))) (aC (eFrz (eV 4)) (aC (eNeg (eC (.int 1))) (aN)))))))))))) (
  sCo (sExpr (eCall (T__require CS) (aC (eBin oLe (eCB cLen (aC (eIx oIx (eV 0) (eC (.int 5))) (aN))) (eC (.int 2))) (aC (eC (.str "size")) (aN))))) (
  sFor (gName 5) (iSeq (eIx oIx (eV 0) (eC (.int 5)))) (sCo (sExpr (eCall (T__check_times CS) (aC (eV 5) (aC (eV 1) (aN))))) (
  sExpr (eCall (T_check_call CS) (aC (eIx oIx (eV 0) (eC (.int 3))) (aC (eIx oIx (eV 5) (eC (.int 4))) (aC (eIx oIx (eV 5) (eC (.int 5))) (aC (eCB cLen (aC (eIx oIx (eV 5) (eC (.int 6))) (aN))) (aC (eNeg (eC (.int 1))) (aN))))))))))))))))))
theorem ok_check {f : Addr} {fd : FuncData} {CS : Nat → Addr} (F : Fun K "check" "check" s_check f fd) (T : Txt w K mg CS) (C_Checker___init__ : CalI P w K mg base 1 (CS 0) "Checker" 2 (T_Checker___init__ CS)) (C__require : CalX P w K mg base 3 "_require" 2 (T__require CS)) (C__check_ports : CalX P w K mg base 4 "_check_ports" 2 (T__check_ports CS)) (C__check_objects : CalX P w K mg base 41 "_check_objects" 3 (T__check_objects CS)) (C_is_name : CalX P w K mg base 2 "is_name" 1 (T_is_name CS)) (C__check_times : CalX P w K mg base 4 "_check_times" 2 (T__check_times CS)) (C__declare : CalX P w K mg base 4 "_declare" 2 (T__declare CS)) (C_Checker_body : CalM P w K mg base 39 (CS 0) "body" 4 (T_Checker_body CS)) (C_check_call : CalX P w K mg base 4 "check_call" 5 (T_check_call CS)) : FnOk P w K mg base (L2.CX P w) 42 f fd ["program"] (spX K 1 (T_check CS)) :=
  okX F sc_check rfl rfl (by decide) fun cdv A outer s H E hr =>
  cs_cons (c1_set sc_check.nd rfl lo_check_names (cm_dnew) rfl (.inl rfl))
  (cs_cons (c1_set sc_check.nd rfl lo_check_checker (cm_make C_Checker___init__ (hr.mono (by decide)) g_check_Checker (ca_cons (cm_v (i := 0) rfl vs_check_program nd_program.1 nd_program.2) (ca_nil) rfl) nd_Checker.1 rfl rfl) rfl (.inl rfl))
  (cs_cons (c1_expr (cm_call C__require (hr.mono (by decide)) g_check__require (ca_cons (cm_call C_is_name (hr.mono (by decide)) g_check_is_name (ca_cons (cm_ix cmi_ix (cm_v (i := 0) rfl vs_check_program nd_program.1 nd_program.2) (cm_int) (fun _ _ => rfl)) (ca_nil) rfl) nd_is_name.1 rfl rfl) (ca_cons (cm_str) (ca_nil) rfl) rfl) nd__require.1 rfl rfl) rfl)
  (cs_cons (c1_expr (cm_call C__check_ports (hr.mono (by decide)) g_check__check_ports (ca_cons (cm_v (i := 0) rfl vs_check_program nd_program.1 nd_program.2) (ca_cons (cm_v (i := 1) rfl vs_check_names nd_names.1 nd_names.2) (ca_nil) rfl) rfl) nd__check_ports.1 rfl rfl) rfl)
  (cs_cons (c1_expr (cm_call C__check_objects (hr.mono (by decide)) g_check__check_objects (ca_cons (cm_v (i := 0) rfl vs_check_program nd_program.1 nd_program.2) (ca_cons (cm_v (i := 1) rfl vs_check_names nd_names.1 nd_names.2) (ca_cons (cm_v (i := 2) rfl vs_check_checker nd_checker.1 nd_checker.2) (ca_nil) rfl) rfl) rfl) nd__check_objects.1 rfl rfl) rfl)
  (cs_cons (c1_expr (cm_call C__require (hr.mono (by decide)) g_check__require (ca_cons (cm_cmp cmo_le (cm_callB cmc_len bb_len T.b_len g_check_len (ca_cons (cm_ix cmi_ix (cm_v (i := 0) rfl vs_check_program nd_program.1 nd_program.2) (cm_int) (fun _ _ => rfl)) (ca_nil) rfl) nn_len nd_len.1 rfl rfl) (cm_int) rfl) (ca_cons (cm_str) (ca_nil) rfl) rfl) nd__require.1 rfl rfl) rfl)
  (cs_cons (c1_for (cg_name sc_check.nd rfl lo_check_task (.inl rfl)) (ci_seq (cm_ix cmi_ix (cm_v (i := 0) rfl vs_check_program nd_program.1 nd_program.2) (cm_int) (fun _ _ => rfl))) (cs_cons (c1_expr (cm_call C__require (hr.mono (by decide)) g_check__require (ca_cons (cm_cmp cmo_le (cm_callB cmc_len bb_len T.b_len g_check_len (ca_cons (cm_ix cmi_ix (cm_v (i := 3) rfl vs_check_task nd_task.1 nd_task.2) (cm_int) (fun _ _ => rfl)) (ca_nil) rfl) nn_len nd_len.1 rfl rfl) (cm_int) rfl) (ca_cons (cm_str) (ca_nil) rfl) rfl) nd__require.1 rfl rfl) rfl)
  (cs_cons (c1_expr (cm_call C__check_times (hr.mono (by decide)) g_check__check_times (ca_cons (cm_v (i := 3) rfl vs_check_task nd_task.1 nd_task.2) (ca_cons (cm_v (i := 1) rfl vs_check_names nd_names.1 nd_names.2) (ca_nil) rfl) rfl) nd__check_times.1 rfl rfl) rfl)
  (cs_cons (c1_set sc_check.nd rfl lo_check_scope (cm_dnew) rfl (.inl rfl))
  (cs_cons (c1_expr (cm_call C__declare (hr.mono (by decide)) g_check__declare (ca_cons (cm_ix cmi_ix (cm_v (i := 3) rfl vs_check_task nd_task.1 nd_task.2) (cm_int) (fun _ _ => rfl)) (ca_cons (cm_v (i := 4) rfl vs_check_scope nd_scope.1 nd_scope.2) (ca_nil) rfl) rfl) nd__declare.1 rfl rfl) rfl)
  (cs_one (c1_frzV (i := 4) (c1_expr (cm_meth C_Checker_body fn_body T.cl_Checker (hr.mono (by decide)) (cm_v (i := 2) rfl vs_check_checker nd_checker.1 nd_checker.2) (ca_cons (cm_ix cmi_ix (cm_v (i := 3) rfl vs_check_task nd_task.1 nd_task.2) (cm_int) (fun _ _ => rfl)) (ca_cons (cm_frz (cm_v (i := 4) rfl vs_check_scope nd_scope.1 nd_scope.2)) (ca_cons (cm_neg (cm_int)) (ca_nil) rfl) rfl) rfl) rfl rfl rfl) rfl))))))) rfl pass_cx (fun _ => rfl))
  (cs_cons (c1_expr (cm_call C__require (hr.mono (by decide)) g_check__require (ca_cons (cm_cmp cmo_le (cm_callB cmc_len bb_len T.b_len g_check_len (ca_cons (cm_ix cmi_ix (cm_v (i := 0) rfl vs_check_program nd_program.1 nd_program.2) (cm_int) (fun _ _ => rfl)) (ca_nil) rfl) nn_len nd_len.1 rfl rfl) (cm_int) rfl) (ca_cons (cm_str) (ca_nil) rfl) rfl) nd__require.1 rfl rfl) rfl)
  (cs_one (c1_for (cg_name sc_check.nd rfl lo_check_interrupt (.inl rfl)) (ci_seq (cm_ix cmi_ix (cm_v (i := 0) rfl vs_check_program nd_program.1 nd_program.2) (cm_int) (fun _ _ => rfl))) (cs_cons (c1_expr (cm_call C__check_times (hr.mono (by decide)) g_check__check_times (ca_cons (cm_v (i := 5) rfl vs_check_interrupt nd_interrupt.1 nd_interrupt.2) (ca_cons (cm_v (i := 1) rfl vs_check_names nd_names.1 nd_names.2) (ca_nil) rfl) rfl) nd__check_times.1 rfl rfl) rfl)
  (cs_one (c1_expr (cm_call C_check_call (hr.mono (by decide)) g_check_check_call (ca_cons (cm_ix cmi_ix (cm_v (i := 0) rfl vs_check_program nd_program.1 nd_program.2) (cm_int) (fun _ _ => rfl)) (ca_cons (cm_ix cmi_ix (cm_v (i := 5) rfl vs_check_interrupt nd_interrupt.1 nd_interrupt.2) (cm_int) (fun _ _ => rfl)) (ca_cons (cm_ix cmi_ix (cm_v (i := 5) rfl vs_check_interrupt nd_interrupt.1 nd_interrupt.2) (cm_int) (fun _ _ => rfl)) (ca_cons (cm_callB cmc_len bb_len T.b_len g_check_len (ca_cons (cm_ix cmi_ix (cm_v (i := 5) rfl vs_check_interrupt nd_interrupt.1 nd_interrupt.2) (cm_int) (fun _ _ => rfl)) (ca_nil) rfl) nn_len nd_len.1 rfl rfl) (ca_cons (cm_neg (cm_int)) (ca_nil) rfl) rfl) rfl) rfl) rfl) nd_check_call.1 rfl rfl) rfl))) rfl pass_cx (fun _ => rfl))))))))))
abbrev s__law_rule : Stmt := top 31
abbrev N__law_rule : List Str := ["_law_program", "_law_e"]
theorem sc__law_rule : FnScope N__law_rule ["_law_program"] (defScope s__law_rule) := ⟨rfl, rfl, rfl, by decide +kernel, rfl, by decide +kernel, by decide +kernel⟩
theorem lo__law_rule__law_program : Loc (defScope s__law_rule) "_law_program" := by first | exact .inl rfl | exact .inr rfl
theorem vs__law_rule__law_program : Vis (defScope s__law_rule) "_law_program" := lo__law_rule__law_program.elim .inl fun z => .inr (.inl z)
theorem lo__law_rule__law_e : Loc (defScope s__law_rule) "_law_e" := by first | exact .inl rfl | exact .inr rfl
theorem vs__law_rule__law_e : Vis (defScope s__law_rule) "_law_e" := lo__law_rule__law_e.elim .inl fun z => .inr (.inl z)
theorem g__law_rule_check : (defScope s__law_rule).names.lookup ("check" : Str) = some .globalImplicit := rfl
theorem g__law_rule_RuleError : (defScope s__law_rule).names.lookup ("RuleError" : Str) = some .globalImplicit := rfl
def T__law_rule (CS : Nat → Addr) : FT := fnT 2 (sCo (sTry 1 (CS 2) f_rule (sExpr (eCall (T_check CS) (aC (eV 0) (aN)))) (fun a dx => sRet (eTup (aC (eXf a dx (CS 2) f_rule 1) (aC (eC (.int 1)) (aN)))))) (
  sRet (eTup (aC (eC (.str "")) (aC (eC (.int 0)) (aN))))))
theorem ok__law_rule {f : Addr} {fd : FuncData} {CS : Nat → Addr} (F : Fun K "_law_rule" "_law_rule" s__law_rule f fd) (T : Txt w K mg CS) (C_check : CalX P w K mg base 42 "check" 1 (T_check CS)) : FnOk P w K mg base (L2.CX P w) 43 f fd ["_law_program"] (spX K 1 (T__law_rule CS)) :=
  okX F sc__law_rule rfl rfl (by decide) fun cdv A outer s H E hr =>
  cs_cons (c1_try rfl rfl sc__law_rule.nd rfl rfl g__law_rule_RuleError nd_RuleError.1 T.mg_RuleError T.xm_RuleError (fun pn xe po => cs_one (c1_expr (cm_call C_check (hr.mono (by decide)) g__law_rule_check (ca_cons (cm_v (i := 0) rfl vs__law_rule__law_program nd__law_program.1 nd__law_program.2) (ca_nil) rfl) nd_check.1 rfl rfl) rfl)) (fun a oe dx pn hz hf => cs_one (c1_ret (cm_tup (ca_cons (cm_xf fn_rule T.xf_RuleError T.no_RuleError hz hf rfl vs__law_rule__law_e nd__law_e.1 nd__law_e.2 (fun _ => rfl)) (ca_cons (cm_int) (ca_nil) rfl) rfl) (by decide)))))
  (cs_one (c1_ret (cm_tup (ca_cons (cm_str) (ca_cons (cm_int) (ca_nil) rfl) rfl) (by decide))))
abbrev s_law : Stmt := top 42
abbrev N_law : List Str := ["_law_script", "_law_cell", "_law_k", "_law_kind", "_law_limits", "_law_limit", "_law_good", "_law_bad", "_law_rule_here", "_law_before"]
theorem sc_law : FnScope N_law ["_law_script"] (defScope s_law) := ⟨rfl, rfl, rfl, by decide +kernel, rfl, by decide +kernel, by decide +kernel⟩
theorem lo_law__law_script : Loc (defScope s_law) "_law_script" := by first | exact .inl rfl | exact .inr rfl
theorem vs_law__law_script : Vis (defScope s_law) "_law_script" := lo_law__law_script.elim .inl fun z => .inr (.inl z)
theorem lo_law__law_cell : Loc (defScope s_law) "_law_cell" := by first | exact .inl rfl | exact .inr rfl
theorem vs_law__law_cell : Vis (defScope s_law) "_law_cell" := lo_law__law_cell.elim .inl fun z => .inr (.inl z)
theorem lo_law__law_k : Loc (defScope s_law) "_law_k" := by first | exact .inl rfl | exact .inr rfl
theorem vs_law__law_k : Vis (defScope s_law) "_law_k" := lo_law__law_k.elim .inl fun z => .inr (.inl z)
theorem lo_law__law_kind : Loc (defScope s_law) "_law_kind" := by first | exact .inl rfl | exact .inr rfl
theorem vs_law__law_kind : Vis (defScope s_law) "_law_kind" := lo_law__law_kind.elim .inl fun z => .inr (.inl z)
theorem lo_law__law_limits : Loc (defScope s_law) "_law_limits" := by first | exact .inl rfl | exact .inr rfl
theorem vs_law__law_limits : Vis (defScope s_law) "_law_limits" := lo_law__law_limits.elim .inl fun z => .inr (.inl z)
theorem lo_law__law_limit : Loc (defScope s_law) "_law_limit" := by first | exact .inl rfl | exact .inr rfl
theorem vs_law__law_limit : Vis (defScope s_law) "_law_limit" := lo_law__law_limit.elim .inl fun z => .inr (.inl z)
theorem lo_law__law_good : Loc (defScope s_law) "_law_good" := by first | exact .inl rfl | exact .inr rfl
theorem vs_law__law_good : Vis (defScope s_law) "_law_good" := lo_law__law_good.elim .inl fun z => .inr (.inl z)
theorem lo_law__law_bad : Loc (defScope s_law) "_law_bad" := by first | exact .inl rfl | exact .inr rfl
theorem vs_law__law_bad : Vis (defScope s_law) "_law_bad" := lo_law__law_bad.elim .inl fun z => .inr (.inl z)
theorem lo_law__law_rule_here : Loc (defScope s_law) "_law_rule_here" := by first | exact .inl rfl | exact .inr rfl
theorem vs_law__law_rule_here : Vis (defScope s_law) "_law_rule_here" := lo_law__law_rule_here.elim .inl fun z => .inr (.inl z)
theorem lo_law__law_before : Loc (defScope s_law) "_law_before" := by first | exact .inl rfl | exact .inr rfl
theorem vs_law__law_before : Vis (defScope s_law) "_law_before" := lo_law__law_before.elim .inl fun z => .inr (.inl z)
theorem g_law_range : (defScope s_law).names.lookup ("range" : Str) = some .globalImplicit := rfl
theorem g_law_len : (defScope s_law).names.lookup ("len" : Str) = some .globalImplicit := rfl
theorem g_law_abs : (defScope s_law).names.lookup ("abs" : Str) = some .globalImplicit := rfl
theorem g_law_int : (defScope s_law).names.lookup ("int" : Str) = some .globalImplicit := rfl
theorem g_law__law_counts : (defScope s_law).names.lookup ("_law_counts" : Str) = some .globalImplicit := rfl
theorem g_law__law_bodies : (defScope s_law).names.lookup ("_law_bodies" : Str) = some .globalImplicit := rfl
theorem g_law_repr : (defScope s_law).names.lookup ("repr" : Str) = some .globalImplicit := rfl
theorem g_law__law_rule : (defScope s_law).names.lookup ("_law_rule" : Str) = some .globalImplicit := rfl
def T_law (CS : Nat → Addr) : FT := fnT 10 (sCo (sSet 1 (eC (.int 0))) (
  sCo (sFor (gName 2) (iR1 (eCB cLen (aC (eV 0) (aN)))) (sSet 1 (eBin oAdd (eV 1) (eBin oMul (eCB cAbs (aC (eCB cInt (aC (eIx oIx (eV 0) (eV 2)) (aN))) (aN))) (eBin oAdd (eC (.int 1)) (eV 2)))))) (
  sCo (sSet 3 (eBin oMod (eCB cInt (aC (eV 1) (aN))) (eC (.int 21)))) (
  sCo (sSet 4 (eLst (aC (eC (.int 8)) (aC (eC (.int 4)) (aC (eC (.int 4)) (aC (eC (.int 2)) (aC (eC (.int 8)) (aC (eC (.int 8)) (aC (eC (.int 16)) (aC (eC (.int 16)) (aC (eC (.int 16)) (aC (eC (.int 4)) (aC (eC (.int 200)) (aC (eC (.int 8)) (aC (eC (.int 4)) (aC (eC (.int 6)) (aC (eC (.int 4)) (aC (eC (.int 64)) (aC (eC (.int 64)) (aC (eC (.int 4194304)) (aC (eC (.int 50)) (aC (eC (.int 40)) (aC (eC (.int 16)) (aN)))))))))))))))))))))))) (
  sCo (sSet 5 (eIx oIx (eV 4) (eV 3))) (
  sCo (sIf (tCmp oLt (eV 3) (eC (.int 10))) (sCo (sSet 6 (eCall (T__law_counts CS) (aC (eV 3) (aC (eV 5) (aN))))) (
  sSet 7 (eCall (T__law_counts CS) (aC (eV 3) (aC (eBin oAdd (eV 5) (eC (.int 1))) (aN)))))) (sCo (sSet 6 (eCall (T__law_bodies CS) (aC (eBin oSub (eV 3) (eC (.int 10))) (aC (eV 5) (aN))))) (
  sSet 7 (eCall (T__law_bodies CS) (aC (eBin oSub (eV 3) (eC (.int 10))) (aC (eBin oAdd (eV 5) (eC (.int 1))) (aN))))))) (
  sCo (sSet 8 (eC (.str "size"))) (
  sCo (sIf (tCmp oEq (eV 3) (eC (.int 20))) (sSet 8 (eC (.str "name"))) (sNo)) (
  sCo (sSet 9 (eCB cRepr (aC (eLst (aC (eV 6) (aC (eV 7) (aN)))) (aN)))) (
  sCo (sIf (tOr (tCmp oNe (eCall (T__law_rule CS) (aC (eV 6) (aN))) (eTup (aC (eC (.str "")) (aC (eC (.int 0)) (aN))))) (tCmp oNe (eCall (T__law_rule CS) (aC (eV 7) (aN))) (eTup (aC (eV 8) (aC (eC (.int 1)) (aN)))))) (sRet (eC (.bl false))) (sNo)) (
  sRet (eAnd (eBin oEq (eCall (T__law_rule CS) (aC (eV 6) (aN))) (eTup (aC (eC (.str "")) (aC (eC (.int 0)) (aN))))) (eBin oEq (eCB cRepr (aC (eLst (aC (eV 6) (aC (eV 7) (aN)))) (aN))) (eV 9))))))))))))))
theorem ok_law {f : Addr} {fd : FuncData} {CS : Nat → Addr} (F : Fun K "law" "law" s_law f fd) (T : Txt w K mg CS) (C__law_counts : CalX P w K mg base 2 "_law_counts" 2 (T__law_counts CS)) (C__law_bodies : CalX P w K mg base 2 "_law_bodies" 2 (T__law_bodies CS)) (C__law_rule : CalX P w K mg base 43 "_law_rule" 1 (T__law_rule CS)) : FnAt P w K mg base 44 f fd ["_law_script"] (spX K 1 (T_law CS)) :=
  atX F sc_law rfl rfl (by decide) fun cdv s H hr =>
  cs_cons (c1_set sc_law.nd rfl lo_law__law_cell (cm_int) rfl (.inl rfl))
  (cs_cons (c1_for (cg_name sc_law.nd rfl lo_law__law_k (.inl rfl)) (ci_range1 g_law_range T.b_range (cm_callB cmc_len bb_len T.b_len g_law_len (ca_cons (cm_v (i := 0) rfl vs_law__law_script nd__law_script.1 nd__law_script.2) (ca_nil) rfl) nn_len nd_len.1 rfl rfl) rfl) (cs_one (c1_set sc_law.nd rfl lo_law__law_cell (cm_bin cmo_add (cm_v (i := 1) rfl vs_law__law_cell nd__law_cell.1 nd__law_cell.2) (cm_bin cmo_mul (cm_callB cmc_abs bb_abs T.b_abs g_law_abs (ca_cons (cm_callTy cmc_int bt_int T.b_int g_law_int (ca_cons (cm_ix cmi_ix (cm_v (i := 0) rfl vs_law__law_script nd__law_script.1 nd__law_script.2) (cm_v (i := 2) rfl vs_law__law_k nd__law_k.1 nd__law_k.2) (fun _ _ => rfl)) (ca_nil) rfl) nn_int nd_int.1 rfl rfl) (ca_nil) rfl) nn_abs nd_abs.1 rfl rfl) (cm_bin cmo_add (cm_int) (cm_v (i := 2) rfl vs_law__law_k nd__law_k.1 nd__law_k.2)))) rfl (.inl rfl))) rfl pass_cx (fun _ => rfl))
  (cs_cons (c1_set sc_law.nd rfl lo_law__law_kind (cm_bin cmo_mod (cm_callTy cmc_int bt_int T.b_int g_law_int (ca_cons (cm_v (i := 1) rfl vs_law__law_cell nd__law_cell.1 nd__law_cell.2) (ca_nil) rfl) nn_int nd_int.1 rfl rfl) (cm_int)) rfl (.inl rfl))
  (cs_cons (c1_set sc_law.nd rfl lo_law__law_limits (cm_lst (ca_cons (cm_int) (ca_cons (cm_int) (ca_cons (cm_int) (ca_cons (cm_int) (ca_cons (cm_int) (ca_cons (cm_int) (ca_cons (cm_int) (ca_cons (cm_int) (ca_cons (cm_int) (ca_cons (cm_int) (ca_cons (cm_int) (ca_cons (cm_int) (ca_cons (cm_int) (ca_cons (cm_int) (ca_cons (cm_int) (ca_cons (cm_int) (ca_cons (cm_int) (ca_cons (cm_int) (ca_cons (cm_int) (ca_cons (cm_int) (ca_cons (cm_int) (ca_nil) rfl) rfl) rfl) rfl) rfl) rfl) rfl) rfl) rfl) rfl) rfl) rfl) rfl) rfl) rfl) rfl) rfl) rfl) rfl) rfl) rfl) (by decide)) rfl (.inl rfl))
  (cs_cons (c1_set sc_law.nd rfl lo_law__law_limit (cm_ix cmi_ix (cm_v (i := 4) rfl vs_law__law_limits nd__law_limits.1 nd__law_limits.2) (cm_v (i := 3) rfl vs_law__law_kind nd__law_kind.1 nd__law_kind.2) (fun _ _ => rfl)) rfl (.inl rfl))
  (cs_cons (c1_if (ct_cmp cmo_lt (cm_v (i := 3) rfl vs_law__law_kind nd__law_kind.1 nd__law_kind.2) (cm_int) rfl) (cs_cons (c1_set sc_law.nd rfl lo_law__law_good (cm_call C__law_counts (hr.mono (by decide)) g_law__law_counts (ca_cons (cm_v (i := 3) rfl vs_law__law_kind nd__law_kind.1 nd__law_kind.2) (ca_cons (cm_v (i := 5) rfl vs_law__law_limit nd__law_limit.1 nd__law_limit.2) (ca_nil) rfl) rfl) nd__law_counts.1 rfl rfl) rfl (.inl rfl))
  (cs_one (c1_set sc_law.nd rfl lo_law__law_bad (cm_call C__law_counts (hr.mono (by decide)) g_law__law_counts (ca_cons (cm_v (i := 3) rfl vs_law__law_kind nd__law_kind.1 nd__law_kind.2) (ca_cons (cm_bin cmo_add (cm_v (i := 5) rfl vs_law__law_limit nd__law_limit.1 nd__law_limit.2) (cm_int)) (ca_nil) rfl) rfl) nd__law_counts.1 rfl rfl) rfl (.inl rfl)))) (cs_cons (c1_set sc_law.nd rfl lo_law__law_good (cm_call C__law_bodies (hr.mono (by decide)) g_law__law_bodies (ca_cons (cm_bin cmo_sub (cm_v (i := 3) rfl vs_law__law_kind nd__law_kind.1 nd__law_kind.2) (cm_int)) (ca_cons (cm_v (i := 5) rfl vs_law__law_limit nd__law_limit.1 nd__law_limit.2) (ca_nil) rfl) rfl) nd__law_bodies.1 rfl rfl) rfl (.inl rfl))
  (cs_one (c1_set sc_law.nd rfl lo_law__law_bad (cm_call C__law_bodies (hr.mono (by decide)) g_law__law_bodies (ca_cons (cm_bin cmo_sub (cm_v (i := 3) rfl vs_law__law_kind nd__law_kind.1 nd__law_kind.2) (cm_int)) (ca_cons (cm_bin cmo_add (cm_v (i := 5) rfl vs_law__law_limit nd__law_limit.1 nd__law_limit.2) (cm_int)) (ca_nil) rfl) rfl) nd__law_bodies.1 rfl rfl) rfl (.inl rfl)))))
  (cs_cons (c1_set sc_law.nd rfl lo_law__law_rule_here (cm_str) rfl (.inl rfl))
  (cs_cons (c1_if (ct_cmp (cmo_eq hr) (cm_v (i := 3) rfl vs_law__law_kind nd__law_kind.1 nd__law_kind.2) (cm_int) rfl) (cs_one (c1_set sc_law.nd rfl lo_law__law_rule_here (cm_str) rfl (.inl rfl))) (cs_nil))
  (cs_cons (c1_set sc_law.nd rfl lo_law__law_before (cm_callB (cmc_repr rfl hr) bb_repr T.b_repr g_law_repr (ca_cons (cm_lst (ca_cons (cm_v (i := 6) rfl vs_law__law_good nd__law_good.1 nd__law_good.2) (ca_cons (cm_v (i := 7) rfl vs_law__law_bad nd__law_bad.1 nd__law_bad.2) (ca_nil) rfl) rfl) (by decide)) (ca_nil) rfl) nn_repr nd_repr.1 rfl rfl) rfl (.inl rfl))
  (cs_cons (c1_if (ct_pw (cpw_or (ct_cmp (cmo_ne hr) (cm_call C__law_rule (hr.mono (by decide)) g_law__law_rule (ca_cons (cm_v (i := 6) rfl vs_law__law_good nd__law_good.1 nd__law_good.2) (ca_nil) rfl) nd__law_rule.1 rfl rfl) (cm_tup (ca_cons (cm_str) (ca_cons (cm_int) (ca_nil) rfl) rfl) (by decide)) rfl) (cpw_or1 (ct_cmp (cmo_ne hr) (cm_call C__law_rule (hr.mono (by decide)) g_law__law_rule (ca_cons (cm_v (i := 7) rfl vs_law__law_bad nd__law_bad.1 nd__law_bad.2) (ca_nil) rfl) nd__law_rule.1 rfl rfl) (cm_tup (ca_cons (cm_v (i := 8) rfl vs_law__law_rule_here nd__law_rule_here.1 nd__law_rule_here.2) (ca_cons (cm_int) (ca_nil) rfl) rfl) (by decide)) rfl)))) (cs_one (c1_ret (cm_bl))) (cs_nil))
  (cs_one (c1_ret (cm_and (cm_cmp (cmo_eq hr) (cm_call C__law_rule (hr.mono (by decide)) g_law__law_rule (ca_cons (cm_v (i := 6) rfl vs_law__law_good nd__law_good.1 nd__law_good.2) (ca_nil) rfl) nd__law_rule.1 rfl rfl) (cm_tup (ca_cons (cm_str) (ca_cons (cm_int) (ca_nil) rfl) rfl) (by decide)) rfl) (cm_one (cm_cmp (cmo_eq hr) (cm_callB (cmc_repr rfl hr) bb_repr T.b_repr g_law_repr (ca_cons (cm_lst (ca_cons (cm_v (i := 6) rfl vs_law__law_good nd__law_good.1 nd__law_good.2) (ca_cons (cm_v (i := 7) rfl vs_law__law_bad nd__law_bad.1 nd__law_bad.2) (ca_nil) rfl) rfl) (by decide)) (ca_nil) rfl) nn_repr nd_repr.1 rfl rfl) (cm_v (i := 9) rfl vs_law__law_before nd__law_before.1 nd__law_before.2) rfl))))))))))))))
end
/-! reading: one step at a time -/
local macro_rules | `(tactic| walk_at "at") => `(tactic| first
  | (with_reducible assumption)
  | assumption
  | (with_reducible exact atI_last)
  | (with_reducible exact atI_lastM)
  | (with_reducible exact ixN_lastM)
  | exact rfl
  | exact atI_c0
  | exact atI_c1
  | exact atI_c2
  | exact atI_c3
  | ((refine' atI_mapN ?h0 ?h1); (case h1 => assumption); (case h0 => omega))
  | ((refine atI_ints ?_ ?_) <;> first | omega | ((try simp only [List.length_map, List.length_append, List.length_cons, List.length_nil] at *); omega))
  | ((refine ixN_some ?_ ?_) <;> first | omega | ((try simp only [List.length_map, List.length_append, List.length_cons, List.length_nil] at *); omega)))
local macro_rules | `(tactic| walk_at "pos") => `(tactic| first
  | assumption
  | ((refine' app_at (A := [_]) ?hh); (case hh => assumption))
  | ((refine' app_at (A := [_, _]) ?hh); (case hh => assumption))
  | ((refine' app_at (A := [_, _, _]) ?hh); (case hh => assumption))
  | ((refine' app_at (A := [_, _, _, _]) ?hh); (case hh => assumption))
  | ((refine' app_at (A := [_, _, _, _, _]) ?hh); (case hh => assumption))
  | ((refine' app_at (A := [_, _, _, _, _, _]) ?hh); (case hh => assumption)))
local macro_rules | `(tactic| walk_at "side") => `(tactic| first
  | (with_reducible assumption)
  | (with_reducible exact rfl)
  | ((with_reducible show EV.MulOk _ _); first | exact Or.inl ⟨by omega, by omega⟩ | exact Or.inr (Or.inl ⟨by omega, by omega⟩))
  | ((with_reducible show EV.DivOk _ _); exact ⟨by omega, by omega⟩)
  | ((with_reducible show EV.ModOk _ _); (show (0 : Int) < _); omega)
  | ((with_reducible show EV.PowOk _ _); exact ⟨by omega, by omega, by omega, by omega⟩)
  | ((with_reducible show EV.ShrOk _ _); (show (0 : Int) ≤ _); omega)
  | ((with_reducible show _ ≤ sizeLine); refine szI ?_; first | omega | ((try simp only [List.length_map, List.length_append, List.length_cons, List.length_nil, List.length_replicate, List.length_set, List.length_take, List.length_eraseIdx, rng_len, enumW_len] at *); omega))
  | ((with_reducible show _ < sizeLine); refine szJ ?_; first | omega | ((try simp only [List.length_map, List.length_append, List.length_cons, List.length_nil, List.length_replicate, List.length_set, List.length_take, List.length_eraseIdx, rng_len, enumW_len] at *); omega))
  | omega
  | ((try simp only [List.length_map, List.length_append, List.length_cons, List.length_nil, List.length_replicate, List.length_set, rng_len] at *); omega)
  | exact rfl
  | decide)
local macro_rules | `(tactic| walk_at "perm") => `(tactic| (classical
    rw [List.perm_iff_count]
    intro _
    simp only [List.count_append, List.count_cons, List.count_nil, List.append_assoc, List.cons_append, List.nil_append, Nat.zero_add, Nat.add_zero]
    ac_rfl))
local macro_rules | `(tactic| walk_at "no") => `(tactic| first | (exfalso; omega) | contradiction)
local macro_rules | `(tactic| walk_at "hook") => `(tactic| fail "no hook")
local macro_rules | `(tactic| walk_at "hp") => `(tactic| first
  | (with_reducible exact rfl)
  | decide
  | omega
  | ((simp only [List.length_map, List.length_append, List.length_cons, List.length_nil]); omega)
  | exact Bool.false_ne_true
  | exact Bool.false_ne_true.symm)
local macro_rules | `(tactic| walk_at "br") => `(tactic| first
  | ((with_reducible refine brT ?k); (case' k => walk_at "go"))
  | ((with_reducible refine brF ?k); (case' k => walk_at "go"))
  | ((with_reducible refine brDT ?hp ?k); (case hp => walk_at "hp"); (case' k => walk_at "go"))
  | ((with_reducible refine brDF ?hp ?k); (case hp => walk_at "hp"); (case' k => walk_at "go"))
  | ((with_reducible refine brDNT ?hp ?k); (case hp => walk_at "hp"); (case' k => walk_at "go"))
  | ((with_reducible refine brDNF ?hp ?k); (case hp => walk_at "hp"); (case' k => walk_at "go"))
  | ((with_reducible refine brD (fun hb => ?_) (fun hb => ?_)) <;> ((try simp only [List.length_map, List.length_append, List.length_cons, List.length_nil, not_true_eq_false] at hb) <;> walk_at "go"))
  | ((with_reducible refine brDN (fun hb => ?_) (fun hb => ?_)) <;> ((try simp only [List.length_map, List.length_append, List.length_cons, List.length_nil, not_true_eq_false] at hb) <;> walk_at "go"))
  | ((with_reducible refine orT ?k); (case' k => walk_at "go"))
  | ((with_reducible refine orF ?k); (case' k => walk_at "go"))
  | ((with_reducible refine orDT ?hp ?k); (case hp => walk_at "hp"); (case' k => walk_at "go"))
  | ((with_reducible refine orDF ?hp ?k); (case hp => walk_at "hp"); (case' k => walk_at "go"))
  | ((with_reducible refine orD (fun hb => ?_) (fun hb => ?_)) <;> ((try simp only [List.length_map, List.length_append, List.length_cons, List.length_nil, not_true_eq_false] at hb) <;> walk_at "go"))
  | ((with_reducible refine orDN (fun hb => ?_) (fun hb => ?_)) <;> ((try simp only [List.length_map, List.length_append, List.length_cons, List.length_nil, not_true_eq_false] at hb) <;> walk_at "go"))
  | ((refine brT ?k); (case' k => walk_at "go"))
  | ((refine brF ?k); (case' k => walk_at "go"))
  | ((refine orT ?k); (case' k => walk_at "go"))
  | ((refine orF ?k); (case' k => walk_at "go"))
  | ((with_reducible refine brN2 (fun hb => ?_) (fun hb => ?_)) <;> ((try simp only [List.length_map, List.length_append, List.length_cons, List.length_nil, not_true_eq_false] at hb) <;> walk_at "go"))
  | ((with_reducible refine br2 (fun hb => ?_) (fun hb => ?_)) <;> ((try simp only [List.length_map, List.length_append, List.length_cons, List.length_nil, not_true_eq_false] at hb) <;> walk_at "go"))
  | ((with_reducible refine orN2 (fun hb => ?_) (fun hb => ?_)) <;> ((try simp only [List.length_map, List.length_append, List.length_cons, List.length_nil, not_true_eq_false] at hb) <;> walk_at "go"))
  | ((with_reducible refine or2 (fun hb => ?_) (fun hb => ?_)) <;> ((try simp only [List.length_map, List.length_append, List.length_cons, List.length_nil, not_true_eq_false] at hb) <;> walk_at "go")))
local macro_rules | `(tactic| walk_at "ix") => `(tactic| first
  | ((with_reducible refine ⟨_, atI_last, ?k⟩); (case' k => walk_at "go"))
  | ((with_reducible refine ⟨_, atI_lastM, ?k⟩); (case' k => walk_at "go"))
  | ((with_reducible refine ⟨_, ixN_lastM, ?k⟩); (case' k => walk_at "go"))
  | ((refine' ⟨_, ?ix, ?k⟩); (case ix => walk_at "at"); (case' k => walk_at "go")))
local macro_rules | `(tactic| walk_at "ex3") => `(tactic| first
  | ((refine ex3 ⟨0, _, rfl, ?k⟩); (case' k => walk_at "ix"))
  | ((refine ex3 ⟨1, _, rfl, ?k⟩); (case' k => walk_at "ix"))
  | ((refine ex3 ⟨2, _, rfl, ?k⟩); (case' k => walk_at "ix"))
  | ((refine ex3 ⟨3, _, rfl, ?k⟩); (case' k => walk_at "ix"))
  | ((refine ex3 ⟨4, _, rfl, ?k⟩); (case' k => walk_at "ix"))
  | ((refine ex3 ⟨5, _, rfl, ?k⟩); (case' k => walk_at "ix"))
  | ((refine ex3 ⟨6, _, rfl, ?k⟩); (case' k => walk_at "ix"))
  | ((refine ex3 ⟨7, _, rfl, ?k⟩); (case' k => walk_at "ix"))
  | ((refine ex3 ⟨8, _, rfl, ?k⟩); (case' k => walk_at "ix"))
  | ((refine' ex3 ⟨(_ : Nat), _, ?pos, ?k⟩); (case pos => walk_at "pos"); (case' k => walk_at "ix")))
local macro_rules | `(tactic| walk_at "ex") => `(tactic| first
  | ((with_reducible show ∃ _, ∃ _, ∃ _, (_ = some _) ∧ (_ = some _) ∧ _); walk_at "ex3")
  | ((refine ⟨0, _, _, _, rfl, .head _, rfl, ?k⟩); (case' k => walk_at "go"))
  | ((refine ⟨1, _, _, _, rfl, .head _, rfl, ?k⟩); (case' k => walk_at "go"))
  | ((refine ⟨2, _, _, _, rfl, .head _, rfl, ?k⟩); (case' k => walk_at "go"))
  | ((refine ⟨3, _, _, _, rfl, .head _, rfl, ?k⟩); (case' k => walk_at "go"))
  | ((refine ⟨4, _, _, _, rfl, .head _, rfl, ?k⟩); (case' k => walk_at "go"))
  | ((refine ⟨5, _, _, _, rfl, .head _, rfl, ?k⟩); (case' k => walk_at "go"))
  | ((refine ⟨0, _, _, rfl, .head _, ?side, ?k⟩); (case side => exact Nat.le_of_ble_eq_true rfl); (case' k => walk_at "go"))
  | ((refine ⟨1, _, _, rfl, .head _, ?side, ?k⟩); (case side => exact Nat.le_of_ble_eq_true rfl); (case' k => walk_at "go"))
  | ((refine ⟨2, _, _, rfl, .head _, ?side, ?k⟩); (case side => exact Nat.le_of_ble_eq_true rfl); (case' k => walk_at "go"))
  | ((refine ⟨3, _, _, rfl, .head _, ?side, ?k⟩); (case side => exact Nat.le_of_ble_eq_true rfl); (case' k => walk_at "go"))
  | ((refine ⟨⟨0, _, rfl, rfl⟩, ?k⟩); (case' k => walk_at "go"))
  | ((refine ⟨⟨1, _, rfl, rfl⟩, ?k⟩); (case' k => walk_at "go"))
  | ((refine ⟨⟨2, _, rfl, rfl⟩, ?k⟩); (case' k => walk_at "go"))
  | ((refine ⟨⟨3, _, rfl, rfl⟩, ?k⟩); (case' k => walk_at "go"))
  | ((refine ⟨⟨4, _, rfl, rfl⟩, ?k⟩); (case' k => walk_at "go"))
  | ((refine ⟨⟨5, _, rfl, rfl⟩, ?k⟩); (case' k => walk_at "go"))
  | ((refine ⟨⟨6, _, rfl, rfl⟩, ?k⟩); (case' k => walk_at "go"))
  | ((refine ⟨⟨7, _, rfl, rfl⟩, ?k⟩); (case' k => walk_at "go"))
  | ((refine' And.intro (exO ?pos ?lk) ?k); (case pos => walk_at "pos"); (case lk => exact rfl); (case' k => walk_at "go"))
  | ((refine ⟨⟨0, _, rfl⟩, ?k⟩); (case' k => walk_at "go"))
  | ((refine ⟨⟨1, _, rfl⟩, ?k⟩); (case' k => walk_at "go"))
  | ((refine ⟨⟨2, _, rfl⟩, ?k⟩); (case' k => walk_at "go"))
  | ((refine ⟨⟨3, _, rfl⟩, ?k⟩); (case' k => walk_at "go"))
  | ((refine ⟨⟨4, _, rfl⟩, ?k⟩); (case' k => walk_at "go"))
  | ((refine ⟨⟨5, _, rfl⟩, ?k⟩); (case' k => walk_at "go"))
  | ((refine ⟨⟨6, _, rfl⟩, ?k⟩); (case' k => walk_at "go"))
  | ((refine ⟨⟨7, _, rfl⟩, ?k⟩); (case' k => walk_at "go"))
  | ((refine' ⟨0, _, rfl, _, ?ix, ?k⟩); (case ix => first | exact kit_list_list | exact kit_list_bool | exact kit_list_int); (case' k => walk_at "go"))
  | ((refine' ⟨1, _, rfl, _, ?ix, ?k⟩); (case ix => first | exact kit_list_list | exact kit_list_bool | exact kit_list_int); (case' k => walk_at "go"))
  | ((refine' ⟨2, _, rfl, _, ?ix, ?k⟩); (case ix => first | exact kit_list_list | exact kit_list_bool | exact kit_list_int); (case' k => walk_at "go"))
  | ((refine' ⟨3, _, rfl, _, ?ix, ?k⟩); (case ix => first | exact kit_list_list | exact kit_list_bool | exact kit_list_int); (case' k => walk_at "go"))
  | ((refine' ⟨4, _, rfl, _, ?ix, ?k⟩); (case ix => first | exact kit_list_list | exact kit_list_bool | exact kit_list_int); (case' k => walk_at "go"))
  | ((refine' ⟨5, _, rfl, _, ?ix, ?k⟩); (case ix => first | exact kit_list_list | exact kit_list_bool | exact kit_list_int); (case' k => walk_at "go"))
  | ((refine' ⟨6, _, rfl, _, ?ix, ?k⟩); (case ix => first | exact kit_list_list | exact kit_list_bool | exact kit_list_int); (case' k => walk_at "go"))
  | ((refine' ⟨7, _, rfl, _, ?ix, ?k⟩); (case ix => first | exact kit_list_list | exact kit_list_bool | exact kit_list_int); (case' k => walk_at "go"))
  | ((refine ⟨0, _, rfl, And.intro ?side ?k⟩); (case side => walk_at "side"); (case' k => walk_at "go"))
  | ((refine ⟨1, _, rfl, And.intro ?side ?k⟩); (case side => walk_at "side"); (case' k => walk_at "go"))
  | ((refine ⟨2, _, rfl, And.intro ?side ?k⟩); (case side => walk_at "side"); (case' k => walk_at "go"))
  | ((refine ⟨3, _, rfl, And.intro ?side ?k⟩); (case side => walk_at "side"); (case' k => walk_at "go"))
  | ((refine ⟨4, _, rfl, And.intro ?side ?k⟩); (case side => walk_at "side"); (case' k => walk_at "go"))
  | ((refine ⟨5, _, rfl, And.intro ?side ?k⟩); (case side => walk_at "side"); (case' k => walk_at "go"))
  | ((refine ⟨6, _, rfl, And.intro ?side ?k⟩); (case side => walk_at "side"); (case' k => walk_at "go"))
  | ((refine ⟨7, _, rfl, And.intro ?side ?k⟩); (case side => walk_at "side"); (case' k => walk_at "go"))
  | ((refine ⟨0, _, rfl, ?k⟩); (case' k => walk_at "go"))
  | ((refine ⟨1, _, rfl, ?k⟩); (case' k => walk_at "go"))
  | ((refine ⟨2, _, rfl, ?k⟩); (case' k => walk_at "go"))
  | ((refine ⟨3, _, rfl, ?k⟩); (case' k => walk_at "go"))
  | ((refine ⟨4, _, rfl, ?k⟩); (case' k => walk_at "go"))
  | ((refine ⟨5, _, rfl, ?k⟩); (case' k => walk_at "go"))
  | ((refine ⟨6, _, rfl, ?k⟩); (case' k => walk_at "go"))
  | ((refine ⟨7, _, rfl, ?k⟩); (case' k => walk_at "go"))
  | ((with_reducible show Exists fun _ => (_ = some _) ∧ _); (refine' ⟨_, ?ix, ?k⟩); (case ix => first | exact kit_NoneType_bool | exact kit_NoneType_int | exact kit_NoneType_list | exact kit_bool_bool | exact kit_bool_int | exact kit_bool_list | exact kit_int_bool | exact kit_int_int | exact kit_int_str | exact kit_int_tuple | exact kit_int_list | exact kit_str_bool | exact kit_str_int | exact kit_str_str | exact kit_str_list | exact kit_tuple_bool | exact kit_tuple_int | exact kit_tuple_tuple | exact kit_tuple_list | exact kit_list_bool | exact kit_list_int | exact kit_list_list); (case' k => walk_at "go"))
  | ((refine ⟨_, RgC.neg ?s1 ?s2 ?s3 ?s4, ?k⟩); (case s1 => omega); (case s2 => omega); (case s3 => omega); (case s4 => omega); (case' k => walk_at "go"))
  | ((with_reducible show Exists fun _ => (_ = some _) ∧ _); (refine' ⟨_, ?ix, ?k⟩); (case ix => walk_at "at"); (case' k => walk_at "go"))
  | ((refine ⟨rfl, _, rfl, ?sc, ?k⟩); (case sc => first | exact rfl | exact scal_ints _); (case' k => walk_at "go"))
  | ((refine ⟨rfl, _, ⟨0, rfl⟩, ?sc, ?k⟩); (case sc => first | exact rfl | exact scal_ints _); (case' k => walk_at "go"))
  | ((refine ⟨rfl, _, ⟨1, rfl⟩, ?sc, ?k⟩); (case sc => first | exact rfl | exact scal_ints _); (case' k => walk_at "go"))
  | ((refine ⟨rfl, _, ⟨2, rfl⟩, ?sc, ?k⟩); (case sc => first | exact rfl | exact scal_ints _); (case' k => walk_at "go"))
  | ((refine' ⟨0, _, 0, _, rfl, by decide, by decide, ?sx, ?zx, ?k⟩); (case zx => exact rfl); (case sx => refine sx0 ?_; (try simp only [List.length_map, List.length_cons]); omega); (case' k => walk_at "go"))
  | ((refine' ⟨1, _, 0, _, rfl, by decide, by decide, ?sx, ?zx, ?k⟩); (case zx => exact rfl); (case sx => refine sx0 ?_; (try simp only [List.length_map, List.length_cons]); omega); (case' k => walk_at "go"))
  | ((refine' ⟨(_ : Nat), _, 0, _, ?pos, by decide, by decide, ?sx, ?zx, ?k⟩); (case pos => walk_at "pos"); (case zx => exact rfl); (case sx => refine sx0 ?_; (try simp only [List.length_map, List.length_cons]); omega); (case' k => walk_at "go"))
  | ((with_reducible show ∃ _ : Nat, ∃ _ : List D, ∃ _, (_ = some (_, OO.lst _)) ∧ (_ = some _) ∧ _); (refine' ⟨(_ : Nat), _, _, ?pos, ?ix, ?k⟩); (case pos => walk_at "pos"); (case ix => walk_at "at"); (case' k => walk_at "go"))
  | ((refine' ⟨⟨(_ : Nat), _, ?pos⟩, ?k⟩); (case pos => walk_at "pos"); (case' k => walk_at "go"))
  | ((refine ⟨_, ⟨0, rfl⟩, ?k⟩); (case' k => walk_at "go"))
  | ((refine ⟨_, ⟨1, rfl⟩, ?k⟩); (case' k => walk_at "go"))
  | ((refine ⟨_, ⟨2, rfl⟩, ?k⟩); (case' k => walk_at "go"))
  | ((refine ⟨_, ⟨3, rfl⟩, ?k⟩); (case' k => walk_at "go"))
  | ((refine ⟨_, ⟨4, rfl⟩, ?k⟩); (case' k => walk_at "go"))
  | ((refine ⟨_, ⟨5, rfl⟩, ?k⟩); (case' k => walk_at "go"))
  | ((refine ⟨_, ⟨6, rfl⟩, ?k⟩); (case' k => walk_at "go"))
  | ((refine ⟨_, ⟨7, rfl⟩, ?k⟩); (case' k => walk_at "go"))
  | ((refine' ⟨_, ⟨(_ : Nat), ?pos⟩, ?k⟩); (case pos => walk_at "pos"); (case' k => walk_at "go"))
  | ((refine' ⟨rfl, _, ⟨(_ : Nat), ?pos⟩, ?sc, ?k⟩); (case pos => walk_at "pos"); (case sc => exact scal_ints _); (case' k => walk_at "go"))
  | ((refine' ⟨(_ : Nat), _, ?pos, And.intro ?side ?k⟩); (case pos => walk_at "pos"); (case side => walk_at "side"); (case' k => walk_at "go"))
  | ((refine' ⟨(_ : Nat), _, ?pos, ?k⟩); (case pos => walk_at "pos"); (case' k => walk_at "go")))
local macro_rules | `(tactic| walk_at "s1") => `(tactic| first
  | walk_at "br"
  | ((with_reducible show EV.MulOk _ _ ∧ _); (refine And.intro ?side ?k); (try (case side => walk_at "side")); (case' k => walk_at "go"))
  | ((with_reducible show EV.DivOk _ _ ∧ _); (refine And.intro ?side ?k); (try (case side => walk_at "side")); (case' k => walk_at "go"))
  | ((with_reducible show EV.ModOk _ _ ∧ _); (refine And.intro ?side ?k); (try (case side => walk_at "side")); (case' k => walk_at "go"))
  | ((with_reducible show EV.PowOk _ _ ∧ _); (refine And.intro ?side ?k); (try (case side => walk_at "side")); (case' k => walk_at "go"))
  | ((with_reducible show EV.ShrOk _ _ ∧ _); (refine And.intro ?side ?k); (try (case side => walk_at "side")); (case' k => walk_at "go"))
  | ((with_reducible show (_ ≤ _) ∧ _); (refine And.intro ?side ?k); (try (case side => walk_at "side")); (case' k => walk_at "go"))
  | ((with_reducible show (_ < _) ∧ _); (refine And.intro ?side ?k); (try (case side => walk_at "side")); (case' k => walk_at "go"))
  | ((with_reducible show (List.length _ = _) ∧ _); (refine And.intro ?side ?k); (try (case side => walk_at "side")); (case' k => walk_at "go"))
  | walk_at "ex"
  | walk_at "hook"
  | ((with_reducible refine And.intro ?side ?k); (try (case side => walk_at "side")); (case' k => walk_at "go"))
  | ((with_reducible show ∀ _ : Addr, _); (intro _); walk_at "go"))
local macro_rules | `(tactic| walk_at "go") => `(tactic| ((try (conv => whnf)); first | walk_at "s1" | skip))

section
/-! expressions and statements: the types (for laws without the shared generator) -/
inductive Ex where
  | num (n : Int) | cell (s : Str) | at (s : Str) (i : Ex) | un (op : Str) (a : Ex) | bin (op : Str) (a b : Ex)
def eD : Ex → D
  | .num n => .tup [.str "num", .int n]
  | .cell s => .tup [.str "cell", .str s]
  | .at s i => .tup [.str "at", .str s, eD i]
  | .un op a => .tup [.str op, eD a]
  | .bin op a b => .tup [.str op, eD a, eD b]
def UNS : List Str := ["neg", "inv", "not"]
def SIGNS : List Str := ["+", "-", "*", "/", "mod", "&", "|", "^", "<<", ">>", "<", "<=", "~<", "~<=", "==", "!=", "and", "or"]
def cellD (c : Str × Int) : D := .tup [.str c.1, .int c.2]
def portD (c : Str × Str) : D := .tup [.str c.1, .str c.2]
inductive St where
  | set (p e : Ex) | iff (c : Ex) (a b : List St) | loop (x : Str) (k : Int) (t : Option Ex) (b : List St) | call (p : Option Ex) (th op : Str) (args : List Ex) | write (x : Str) (e : Ex) | read (p : Ex) (x : Str)
def oeD : Option Ex → D
  | none => .non
  | some e => eD e
mutual
def stD : St → D
  | .set p e => .tup [.str "set", eD p, eD e]
  | .iff c a b => .tup [.str "if", eD c, .lst (bdD a), .lst (bdD b)]
  | .loop x k t b => .tup [.str "loop", .str x, .int k, oeD t, .lst (bdD b)]
  | .call p th op args => .tup [.str "call", oeD p, .str th, .str op, .lst (args.map eD)]
  | .write x e => .tup [.str "write", .str x, eD e]
  | .read p x => .tup [.str "read", eD p, .str x]
def bdD : List St → List D
  | [] => []
  | s :: b => stD s :: bdD b
end
theorem bdD_map : ∀ b : List St, bdD b = b.map stD
  | [] => rfl
  | s :: b => congrArg (stD s :: ·) (bdD_map b)

end

section
/-! sizes of texts that repr gives -/
structure Sh (d : D) (n N : Nat) : Prop where
  s : shp d n = true
  o : shwOk d = true
  b : shwN d ≤ N
structure ShA (ds : List D) (n N : Nat) : Prop where
  s : shpA ds n = true
  o : shwOkA ds = true
  b : shwNA ds ≤ N
def sOk (s : Str) : Bool := decide (s.length ≤ 20) && s.cps.toList.all fun c => decide (c < 65536)
mutual
theorem shp_mono : ∀ {d : D} {n n2 : Nat}, n ≤ n2 → shp d n = true → shp d n2 = true
  | .non, _, _, _, _ => by simp [shp]
  | .bl _, _, _, _, _ => by simp [shp]
  | .int _, _, _, _, _ => by simp [shp]
  | .str x, _, _, _, h => h
  | .tup ds, n, n2, hn, h => by
    rw [shp, Bool.and_eq_true, decide_eq_true_iff] at h ⊢
    exact ⟨by omega, shpA_mono (by omega) h.2⟩
  | .lst ds, n, n2, hn, h => by
    rw [shp, Bool.and_eq_true, decide_eq_true_iff] at h ⊢
    exact ⟨by omega, shpA_mono (by omega) h.2⟩
theorem shpA_mono : ∀ {ds : List D} {n n2 : Nat}, n ≤ n2 → shpA ds n = true → shpA ds n2 = true
  | [], _, _, _, _ => by simp [shpA]
  | d :: ds, n, n2, hn, h => by
    rw [shpA, Bool.and_eq_true] at h ⊢
    exact ⟨shp_mono hn h.1, shpA_mono hn h.2⟩
end
theorem Sh.mono {d : D} {n n2 N N2 : Nat} (h : Sh d n N) (hn : n ≤ n2) (hN : N ≤ N2) : Sh d n2 N2 := ⟨shp_mono hn h.s, h.o, Nat.le_trans h.b hN⟩
theorem ShA.mono {d : List D} {n n2 N N2 : Nat} (h : ShA d n N) (hn : n ≤ n2) (hN : N ≤ N2) : ShA d n2 N2 := ⟨shpA_mono hn h.s, h.o, Nat.le_trans h.b hN⟩
theorem Sh.non (n : Nat) : Sh .non n 5 := ⟨by simp [shp], by simp [shwOk], by simp [shwN]⟩
theorem Sh.int {i : Int} (n : Nat) (h0 : -1000000000000 < i) (h1 : i < 1000000000000) : Sh (.int i) n 45 := ⟨by simp [shp], by rw [shwOk, decide_eq_true_iff]; omega, by simp [shwN]⟩
theorem Sh.str {x : Str} (n : Nat) (h : sOk x = true) : Sh (.str x) n 202 := by
  unfold sOk at h
  rw [Bool.and_eq_true, decide_eq_true_iff, List.all_eq_true] at h
  refine ⟨?_, ?_, ?_⟩
  · show (x.cps.all (· < 0x110000)) = true
    rw [← Array.all_toList, List.all_eq_true]
    exact fun c hc => decide_eq_true (Nat.lt_of_lt_of_le (of_decide_eq_true (h.2 c hc)) (by decide))
  · rw [shwOk, List.all_eq_true]
    exact h.2
  · rw [shwN]
    omega
theorem ShA.nil (n : Nat) : ShA [] n 0 := ⟨by simp [shpA], by simp [shwOkA], by simp [shwNA]⟩
theorem ShA.cons {d : D} {ds : List D} {n M N : Nat} (h : Sh d n M) (g : ShA ds n N) : ShA (d :: ds) n (M + 2 + N) := by
  refine ⟨by rw [shpA, h.s, g.s]; rfl, by rw [shwOkA, h.o, g.o]; rfl, ?_⟩
  rw [shwNA]
  have := h.b
  have := g.b
  omega
theorem ShA.all {ds : List D} {n M k : Nat} (h : ∀ d ∈ ds, Sh d n M) (hk : ds.length ≤ k) : ShA ds n (k * (M + 2)) := by
  have key : ∀ ds : List D, (∀ d ∈ ds, Sh d n M) → ShA ds n (ds.length * (M + 2)) := fun ds => by
    induction ds with
    | nil => intro _; exact (ShA.nil n).mono (Nat.le_refl _) (Nat.zero_le _)
    | cons d ds ih =>
      intro h
      refine (ShA.cons (h d List.mem_cons_self) (ih fun x hx => h x (List.mem_cons_of_mem _ hx))).mono (Nat.le_refl _) ?_
      rw [List.length_cons, Nat.add_mul, Nat.one_mul]
      omega
  exact (key ds h).mono (Nat.le_refl _) (Nat.mul_le_mul_right _ hk)
theorem ShA.map {α : Type} {f : α → D} {xs : List α} {n M k : Nat} (h : ∀ x ∈ xs, Sh (f x) n M) (hk : xs.length ≤ k) : ShA (xs.map f) n (k * (M + 2)) :=
  ShA.all (fun d hd => by obtain ⟨x, hx, rfl⟩ := List.mem_map.mp hd; exact h x hx) (by rw [List.length_map]; exact hk)
theorem Sh.tup {ds : List D} {n N : Nat} (h : ShA ds n N) : Sh (.tup ds) (n + 1) (5 + N) := ⟨by rw [shp, Nat.add_sub_cancel, h.s, Bool.and_true]; exact decide_eq_true (Nat.succ_pos _), by rw [shwOk]; exact h.o, by rw [shwN]; have := h.b; omega⟩
theorem Sh.lst {ds : List D} {n N : Nat} (h : ShA ds n N) : Sh (.lst ds) (n + 1) (5 + N) := ⟨by rw [shp, Nat.add_sub_cancel, h.s, Bool.and_true]; exact decide_eq_true (Nat.succ_pos _), by rw [shwOk]; exact h.o, by rw [shwN]; have := h.b; omega⟩
theorem cRepr_sh {d : D} {n N : Nat} {os : Os} {k : D → Os → Prop} (h : Sh d n N) (hn : n ≤ 60) (hN : N ≤ 16000000) (ht : isTL d = true) (q : k (.str (toP d).shown) os) : cRepr [d] os k :=
  cRepr_of (shp_mono hn h.s) h.o ht (Nat.le_trans h.b (by rw [sizeLine_eq]; omega)) q

end

section
variable {CS : Nat → Addr}
/-! the checker: what stops it -/
abbrev Bad (CS : Nat → Addr) (r : Str) : Exn := ⟨CS 2, [(f_rule, .str r)]⟩
@[irreducible] def Fin (CS : Nat → Addr) (r : Option Str) (K : Prop) (kx : Kx) : Prop := (r = none → K) ∧ ∀ s, r = some s → ∀ o, kx (Bad CS s) o
theorem fin_n {K : Prop} {kx : Kx} (h : K) : Fin CS none K kx := by unfold Fin; exact ⟨fun _ => h, fun _ e => nomatch e⟩
theorem fin_of {K : Prop} {kx : Kx} (h : Fin CS none K kx) : K := by unfold Fin at h; exact h.1 rfl
theorem fin_s {s : Str} {K : Prop} {kx : Kx} (h : ∀ o, kx (Bad CS s) o) : Fin CS (some s) K kx := by unfold Fin; exact ⟨fun e => (nomatch e), fun _ e => by cases e; exact h⟩
theorem fin_so {s : Str} {K : Prop} {kx : Kx} (h : Fin CS (some s) K kx) : ∀ o, kx (Bad CS s) o := by unfold Fin at h; exact h.2 s rfl
def req (b : Bool) (r : Str) : Option Str := if b then none else some r
theorem callX_fin {T : FT} {ws : List D} {os : Os} {k' : D → Os → Prop} {kx kx' : Kx} {a b : Option Str} {K : Prop} (hT : ∀ {k : D → Os → Prop} {kx : Kx}, Fin CS a (k .non os) kx → T ws os k kx) (h : Fin CS (a.or b) K kx)
    (hx : ∀ s o, kx (Bad CS s) o → kx' (Bad CS s) o) (hk : Fin CS b K kx → k' .non os) : callX T ws os k' kx' := by
  refine callX_all (hT ?_)
  cases a with
  | none => exact fin_n (hk h)
  | some s => exact fin_s fun o => hx _ _ (fin_so h o)
theorem callX_fin1 {T : FT} {ws : List D} {os : Os} {k' : D → Os → Prop} {kx kx' : Kx} {a : Option Str} {K : Prop} (hT : ∀ {k : D → Os → Prop} {kx : Kx}, Fin CS a (k .non os) kx → T ws os k kx) (h : Fin CS a K kx)
    (hx : ∀ s o, kx (Bad CS s) o → kx' (Bad CS s) o) (hk : K → k' .non os) : callX T ws os k' kx' := by
  refine callX_all (hT ?_)
  cases a with
  | none => exact fin_n (hk (fin_of h))
  | some s => exact fin_s fun o => hx _ _ (fin_so h o)
theorem w_req {b : Bool} {r : Str} {os : Os} {k : D → Os → Prop} {kx : Kx} (h : Fin CS (req b r) (k .non os) kx) : T__require CS [.bl b, .str r] os k kx := by
  unfold T__require fnT
  cases b
  · walk_at "go"
    exact dropE_id (fin_so h _)
  · walk_at "go"
    exact dropX_id (fin_of h)
theorem forX_ind {g : TrG} {body : TrS} {N : DEnv → Os → Prop} {R : KR} (P : List D → DEnv → Os → Prop) (h0 : ∀ env os, P [] env os → N env os)
    (hs : ∀ (w : D) (ws : List D) (env : DEnv) (os : Os) (M : DEnv → Os → Prop), P (w :: ws) env os → (∀ e o, P ws e o → M e o) → g w env os fun env1 os1 => body M (R.loop M N) env1 os1) : ∀ {ws : List D} {env : DEnv} {os : Os}, P ws env os → forX g body N R none ws env os
  | [], _, _, h => forX_nil (h0 _ _ h)
  | _ :: _, _, _, h => forX_cons (hs _ _ _ _ _ h fun _ _ h2 => forX_ind P h0 hs h2)
/-! names -/
def RSV : List Str := ["system", "in", "out", "object", "cell", "operation", "give", "end", "task", "every", "within", "if", "else", "loop", "to", "while", "read", "write", "interrupt", "calls", "mod", "and", "or"]
def leS (a b : Str) : Bool := !decide (b.cps.toList < a.cps.toList)
def ltrS (c : Str) : Bool := if leS "a" c && leS c "z" then true else leS "A" c && leS c "Z"
def chrS (i : Int) (c : Str) : Bool := ltrS c || (decide (i ≠ 0) && ((leS "0" c && leS c "9") || decide (c = "_")))
def chrsS : Int → List Str → Bool
  | _, [] => true
  | i, c :: cs => chrS i c && chrsS (i + 1) cs
def csS (x : Str) : List Str := x.cps.toList.map fun c => ⟨#[c]⟩
theorem chs_csS (x : Str) : chs x = (csS x).map D.str := by unfold chs csS; rw [List.map_map]; rfl
def isNm (x : Str) : Bool := decide (1 ≤ x.length) && decide (x.length ≤ 16) && !decide (x ∈ RSV) && chrsS 0 (csS x)
theorem inD_strs {z : Str} : ∀ ys : List Str, inD (.str z) (ys.map D.str) = decide (z ∈ ys)
  | [] => by simp [inD, inV]
  | n :: ns => by
    have h := inD_strs (z := z) ns
    unfold inD inV at h ⊢
    rw [List.map_cons, List.map_cons, List.any_cons, h]
    by_cases e : n = z
    · subst e; simp [eqV, scalD]
    · have e' : z ≠ n := fun x => e x.symm
      simp [eqV, scalD, e, e']
theorem w_rsv {x : Str} {os : Os} {k : D → Os → Prop} {kx : Kx} (h : k (.bl (decide (x ∈ RSV))) os) : T_is_reserved CS [.str x] os k kx := by
  unfold T_is_reserved fnT
  walk_at "go"
  show dropX (.bl (inD (.str x) (RSV.map D.str))) os k
  rw [inD_strs RSV]
  exact dropX_id h
theorem chrs_cons {i : Int} {c : Str} {cs : List Str} (h : chrS i c = true) : chrsS i (c :: cs) = chrsS (i + 1) cs := by rw [chrsS, h, Bool.true_and]
theorem chrs_consF {i : Int} {c : Str} {cs : List Str} (h : chrS i c = false) : chrsS i (c :: cs) = false := by rw [chrsS, h, Bool.false_and]
theorem w_nm {x : Str} {os : Os} {k : D → Os → Prop} {kx : Kx} (hx : x.length ≤ 1000) (h : k (.bl (isNm x)) os) : T_is_name CS [.str x] os k kx := by
  unfold T_is_name fnT
  have hz : x.length ≤ sizeLine := szI hx
  walk_at "go"
  · refine callX_all (w_rsv ?_)
    rename_i h1 h2
    rw [isNm, decide_eq_true (show 1 ≤ x.length by omega), decide_eq_true (show x.length ≤ 16 by omega), Bool.true_and, Bool.true_and] at h
    by_cases hr : x ∈ RSV
    · rw [decide_eq_true hr] at h ⊢
      walk_at "go"
      exact dropX_id h
    rw [decide_eq_false hr] at h ⊢
    walk_at "go"
    rw [chs_csS]
    refine forX_ind (fun ws env o => ∃ i cs y1 y2 y3, 0 ≤ i ∧ ws = enumW i (cs.map D.str) ∧ env = [some (.str x), y1, y2, y3] ∧ o = os ∧ k (.bl (chrsS i cs)) os) ?_ ?_ ⟨0, csS x, _, _, _, Int.le_refl _, rfl, rfl, rfl, by simpa using h⟩
    · rintro env o ⟨i, cs, y1, y2, y3, _, hw, rfl, rfl, hk⟩
      cases cs with
      | nil => walk_at "go"; exact dropX_id hk
      | cons c cs => cases hw
    · rintro w ws env o M ⟨i, cs, y1, y2, y3, hi, hw, rfl, rfl, hk⟩ hM
      cases cs with
      | nil => cases hw
      | cons c cs =>
        obtain ⟨rfl, rfl⟩ := List.cons.inj hw
        try dsimp only [setE, startE]
        walk_at "go"
        all_goals first
          | (have e : chrS i c = true := by (unfold chrS ltrS leS; simp only [*, not_false_eq_true, decide_true, decide_false, Bool.not_true, Bool.not_false, Bool.true_and, Bool.and_true, Bool.false_and, Bool.and_false, Bool.true_or, Bool.or_true, Bool.or_false, Bool.false_or, Bool.false_eq_true, if_true, if_false, ne_eq, ite_true, ite_false, not_true_eq_false, Bool.or_self, Bool.and_self, ite_self])
             rw [chrs_cons e] at hk
             exact hM _ _ ⟨_, _, _, _, _, by omega, rfl, rfl, rfl, hk⟩)
          | (have e : chrS i c = false := by (unfold chrS ltrS leS; simp only [*, not_false_eq_true, decide_true, decide_false, Bool.not_true, Bool.not_false, Bool.true_and, Bool.and_true, Bool.false_and, Bool.and_false, Bool.true_or, Bool.or_true, Bool.or_false, Bool.false_or, Bool.false_eq_true, if_true, if_false, ne_eq, ite_true, ite_false, not_true_eq_false, Bool.or_self, Bool.and_self, ite_self])
             rw [chrs_consF e] at hk
             exact dropX_id hk)
  · rename_i h1 h2
    rw [isNm, decide_eq_false (show ¬ x.length ≤ 16 by omega), Bool.and_false, Bool.false_and, Bool.false_and] at h
    exact dropX_id h
  · rename_i h1
    rw [isNm, decide_eq_false (show ¬ 1 ≤ x.length by omega), Bool.false_and, Bool.false_and, Bool.false_and] at h
    exact dropX_id h

end

section
variable {CS : Nat → Addr}
/-! the checker: expressions -/
def nmOf : D → Option Str
  | .tup (_ :: .str s :: _) => some s
  | _ => none
theorem nmOf_of {w : D} {s : Str} (h : nmOf w = some s) : ∃ a r, w = .tup (a :: .str s :: r) := by
  unfold nmOf at h
  split at h
  · cases h; exact ⟨_, _, rfl⟩
  · cases h
def fnd : Int → List Str → Str → Int
  | _, [], _ => -1
  | i, n :: ns, x => if n = x then i else fnd (i + 1) ns x
theorem w_find {ws : List D} {ns : List Str} {x : Str} {os : Os} {k : D → Os → Prop} {kx : Kx} (hn : ws.map nmOf = ns.map some) (h : k (.int (fnd 0 ns x)) os) : T_find CS [.lst ws, .str x] os k kx := by
  unfold T_find fnT
  walk_at "go"
  refine forX_ind (fun vs env o => ∃ i us ns y1 y2, us.map nmOf = ns.map some ∧ vs = enumW i us ∧ env = [some (.lst ws), some (.str x), y1, y2] ∧ o = os ∧ k (.int (fnd i ns x)) os) ?_ ?_ ⟨0, ws, ns, _, _, hn, rfl, rfl, rfl, h⟩
  · rintro env o ⟨i, us, ns, y1, y2, hu, hw, rfl, rfl, hk⟩
    cases us with
    | nil =>
      cases ns with
      | nil => walk_at "go"; exact dropX_id hk
      | cons _ _ => cases hu
    | cons _ _ => cases hw
  · rintro w vs env o M ⟨i, us, ns, y1, y2, hu, hw, rfl, rfl, hk⟩ hM
    cases us with
    | nil => cases hw
    | cons u us =>
      cases ns with
      | nil => cases hu
      | cons n ns =>
        rw [List.map_cons, List.map_cons] at hu
        obtain ⟨h1, h2⟩ := List.cons.inj hu
        obtain ⟨a, r, rfl⟩ := nmOf_of h1
        obtain ⟨rfl, rfl⟩ := List.cons.inj hw
        rw [fnd] at hk
        walk_at "go"
        · rename_i hb
          rw [if_pos hb] at hk
          exact dropX_id hk
        · rename_i hb
          rw [if_neg hb] at hk
          exact hM _ _ ⟨_, us, ns, _, _, h2, rfl, rfl, rfl, hk⟩
/-- expressions that can be read -/
def WfE : Ex → Prop
  | .num _ => True
  | .cell _ => True
  | .at _ i => WfE i
  | .un op a => op ∈ UNS ∧ WfE a
  | .bin op a b => (op ∉ UNS ∧ op ≠ "num" ∧ op ≠ "cell" ∧ op ≠ "at") ∧ WfE a ∧ WfE b
def prt : Ex → List Ex
  | .num _ => []
  | .cell _ => []
  | .at _ i => [i]
  | .un _ a => [a]
  | .bin _ a b => [a, b]
theorem w_parts {e : Ex} {os : Os} {k : D → Os → Prop} {kx : Kx} (hw : WfE e) (h : k (.lst ((prt e).map eD)) os) : T_parts CS [eD e] os k kx := by
  unfold T_parts fnT
  cases e with
  | num n => walk_at "go"; exact dropX_id h
  | cell s => walk_at "go"; exact dropX_id h
  | «at» s i => walk_at "go"; exact dropX_id h
  | un op a =>
    have h1 : op ≠ "num" ∧ op ≠ "cell" ∧ op ≠ "at" := by
      have : ∀ s ∈ UNS, s ≠ "num" ∧ s ≠ "cell" ∧ s ≠ "at" := by decide +kernel
      exact this op hw.1
    walk_at "go"
    all_goals first
      | exact absurd (by assumption) h1.1
      | exact absurd (by assumption) h1.2.1
      | exact absurd (by assumption) h1.2.2
      | exact absurd hw.1 (by assumption)
      | exact dropX_id h
  | bin op a b =>
    obtain ⟨⟨h0, h1, h2, h3⟩, _⟩ := hw
    walk_at "go"
    all_goals first
      | exact absurd (by assumption) h1
      | exact absurd (by assumption) h2
      | exact absurd (by assumption) h3
      | exact dropX_id h
      | (rename_i hb; exact absurd hb h0)
theorem prt_wf {e : Ex} (h : WfE e) : ∀ a ∈ prt e, WfE a := by
  cases e with
  | num n => exact fun a ha => nomatch ha
  | cell s => exact fun a ha => nomatch ha
  | «at» s i =>
    intro a ha
    rcases List.mem_singleton.mp ha with rfl
    exact h
  | un op b =>
    intro a ha
    rcases List.mem_singleton.mp ha with rfl
    exact h.2
  | bin op b c =>
    intro a ha
    rcases List.mem_cons.mp ha with rfl | ha
    · exact h.2.1
    · rcases List.mem_singleton.mp ha with rfl
      exact h.2.2
def dpth : Ex → Nat
  | .num _ => 1
  | .cell _ => 1
  | .at _ i => dpth i + 1
  | .un _ a => dpth a + 1
  | .bin _ a b => max (dpth a) (dpth b) + 1
def szE : Ex → Nat
  | .num _ => 1
  | .cell _ => 1
  | .at _ i => szE i + 1
  | .un _ a => szE a + 1
  | .bin _ a b => szE a + szE b + 1
theorem dpth_pos (e : Ex) : 1 ≤ dpth e := by cases e <;> rw [dpth] <;> omega
theorem prt_dp {e : Ex} : ∀ a ∈ prt e, dpth a + 1 ≤ dpth e := by
  cases e with
  | num n => exact fun a ha => nomatch ha
  | cell s => exact fun a ha => nomatch ha
  | «at» s i =>
    intro a ha
    rcases List.mem_singleton.mp ha with rfl
    exact Nat.le_refl _
  | un op b =>
    intro a ha
    rcases List.mem_singleton.mp ha with rfl
    exact Nat.le_refl _
  | bin op b c =>
    intro a ha
    rw [dpth]
    rcases List.mem_cons.mp ha with rfl | ha
    · omega
    · rcases List.mem_singleton.mp ha with rfl
      omega
theorem take_succ_map {α β : Type} (f : α → β) {xs : List α} {j : Nat} {a : α} (h : xs[j]? = some a) : (xs.take (j + 1)).map f = (xs.take j).map f ++ [f a] := by
  rw [List.take_add_one, h, List.map_append]; rfl
theorem prt_len (e : Ex) : (prt e).length ≤ 2 := by cases e <;> (rw [prt]; simp)
theorem w_depthN : ∀ (n : Nat) {e : Ex} {os : Os} {k : D → Os → Prop} {kx : Kx}, WfE e → dpth e ≤ n → k (.int (dpth e : Nat)) os → TS_2 CS n 0 [eD e] os k kx
  | 0, e, _, _, _, _, hd, _ => by have := dpth_pos e; omega
  | n + 1, e, os, k, kx, hw, hd, h => by
    show B_depth CS (TS_2 CS n) [eD e] os k kx
    unfold B_depth fnT
    walk_at "go"
    refine callX_all (w_parts hw ?_)
    have hl := prt_len e
    walk_at "go"
    refine lcX_inv (fun j acc o => acc = ((prt e).take j).map (fun a => D.int (dpth a : Nat)) ∧ o = os) ⟨rfl, rfl⟩ ?_ ?_ (fun _ _ _ _ => trivial)
    · rintro j w acc o N hw2 ⟨rfl, rfl⟩ hN
      rw [List.getElem?_map] at hw2
      obtain ⟨a, ha, rfl⟩ := Option.map_eq_some_iff.mp hw2
      have hm := List.mem_of_getElem? ha
      walk_at "go"
      refine callX_all (w_depthN n (prt_wf hw a hm) (by have := prt_dp a hm; omega) ?_)
      walk_at "go"
      exact hN _ _ _ (.refl _) ⟨(take_succ_map _ ha).symm, rfl⟩
    · rintro acc o ⟨rfl, rfl⟩
      rw [List.length_map, List.take_length]
      walk_at "go"
      refine ⟨(prt e).map (fun a => ((dpth a : Nat) : Int)), by rw [List.map_map]; rfl, ?_⟩
      cases e with
      | num n => walk_at "go"; exact dropX_id h
      | cell s => walk_at "go"; exact dropX_id h
      | «at» s i =>
        walk_at "go"
        refine dropX_id ?_
        rw [show ((dpth (.at s i) : Nat) : Int) = 1 + mxI ((dpth i : Nat) : Int) [] from by show ((dpth i + 1 : Nat) : Int) = 1 + ((dpth i : Nat) : Int); omega] at h
        exact h
      | un op b =>
        walk_at "go"
        refine dropX_id ?_
        rw [show ((dpth (.un op b) : Nat) : Int) = 1 + mxI ((dpth b : Nat) : Int) [] from by show ((dpth b + 1 : Nat) : Int) = 1 + ((dpth b : Nat) : Int); omega] at h
        exact h
      | bin op b c =>
        walk_at "go"
        refine dropX_id ?_
        rw [show ((dpth (.bin op b c) : Nat) : Int) = 1 + mxI ((dpth b : Nat) : Int) [((dpth c : Nat) : Int)] from by
          show ((max (dpth b) (dpth c) + 1 : Nat) : Int) = 1 + (if ((dpth b : Nat) : Int) < ((dpth c : Nat) : Int) then ((dpth c : Nat) : Int) else ((dpth b : Nat) : Int))
          split <;> omega] at h
        exact h
theorem w_sizeN : ∀ (n : Nat) {e : Ex} {os : Os} {k : D → Os → Prop} {kx : Kx}, WfE e → dpth e ≤ n → k (.int (szE e : Nat)) os → TS_3 CS n 0 [eD e] os k kx
  | 0, e, _, _, _, _, hd, _ => by have := dpth_pos e; omega
  | n + 1, e, os, k, kx, hw, hd, h => by
    show B_size CS (TS_3 CS n) [eD e] os k kx
    unfold B_size fnT
    walk_at "go"
    refine callX_all (w_parts hw ?_)
    have hl := prt_len e
    walk_at "go"
    refine lcX_inv (fun j acc o => acc = ((prt e).take j).map (fun a => D.int (szE a : Nat)) ∧ o = os) ⟨rfl, rfl⟩ ?_ ?_ (fun _ _ _ _ => trivial)
    · rintro j w acc o N hw2 ⟨rfl, rfl⟩ hN
      rw [List.getElem?_map] at hw2
      obtain ⟨a, ha, rfl⟩ := Option.map_eq_some_iff.mp hw2
      have hm := List.mem_of_getElem? ha
      walk_at "go"
      refine callX_all (w_sizeN n (prt_wf hw a hm) (by have := prt_dp a hm; omega) ?_)
      walk_at "go"
      exact hN _ _ _ (.refl _) ⟨(take_succ_map _ ha).symm, rfl⟩
    · rintro acc o ⟨rfl, rfl⟩
      rw [List.length_map, List.take_length]
      walk_at "go"
      refine ⟨(prt e).map (fun a => ((szE a : Nat) : Int)), by rw [List.map_map]; rfl, ?_⟩
      walk_at "go"
      refine dropX_id ?_
      have e2 : ((szE e : Nat) : Int) = 1 + ((prt e).map (fun a => ((szE a : Nat) : Int))).sum := by
        cases e <;> (rw [szE, prt]; simp; try omega)
      rw [← e2]
      exact h
/-! cells -/
abbrev SC := List (Str × Int)
def scK (sc : SC) : List (Key × D) := sc.map fun c => (Sum.inr c.1, D.int c.2)
def lkC : SC → Str → Option Int
  | [], _ => none
  | c :: r, x => if c.1 = x then some c.2 else lkC r x
theorem val_scK (x : Str) : ∀ sc : SC, valD (scK sc) (.inr x) = (lkC sc x).map D.int
  | [] => rfl
  | c :: r => by
    have ih := val_scK x r
    unfold scK at ih ⊢
    rw [List.map_cons, valD, lkC, ih]
    by_cases h : c.1 = x
    · rw [if_pos h, if_pos (congrArg Sum.inr h)]; rfl
    · rw [if_neg h, if_neg (fun e => h (Sum.inr.inj e))]
theorem val_get (x : Str) (sc : SC) (d : Int) : (valD (scK sc) (.inr x)).getD (.int d) = .int ((lkC sc x).getD d) := by
  rw [val_scK]; cases lkC sc x <;> rfl
def cellsE (sc : SC) : Ex → Option Str
  | .num _ => none
  | .cell s => req (decide ((lkC sc s).getD 1 ≤ 0)) "cell"
  | .at s i => (req (decide ((lkC sc s).getD 0 > 0)) "cell").or (cellsE sc i)
  | .un _ a => cellsE sc a
  | .bin _ a b => (cellsE sc a).or (cellsE sc b)
theorem w_cellsN {sc : SC} : ∀ (n : Nat) {e : Ex} {os : Os} {k : D → Os → Prop} {kx : Kx}, WfE e → dpth e ≤ n → Fin CS (cellsE sc e) (k .non os) kx → TS_1 CS n 0 [eD e, .dK (scK sc)] os k kx
  | 0, e, _, _, _, _, hd, _ => by have := dpth_pos e; omega
  | n + 1, e, os, k, kx, hw, hd, h => by
    show B__check_cells CS (TS_1 CS n) [eD e, .dK (scK sc)] os k kx
    unfold B__check_cells fnT
    cases e with
    | num m => walk_at "go"; exact dropX_id (fin_of h)
    | cell s =>
      walk_at "go"
      rw [val_get]
      walk_at "go"
      exact callX_fin1 w_req h (fun _ _ h => dropE_id h) fun h => dropX_id h
    | «at» s i =>
      walk_at "go"
      rw [val_get]
      walk_at "go"
      refine callX_fin w_req h (fun _ _ h => dropE_id h) fun h => ?_
      walk_at "go"
      exact callX_fin1 (w_cellsN n hw (by rw [dpth] at hd; omega)) h (fun _ _ h => dropE_id h) fun h => dropX_id h
    | un op a =>
      have h1 : op ≠ "num" ∧ op ≠ "cell" ∧ op ≠ "at" := by
        have : ∀ s ∈ UNS, s ≠ "num" ∧ s ≠ "cell" ∧ s ≠ "at" := by decide +kernel
        exact this op hw.1
      have hu : inD (.str op) (UNS.map D.str) = true := by rw [inD_strs]; exact decide_eq_true hw.1
      walk_at "go"
      · exact absurd (by assumption) h1.2.1
      · exact absurd (by assumption) h1.2.2
      · refine callX_fin1 (w_cellsN n hw.2 (by rw [dpth] at hd; omega)) h (fun _ _ h => dropE_id h) fun h => ?_
        walk_at "go"
        · rename_i hb
          exact absurd (hb.symm.trans hu) (by decide)
        · exact dropX_id h
      · exact absurd (by assumption) h1.1
    | bin op a b =>
      obtain ⟨⟨h0, h1, h2, h3⟩, ha, hB⟩ := hw
      have hu : inD (.str op) (UNS.map D.str) = false := by rw [inD_strs]; exact decide_eq_false h0
      walk_at "go"
      · refine callX_fin (w_cellsN n ha (by rw [dpth] at hd; omega)) h (fun _ _ h => dropE_id h) fun h => ?_
        walk_at "go"
        · exact callX_fin1 (w_cellsN n hB (by rw [dpth] at hd; omega)) h (fun _ _ h => dropE_id h) fun h => dropX_id h
        · rename_i hb
          exact absurd (hb.symm.trans hu) (by decide)
def exprE (sc : SC) (m : Int) (e : Ex) : Option Str := (req (decide ((dpth e : Int) ≤ m) && decide (szE e ≤ 40)) "size").or (cellsE sc e)
theorem w_exprE {sc : SC} {e : Ex} {m : Int} {os : Os} {k : D → Os → Prop} {kx : Kx} (hw : WfE e) (hd : dpth e ≤ 10) (h : Fin CS (exprE sc m e) (k .non os) kx) : T__check_expression CS [eD e, .dK (scK sc), .int m] os k kx := by
  unfold T__check_expression fnT
  walk_at "go"
  refine callX_all (w_depthN 10 hw hd ?_)
  walk_at "go"
  · rename_i hb
    refine callX_all (w_sizeN 10 hw hd ?_)
    walk_at "go"
    refine callX_fin (b := cellsE sc e) w_req (by rw [exprE, decide_eq_true hb, Bool.true_and] at h; rw [show decide (((szE e : Nat) : Int) ≤ 40) = decide (szE e ≤ 40) from decide_eq_decide.mpr (by omega)]; exact h) (fun _ _ h => dropE_id h) fun h => ?_
    walk_at "go"
    exact callX_fin1 (w_cellsN 10 hw hd) h (fun _ _ h => dropE_id h) fun h => dropX_id h
  · rename_i hb
    refine callX_fin (b := cellsE sc e) w_req (by rw [exprE, decide_eq_false hb, Bool.false_and] at h; exact h) (fun _ _ h => dropE_id h) fun h => ?_
    walk_at "go"
    exact callX_fin1 (w_cellsN 10 hw hd) h (fun _ _ h => dropE_id h) fun h => dropX_id h
def WfO (p : Option Ex) : Prop := ∀ e, p = some e → WfE e ∧ dpth e ≤ 10
def idxE (sc : SC) : Option Ex → Option Str
  | some (.at _ i) => exprE sc 6 i
  | _ => none
def plcE (sc : SC) : Option Ex → Option Str
  | some (.at s _) => req (decide ((lkC sc s).getD 0 > 0)) "cell"
  | some (.cell s) => req (decide ((lkC sc s).getD 1 = 0)) "cell"
  | _ => none
/-- a place: none, a cell or an array's cell -/
def IsPl : Option Ex → Prop
  | none => True
  | some (.cell _) => True
  | some (.at _ i) => WfE i ∧ dpth i ≤ 10
  | _ => False
theorem w_idxE {sc : SC} {p : Option Ex} {os : Os} {k : D → Os → Prop} {kx : Kx} (hp : IsPl p) (h : Fin CS (idxE sc p) (k .non os) kx) : T__check_index CS [oeD p, .dK (scK sc)] os k kx := by
  unfold T__check_index fnT
  match p, hp with
  | none, _ => walk_at "go"; exact dropX_id (fin_of h)
  | some (.cell s), _ => rw [oeD]; walk_at "go"; exact dropX_id (fin_of h)
  | some (.at s i), hp =>
    rw [oeD]
    walk_at "go"
    exact callX_fin1 (w_exprE hp.1 hp.2) h (fun _ _ h => dropE_id h) fun h => dropX_id h
theorem w_plcE {sc : SC} {p : Option Ex} {os : Os} {k : D → Os → Prop} {kx : Kx} (hp : IsPl p) (h : Fin CS (plcE sc p) (k .non os) kx) : T__check_place CS [oeD p, .dK (scK sc)] os k kx := by
  unfold T__check_place fnT
  match p, hp with
  | none, _ => walk_at "go"; exact dropX_id (fin_of h)
  | some (.cell s), _ =>
    rw [oeD]
    walk_at "go"
    rw [val_get]
    walk_at "go"
    exact callX_fin1 w_req h (fun _ _ h => dropE_id h) fun h => dropX_id h
  | some (.at s i), hp =>
    rw [oeD]
    walk_at "go"
    rw [val_get]
    walk_at "go"
    exact callX_fin1 w_req h (fun _ _ h => dropE_id h) fun h => dropX_id h

end

section
variable {CS : Nat → Addr}
/-! the checker: counts of statements -/
mutual
def mS : St → Nat
  | .iff _ a b => mB a + mB b
  | .loop _ _ _ b => mB b
  | _ => 0
def mB : List St → Nat
  | [] => 0
  | s :: b => 1 + mS s + mB b
end
mutual
def dS : St → Nat
  | .iff _ a b => max (dB a + 1) (dB b + 1)
  | .loop _ _ _ b => dB b + 1
  | _ => 0
def dB : List St → Nat
  | [] => 0
  | s :: b => max (dS s) (dB b)
end
mutual
def lS : St → Nat
  | .iff _ a b => max (lB a) (lB b)
  | .loop _ _ _ b => lB b + 1
  | _ => 0
def lB : List St → Nat
  | [] => 0
  | s :: b => max (lS s) (lB b)
end
theorem bdD_len : ∀ b : List St, (bdD b).length = b.length
  | [] => rfl
  | s :: b => by rw [bdD, List.length_cons, List.length_cons, bdD_len b]
theorem mB_len : ∀ b : List St, b.length ≤ mB b
  | [] => Nat.zero_le _
  | s :: b => by have := mB_len b; rw [mB, List.length_cons]; omega
/-- the loop over the inner bodies -/
def cnT (m d l : Nat) : D := .tup [.int (m : Nat), .int ((d : Nat) : Int), .int (l : Nat)]
theorem w_countN : ∀ (n : Nat) {b : List St} {os : Os} {k : D → Os → Prop} {kx : Kx}, dB b + 1 ≤ n → mB b ≤ 100000 → k (cnT (mB b) (dB b + 1) (lB b)) os → TS_0 CS n 0 [.lst (bdD b)] os k kx
  | 0, _, _, _, _, hd, _, _ => by omega
  | n + 1, b, os, k, kx, hd, hm, h => by
    show B__count CS (TS_0 CS n) [.lst (bdD b)] os k kx
    unfold B__count fnT
    have hl : (bdD b).length ≤ sizeLine := by rw [bdD_len, sizeLine_eq]; have := mB_len b; omega
    walk_at "go"
    refine forX_ind (fun ws env o => ∃ (r : List St) (M Dp Lp : Nat) (y4 y5 y6 y7 y8 : Option D), ws = bdD r ∧ env = [some (.lst (bdD b)), some (.int ((M : Nat) : Int)), some (.int ((Dp : Nat) : Int)), some (.int ((Lp : Nat) : Int)), y4, y5, y6, y7, y8] ∧ o = os ∧ dB r ≤ n ∧ M + mB r ≤ 100000 + r.length ∧ k (cnT (M + mB r - r.length) (max Dp (dB r) + 1) (max Lp (lB r))) os) ?_ ?_
      ⟨b, b.length, 0, 0, _, _, _, _, _, rfl, by rw [bdD_len]; rfl, rfl, by omega, by omega, by
        rw [show b.length + mB b - b.length = mB b by omega, Nat.zero_max, Nat.zero_max]; exact h⟩
    · rintro env o ⟨r, M, Dp, Lp, y4, y5, y6, y7, y8, hw, rfl, rfl, h1, h2, hk⟩
      cases r with
      | nil =>
        walk_at "go"
        refine dropX_id ?_
        rw [mB, dB, lB, Nat.max_zero, Nat.max_zero] at hk
        unfold cnT at hk
        have e : (1 + (Dp : Int)) = ((Dp + 1 : Nat) : Int) := by omega
        rw [e]
        exact hk
      | cons _ _ => cases hw
    · rintro w ws env o N ⟨r, M, Dp, Lp, y4, y5, y6, y7, y8, hw, rfl, rfl, h1, h2, hk⟩ hN
      cases r with
      | nil => cases hw
      | cons s r =>
        rw [bdD] at hw
        obtain ⟨rfl, rfl⟩ := List.cons.inj hw
        rw [dB] at h1
        have hN2 : ∀ (M2 D2 L2 : Int) (y4 y5 y6 y7 y8 : Option D), M2 = ((M + mS s : Nat) : Int) → D2 = ((max Dp (dS s) : Nat) : Int) → L2 = ((max Lp (lS s) : Nat) : Int) → N [some (.lst (bdD b)), some (.int M2), some (.int D2), some (.int L2), y4, y5, y6, y7, y8] o := by
          rintro M2 D2 L2 y4 y5 y6 y7 y8 rfl rfl rfl
          refine hN _ _ ⟨r, _, _, _, _, _, _, _, _, rfl, rfl, rfl, by omega, by rw [mB, List.length_cons] at h2; omega, ?_⟩
          rw [mB, dB, lB, List.length_cons] at hk
          rw [show M + mS s + mB r - r.length = M + (1 + mS s + mB r) - (r.length + 1) by omega, Nat.max_assoc, Nat.max_assoc]
          exact hk
        clear hN hk h
        cases s with
        | set p e =>
          rw [stD]
          walk_at "go"
          exact forX_nil (hN2 _ _ _ _ _ _ _ _ (by simp [mS]) (by simp [dS]) (by simp [lS]))
        | call p th op args =>
          rw [stD]
          walk_at "go"
          exact forX_nil (hN2 _ _ _ _ _ _ _ _ (by simp [mS]) (by simp [dS]) (by simp [lS]))
        | write x e =>
          rw [stD]
          walk_at "go"
          exact forX_nil (hN2 _ _ _ _ _ _ _ _ (by simp [mS]) (by simp [dS]) (by simp [lS]))
        | read p x =>
          rw [stD]
          walk_at "go"
          exact forX_nil (hN2 _ _ _ _ _ _ _ _ (by simp [mS]) (by simp [dS]) (by simp [lS]))
        | iff c a b2 =>
          rw [stD]
          rw [dS] at h1
          rw [mB, mS, List.length_cons] at h2
          have hr := mB_len r
          walk_at "go"
          refine forX_cons ?_
          try dsimp only [setE, startE]
          walk_at "go"
          refine callX_all (w_countN n (b := a) (by omega) (by omega) ?_)
          unfold cnT
          walk_at "go"
          refine forX_cons ?_
          try dsimp only [setE, startE]
          walk_at "go"
          refine callX_all (w_countN n (b := b2) (by omega) (by omega) ?_)
          unfold cnT
          walk_at "go"
          exact forX_nil (hN2 _ _ _ _ _ _ _ _ (by simp only [mS]; omega) (by simp only [dS]; (repeat' split) <;> omega) (by simp only [lS]; (repeat' split) <;> omega))
        | loop x kk t b2 =>
          rw [stD]
          rw [dS] at h1
          rw [mB, mS, List.length_cons] at h2
          have hr := mB_len r
          walk_at "go"
          refine forX_cons ?_
          try dsimp only [setE, startE]
          walk_at "go"
          refine callX_all (w_countN n (b := b2) (by omega) (by omega) ?_)
          unfold cnT
          walk_at "go"
          exact forX_nil (hN2 _ _ _ _ _ _ _ _ (by simp only [mS]; omega) (by simp only [dS]; (repeat' split) <;> omega) (by simp only [lS]; (repeat' split) <;> omega))

end

section
variable {CS : Nat → Addr}
/-! the checker: calls, reads, writes -/
structure COp where
  name : Str
  params : List Str
  own : SC
  body : List St
  res : Option Ex
structure COb where
  name : Str
  fields : SC
  ops : List COp
structure CTa where
  name : Str
  dist : Int
  within : Int
  cells : SC
  body : List St
structure CIn where
  name : Str
  dist : Int
  within : Int
  th : Str
  op : Str
  args : List D
structure CPr where
  name : Str
  ports : List (Str × Str)
  obs : List COb
  tasks : List CTa
  irs : List CIn
def copD (r : COp) : D := .tup [.str "operation", .str r.name, .lst (r.params.map D.str), .lst (r.own.map cellD), .lst (bdD r.body), oeD r.res]
def cobD (r : COb) : D := .tup [.str "object", .str r.name, .lst (r.fields.map cellD), .lst (r.ops.map copD)]
def ctaD (r : CTa) : D := .tup [.str "task", .str r.name, .int r.dist, .int r.within, .lst (r.cells.map cellD), .lst (bdD r.body)]
def cinD (r : CIn) : D := .tup [.str "interrupt", .str r.name, .int r.dist, .int r.within, .str r.th, .str r.op, .lst r.args]
def cprD (r : CPr) : D := .tup [.str "system", .str r.name, .lst (r.ports.map portD), .lst (r.obs.map cobD), .lst (r.tasks.map ctaD), .lst (r.irs.map cinD)]
theorem nm_cob (l : List COb) : (l.map cobD).map nmOf = (l.map (·.name)).map some := by rw [List.map_map, List.map_map]; rfl
theorem nm_cop (l : List COp) : (l.map copD).map nmOf = (l.map (·.name)).map some := by rw [List.map_map, List.map_map]; rfl
theorem nm_port (l : List (Str × Str)) : (l.map portD).map nmOf = (l.map (·.2)).map some := by rw [List.map_map, List.map_map]; rfl
theorem fnd_is : ∀ (ns : List Str) (i : Int) (x : Str), fnd i ns x = -1 ∨ ∃ j : Nat, fnd i ns x = i + j ∧ ns[j]? = some x
  | [], i, x => .inl rfl
  | n :: ns, i, x => by
    rw [fnd]
    split
    · rename_i e
      exact .inr ⟨0, by omega, by rw [e]; rfl⟩
    · rcases fnd_is ns (i + 1) x with h | ⟨j, h1, h2⟩
      · exact .inl h
      · exact .inr ⟨j + 1, by rw [h1]; omega, h2⟩
theorem fnd_get {α : Type} {l : List α} {f : α → Str} {x : Str} (h : 0 ≤ fnd 0 (l.map f) x) : ∃ a, l[(fnd 0 (l.map f) x).toNat]? = some a ∧ f a = x := by
  rcases fnd_is (l.map f) 0 x with h1 | ⟨j, h1, h2⟩
  · omega
  · rw [List.getElem?_map] at h2
    obtain ⟨a, ha, hf⟩ := Option.map_eq_some_iff.mp h2
    refine ⟨a, ?_, hf⟩
    rw [h1, show (0 + (j : Int)).toNat = j by omega]
    exact ha
theorem callX_finA {T : FT} {ws : List D} {os : Os} {k' : D → Os → Prop} {kx kx' : Kx} {a b : Option Str} {K : Prop} (hT : ∀ {k : D → Os → Prop} {kx : Kx}, Fin CS a (k .non os) kx → T ws os k kx) (h : Fin CS (a.or b) K kx)
    (hx : ∀ s o, kx (Bad CS s) o → kx' (Bad CS s) o) (hk : a = none → Fin CS b K kx → k' .non os) : callX T ws os k' kx' := by
  refine callX_all (hT ?_)
  cases a with
  | none => exact fin_n (hk rfl h)
  | some s => exact fin_s fun o => hx _ _ (fin_so h o)
theorem req_none {b : Bool} {r : Str} (h : req b r = none) : b = true := by
  cases b
  · cases h
  · rfl
def opF (ops : List COp) (many i : Int) : Option Str :=
  match ops[i.toNat]? with
  | some o => req (decide (0 ≤ i) && decide ((o.params.length : Int) = many)) "call"
  | none => some "call"
def opE (ob : COb) (op : Str) (many : Int) : Option Str := opF ob.ops many (fnd 0 (ob.ops.map (·.name)) op)
def callE (obs : List COb) (th op : Str) (many owner : Int) : Option Str :=
  let i := fnd 0 (obs.map (·.name)) th
  (req (decide (owner < i)) "call").or (match obs[i.toNat]? with
    | some ob => opE ob op many
    | none => none)
theorem req_f (r : Str) : req false r = some r := rfl
theorem req_t (r : Str) : req true r = none := rfl
theorem w_callE {obs : List COb} {th op : Str} {many owner : Int} {os : Os} {k : D → Os → Prop} {kx : Kx} (ho : -1 ≤ owner) (hp : ∀ ob ∈ obs, ∀ o ∈ ob.ops, o.params.length ≤ 1000) (h : Fin CS (callE obs th op many owner) (k .non os) kx) :
    T_check_call CS [.lst (obs.map cobD), .str th, .str op, .int many, .int owner] os k kx := by
  unfold T_check_call fnT
  walk_at "go"
  refine callX_all (w_find (nm_cob obs) ?_)
  unfold callE at h
  have hg := fnd_get (l := obs) (f := (·.name)) (x := th)
  generalize fnd 0 (obs.map (·.name)) th = i at h hg ⊢
  walk_at "go"
  refine callX_finA w_req h (fun _ _ h => dropE_id h) fun hr h2 => ?_
  have hi := of_decide_eq_true (req_none hr)
  have h0 : 0 ≤ i := by omega
  obtain ⟨ob, hob, _⟩ := hg h0
  clear h hg
  have hpo := hp ob (List.mem_of_getElem? hob)
  rw [hob] at h2
  have h2 : Fin CS (opE ob op many) (k .non os) kx := h2
  walk_at "go"
  unfold cobD
  walk_at "go"
  refine callX_all (w_find (nm_cop ob.ops) ?_)
  unfold opE at h2
  have hg2 := fnd_get (l := ob.ops) (f := (·.name)) (x := op)
  generalize fnd 0 (ob.ops.map (·.name)) op = j at h2 hg2 ⊢
  walk_at "go"
  · rename_i hj
    unfold opF at h2
    obtain ⟨o, ho2, _⟩ := hg2 hj
    have hlo := hpo o (List.mem_of_getElem? ho2)
    rw [ho2] at h2
    have h2 : Fin CS (req (decide (0 ≤ j) && decide ((o.params.length : Int) = many)) "call") (k .non os) kx := h2
    rw [decide_eq_true hj, Bool.true_and] at h2
    walk_at "go"
    unfold copD
    walk_at "go"
    refine callX_fin1 w_req ?_ (fun _ _ h => dropE_id h) fun h => dropX_id h
    rw [List.length_map]
    exact h2
  · rename_i hj
    unfold opF at h2
    refine callX_fin1 (K := k .non os) w_req ?_ (fun _ _ h => dropE_id h) fun h => dropX_id h
    cases e : ob.ops[j.toNat]? with
    | none => rw [e] at h2; exact h2
    | some o =>
      rw [e] at h2
      have h2 : Fin CS (req (decide (0 ≤ j) && decide ((o.params.length : Int) = many)) "call") (k .non os) kx := h2
      rw [decide_eq_false hj, Bool.false_and] at h2
      exact h2
def portF (ports : List (Str × Str)) (owner i : Int) (kind : Str) : Option Str := req (decide (owner < 0) && (decide (0 ≤ i) && decide ((ports[i.toNat]?).map (·.1) = some kind))) "port"
def portE (ports : List (Str × Str)) (owner : Int) (x kind : Str) : Option Str := portF ports owner (fnd 0 (ports.map (·.2)) x) kind
abbrev INS (CS : Nat → Addr) (s : Addr) (ports : List (Str × Str)) (obs : List COb) : Os := [(s, .ins (CS 0) [(f_ports, .lst (ports.map portD)), (f_objects, .lst (obs.map cobD))])]
def argsE (sc : SC) : List Ex → Option Str
  | [] => none
  | e :: r => (exprE sc 4 e).or (argsE sc r)
def callS (sc : SC) (obs : List COb) (owner : Int) (p : Option Ex) (th op : Str) (args : List Ex) : Option Str :=
  (argsE sc args).or ((idxE sc p).or ((plcE sc p).or (callE obs th op args.length owner)))
theorem fin_or {a b : Option Str} {K : Prop} {kx : Kx} (h : Fin CS (a.or b) K kx) : Fin CS a (Fin CS b K kx) kx := by
  cases a with
  | none => exact fin_n h
  | some s => exact fin_s (fin_so h)
theorem fin_mono {a : Option Str} {K K' : Prop} {kx kx' : Kx} (h : Fin CS a K kx) (hx : ∀ s o, kx (Bad CS s) o → kx' (Bad CS s) o) (hk : K → K') : Fin CS a K' kx' := by
  cases a with
  | none => exact fin_n (hk (fin_of h))
  | some s => exact fin_s fun o => hx _ _ (fin_so h o)
theorem w_callS {sc : SC} {ports : List (Str × Str)} {obs : List COb} {owner : Int} {p : Option Ex} {th op : Str} {args : List Ex} {s : Addr} {k : D → Os → Prop} {kx : Kx} (ho : -1 ≤ owner) (hp : ∀ ob ∈ obs, ∀ o ∈ ob.ops, o.params.length ≤ 1000)
    (hpl : IsPl p) (ha : ∀ e ∈ args, WfE e ∧ dpth e ≤ 10) (hl : args.length ≤ 1000) (h : Fin CS (callS sc obs owner p th op args) (k .non (INS CS s ports obs)) kx) :
    T_Checker_call CS [.ref s, stD (.call p th op args), .dK (scK sc), .int owner] (INS CS s ports obs) k kx := by
  unfold T_Checker_call fnT
  rw [stD]
  walk_at "go"
  refine forX_ind (fun ws env o => ∃ r y, ws = r.map eD ∧ env = [some (.ref s), some (.tup [.str "call", oeD p, .str th, .str op, .lst (args.map eD)]), some (.dK (scK sc)), some (.int owner), y] ∧ o = INS CS s ports obs ∧ (∀ e ∈ r, WfE e ∧ dpth e ≤ 10) ∧ Fin CS ((argsE sc r).or ((idxE sc p).or ((plcE sc p).or (callE obs th op args.length owner)))) (k .non (INS CS s ports obs)) kx) ?_ ?_ ⟨args, _, rfl, rfl, rfl, ha, h⟩
  · rintro env o ⟨r, y, hw, rfl, rfl, hr, hk⟩
    cases r with
    | cons _ _ => cases hw
    | nil =>
      have hk : Fin CS ((idxE sc p).or ((plcE sc p).or (callE obs th op args.length owner))) (k .non (INS CS s ports obs)) kx := hk
      walk_at "go"
      refine callX_fin (w_idxE hpl) hk (fun _ _ h => dropE_id h) fun h => ?_
      walk_at "go"
      refine callX_fin (w_plcE hpl) h (fun _ _ h => dropE_id h) fun h => ?_
      walk_at "go"
      refine callX_fin1 (w_callE ho hp) (by rw [List.length_map]; exact h) (fun _ _ h => dropE_id h) fun h => dropX_id h
  · rintro w ws env o M ⟨r, y, hw, rfl, rfl, hr, hk⟩ hM
    cases r with
    | nil => cases hw
    | cons e r =>
      obtain ⟨rfl, rfl⟩ := List.cons.inj hw
      obtain ⟨h1, h2⟩ := hr _ (.head _)
      rw [argsE, Option.or_assoc] at hk
      walk_at "go"
      refine callX_fin (w_exprE h1 h2) hk (fun _ _ h => dropE_id h) fun h => ?_
      exact hM _ _ ⟨r, _, rfl, rfl, rfl, fun e he => hr e (.tail _ he), h⟩
def trS (sc : SC) (ports : List (Str × Str)) (owner : Int) : St → Option Str
  | .read p x => (idxE sc (some p)).or ((plcE sc (some p)).or (portE ports owner x "in"))
  | .write x e => (exprE sc 6 e).or (portE ports owner x "out")
  | _ => none
theorem port_eq {c : Str × Str} {kd : Str} : decide ((some c).map (·.1) = some kd) = decide (c.1 = kd) := decide_eq_decide.mpr ⟨fun h => Option.some.inj h, fun h => congrArg some h⟩
theorem w_trS {sc : SC} {ports : List (Str × Str)} {obs : List COb} {owner : Int} {t : St} {s : Addr} {k : D → Os → Prop} {kx : Kx} (ht : (∃ p x, t = .read p x ∧ IsPl (some p)) ∨ ∃ x e, t = .write x e ∧ WfE e ∧ dpth e ≤ 10)
    (h : Fin CS (trS sc ports owner t) (k .non (INS CS s ports obs)) kx) : T_Checker_transfer CS [.ref s, stD t, .dK (scK sc), .int owner] (INS CS s ports obs) k kx := by
  unfold T_Checker_transfer fnT
  rcases ht with ⟨p, x, rfl, hp⟩ | ⟨x, e, rfl, h1, h2⟩
  · rw [stD]
    rw [trS] at h
    walk_at "go"
    refine callX_fin (w_idxE hp) h (fun _ _ h => dropE_id h) fun h => ?_
    walk_at "go"
    refine callX_fin (w_plcE hp) h (fun _ _ h => dropE_id h) fun h => ?_
    walk_at "go"
    refine callX_all (w_find (nm_port ports) ?_)
    unfold portE at h
    have hg := fnd_get (l := ports) (f := (·.2)) (x := x)
    generalize fnd 0 (ports.map (·.2)) x = i at h hg ⊢
    unfold portF at h
    walk_at "go"
    · rename_i h1 h2
      obtain ⟨c, hc, _⟩ := hg h2
      rw [decide_eq_true h1, decide_eq_true h2, Bool.true_and, Bool.true_and, hc] at h
      walk_at "go"
      refine callX_fin1 w_req ?_ (fun _ _ h => dropE_id h) fun h => dropX_id h
      rw [port_eq] at h
      exact h
    · rename_i h1 h2
      rw [decide_eq_true h1, decide_eq_false h2, Bool.true_and, Bool.false_and] at h
      exact callX_fin1 w_req h (fun _ _ h => dropE_id h) fun h => dropX_id h
    · rename_i h1
      rw [decide_eq_false h1, Bool.false_and] at h
      exact callX_fin1 w_req h (fun _ _ h => dropE_id h) fun h => dropX_id h
  · rw [stD]
    rw [trS] at h
    walk_at "go"
    refine callX_fin (w_exprE h1 h2) h (fun _ _ h => dropE_id h) fun h => ?_
    walk_at "go"
    refine callX_all (w_find (nm_port ports) ?_)
    unfold portE at h
    have hg := fnd_get (l := ports) (f := (·.2)) (x := x)
    generalize fnd 0 (ports.map (·.2)) x = i at h hg ⊢
    unfold portF at h
    walk_at "go"
    · rename_i h1 h2
      obtain ⟨c, hc, _⟩ := hg h2
      rw [decide_eq_true h1, decide_eq_true h2, Bool.true_and, Bool.true_and, hc] at h
      walk_at "go"
      refine callX_fin1 w_req ?_ (fun _ _ h => dropE_id h) fun h => dropX_id h
      rw [port_eq] at h
      exact h
    · rename_i h1 h2
      rw [decide_eq_true h1, decide_eq_false h2, Bool.true_and, Bool.false_and] at h
      exact callX_fin1 w_req h (fun _ _ h => dropE_id h) fun h => dropX_id h
    · rename_i h1
      rw [decide_eq_false h1, Bool.false_and] at h
      exact callX_fin1 w_req h (fun _ _ h => dropE_id h) fun h => dropX_id h

end

section
variable {CS : Nat → Addr}
/-! the checker: statements -/
abbrev Nms (sc : SC) : List Str := sc.map (·.1)
theorem lkC_none {x : Str} : ∀ {sc : SC}, (lkC sc x).isSome = decide (x ∈ Nms sc)
  | [] => by simp [lkC]
  | c :: r => by
    have ih := lkC_none (x := x) (sc := r)
    rw [lkC]
    by_cases h : c.1 = x
    · rw [if_pos h]; simp [h]
    · rw [if_neg h, ih]
      have h' : ¬ x = c.1 := fun e => h e.symm
      simp [h']
theorem lkC_at : ∀ {sc : SC} {j : Nat} {c : Str × Int}, (Nms sc).Nodup → sc[j]? = some c → lkC sc c.1 = some c.2
  | [], _, _, _, h => by simp at h
  | d :: r, 0, c, _, h => by cases h; rw [lkC, if_pos rfl]
  | d :: r, j + 1, c, hn, h => by
    have h : r[j]? = some c := h
    rw [Nms, List.map_cons, List.nodup_cons] at hn
    rw [lkC, if_neg (fun e => hn.1 (by rw [e]; exact List.mem_map.mpr ⟨c, List.mem_of_getElem? h, rfl⟩))]
    exact lkC_at hn.2 h
theorem put_new {sc : SC} {x : Str} {v : Int} (h : x ∉ Nms sc) : putD (scK sc) (.inr x) (.int v) = scK (sc ++ [(x, v)]) := by
  have e : lkC sc x = none := by
    have := lkC_none (x := x) (sc := sc)
    rw [decide_eq_false h] at this
    cases e : lkC sc x with
    | none => rfl
    | some _ => rw [e] at this; cases this
  rw [putD, val_scK, e]
  unfold scK
  rw [List.map_append]
  rfl
theorem scK_keys (sc : SC) : (scK sc).map (fun kv => dOfK kv.1) = (Nms sc).map D.str := by
  unfold scK
  rw [List.map_map, List.map_map]
  rfl
theorem scK_len (sc : SC) : (scK sc).length = sc.length := by unfold scK; rw [List.length_map]
theorem take_at {α : Type} {xs : List α} {j : Nat} {a : α} (h : xs[j]? = some a) : xs.take (j + 1) = xs.take j ++ [a] := by rw [List.take_add_one, h]; rfl
theorem nms_take {sc : SC} {j : Nat} {c : Str × Int} (hn : (Nms sc).Nodup) (h : sc[j]? = some c) : c.1 ∉ Nms (sc.take j) := by
  have h2 : (Nms (sc.take (j + 1))).Nodup := by
    unfold Nms
    rw [List.map_take]
    exact hn.sublist (List.take_sublist _ _)
  rw [take_at h] at h2
  unfold Nms at h2 ⊢
  rw [List.map_append] at h2
  intro hm
  exact (List.nodup_append.mp h2).2.2 _ hm _ (.head _) rfl
def tstE (sc : SC) : Option Ex → Option Str
  | none => none
  | some e => exprE sc 6 e
mutual
def stE (sc : SC) (obs : List COb) (ports : List (Str × Str)) (owner : Int) : St → Option Str
  | .set p e => (idxE sc (some p)).or ((exprE sc 6 e).or (plcE sc (some p)))
  | .iff c a b => (exprE sc 6 c).or ((bdE sc obs ports owner a).or (bdE sc obs ports owner b))
  | .loop x k t b => (tstE sc t).or ((req (decide (1 ≤ k) && decide (k ≤ 64)) "size").or ((req (isNm x && !decide (x ∈ Nms sc)) "name").or (bdE (sc ++ [(x, -1)]) obs ports owner b)))
  | .call p th op args => callS sc obs owner p th op args
  | .write x e => trS sc ports owner (.write x e)
  | .read p x => trS sc ports owner (.read p x)
def bdE (sc : SC) (obs : List COb) (ports : List (Str × Str)) (owner : Int) : List St → Option Str
  | [] => none
  | s :: b => (stE sc obs ports owner s).or (bdE sc obs ports owner b)
end
mutual
def WfS : St → Prop
  | .set p e => IsPl (some p) ∧ WfE e ∧ dpth e ≤ 10
  | .iff c a b => (WfE c ∧ dpth c ≤ 10) ∧ WfB a ∧ WfB b
  | .loop x _ t b => x.length ≤ 1000 ∧ WfO t ∧ WfB b
  | .call p _ _ args => IsPl p ∧ (∀ e ∈ args, WfE e ∧ dpth e ≤ 10) ∧ args.length ≤ 1000
  | .write _ e => WfE e ∧ dpth e ≤ 10
  | .read p _ => IsPl (some p)
def WfB : List St → Prop
  | [] => True
  | s :: b => WfS s ∧ WfB b
end
def StmSp (CS : Nat → Addr) (obs : List COb) (ports : List (Str × Str)) (owner : Int) (n : Nat) : Prop := ∀ {b : List St} {sc : SC} {s : Addr} {k : D → Os → Prop} {kx : Kx}, 2 * dB b + 1 ≤ n → WfB b → (Nms sc).Nodup → sc.length + dB b ≤ 900 →
  Fin CS (bdE sc obs ports owner b) (k .non (INS CS s ports obs)) kx → TS_4 CS n 0 [.ref s, .lst (bdD b), .dK (scK sc), .int owner] (INS CS s ports obs) k kx
def LoopSp (CS : Nat → Addr) (obs : List COb) (ports : List (Str × Str)) (owner : Int) (n : Nat) : Prop := ∀ {x : Str} {kk : Int} {t : Option Ex} {b : List St} {sc : SC} {s : Addr} {k : D → Os → Prop} {kx : Kx}, 2 * dB b + 2 ≤ n → WfS (.loop x kk t b) → (Nms sc).Nodup → sc.length + dB b + 1 ≤ 900 →
  Fin CS (stE sc obs ports owner (.loop x kk t b)) (k .non (INS CS s ports obs)) kx → TS_4 CS n 1 [.ref s, stD (.loop x kk t b), .dK (scK sc), .int owner] (INS CS s ports obs) k kx
theorem nodup_app {sc : SC} {x : Str} {v : Int} (h : (Nms sc).Nodup) (hx : x ∉ Nms sc) : (Nms (sc ++ [(x, v)])).Nodup := by
  unfold Nms
  rw [List.map_append]
  refine List.nodup_append.mpr ⟨h, by simp, ?_⟩
  intro a ha b hb
  rcases List.mem_singleton.mp hb with rfl
  exact fun e => hx (e ▸ ha)
theorem w_loopN {obs : List COb} {ports : List (Str × Str)} {owner : Int} {n : Nat} (hst : StmSp CS obs ports owner n) : LoopSp CS obs ports owner (n + 1) := by
  intro x kk t b sc s k kx hd hw hn hl h
  show B_Checker_loop CS (TS_4 CS n) [.ref s, stD (.loop x kk t b), .dK (scK sc), .int owner] (INS CS s ports obs) k kx
  unfold B_Checker_loop fnT
  rw [WfS] at hw
  obtain ⟨hx, ht, hb⟩ := hw
  rw [stD]
  rw [stE] at h
  have hlen : (scK sc).length ≤ sizeLine := szI (by rw [scK_len]; omega)
  have hlt : (scK sc).length < sizeLine := szJ (by rw [scK_len]; omega)
  rcases t with _ | e
  rotate_left
  rw [oeD]
  obtain ⟨h1, h2⟩ := ht e rfl
  obtain ⟨ds, hds⟩ : ∃ ds, eD e = .tup ds := by cases e <;> exact ⟨_, rfl⟩
  rw [hds]
  walk_at "go"
  rw [← hds]
  refine callX_fin (w_exprE h1 h2) h (fun _ _ h => dropE_id h) fun h => ?_
  have h3 : Fin CS ((req (decide (1 ≤ kk) && decide (kk ≤ 64)) "size").or ((req (isNm x && !decide (x ∈ Nms sc)) "name").or (bdE (sc ++ [(x, -1)]) obs ports owner b))) (k .non (INS CS s ports obs)) kx := h
  clear h
  rotate_left
  rw [oeD]
  have h3 : Fin CS ((req (decide (1 ≤ kk) && decide (kk ≤ 64)) "size").or ((req (isNm x && !decide (x ∈ Nms sc)) "name").or (bdE (sc ++ [(x, -1)]) obs ports owner b))) (k .non (INS CS s ports obs)) kx := h
  clear h
  all_goals
    walk_at "go"
    rotate_left
    · rename_i hk1
      exact callX_finA (b := none) (K := False) (kx := kx) (a := some "size") (fun h => w_req h) (by rw [decide_eq_false hk1, Bool.false_and] at h3; exact fin_s (fin_so h3)) (fun _ _ h => dropE_id h) fun hr => nomatch hr
    rename_i hk1
    refine callX_finA w_req (by rw [decide_eq_true hk1, Bool.true_and] at h3; exact h3) (fun _ _ h => dropE_id h) fun hr h4 => ?_
    clear h3 hr
    walk_at "go"
    refine callX_all (w_nm hx ?_)
    walk_at "go"
    rotate_left
    · rename_i hk1
      exact callX_finA (b := none) (K := False) (kx := kx) (a := some "name") (fun h => w_req h) (by rw [hk1, Bool.false_and] at h4; exact fin_s (fin_so h4)) (fun _ _ h => dropE_id h) fun hr => nomatch hr
    rename_i hk2
    rw [show (valD (scK sc) (.inr x)).isSome = decide (x ∈ Nms sc) from by rw [val_scK, Option.isSome_map, lkC_none]]
    refine callX_finA w_req (by rw [hk2, Bool.true_and] at h4; exact h4) (fun _ _ h => dropE_id h) fun hr h => ?_
    have hx : x ∉ Nms sc := fun e => by
      have := req_none hr
      rw [decide_eq_true e] at this
      cases this
    clear hr h4 hk1 hk2
    walk_at "go"
    rw [scK_keys]
    refine dcX_inv (fun j acc o => acc = scK (sc.take j) ∧ o = INS CS s ports obs) ⟨rfl, rfl⟩ ?_ ?_ (fun _ _ _ _ => trivial)
    · rintro j w acc o N hw ⟨rfl, rfl⟩ hN
      rw [List.getElem?_map, List.getElem?_map] at hw
      obtain ⟨y, hy, rfl⟩ := Option.map_eq_some_iff.mp hw
      obtain ⟨c, hc, rfl⟩ := Option.map_eq_some_iff.mp hy
      have hv : valD (scK sc) (.inr c.1) = some (.int c.2) := by rw [val_scK, lkC_at hn hc]; rfl
      walk_at "go"
      refine hN _ _ _ (.refl _) ⟨?_, rfl⟩
      rw [put_new (nms_take hn hc), take_at hc]
    · rintro acc o ⟨rfl, rfl⟩
      rw [List.length_map, List.length_map, List.take_length]
      walk_at "go"
      rw [put_new hx]
      show callX _ _ (INS CS s ports obs) _ _
      exact callX_fin1 (fun h => hst (by omega) hb (nodup_app hn hx) (by rw [List.length_append, List.length_singleton]; omega) h) h (fun _ _ h => dropE_id h) fun h => dropX_id h
theorem w_stmN {obs : List COb} {ports : List (Str × Str)} {owner : Int} {n : Nat} (ho : -1 ≤ owner) (hp : ∀ ob ∈ obs, ∀ o ∈ ob.ops, o.params.length ≤ 1000) (hlp : LoopSp CS obs ports owner n) (hst : StmSp CS obs ports owner n) : StmSp CS obs ports owner (n + 1) := by
  intro b sc s k kx hd hw hn hl h
  show B_Checker_statements CS (TS_4 CS n) [.ref s, .lst (bdD b), .dK (scK sc), .int owner] (INS CS s ports obs) k kx
  unfold B_Checker_statements fnT
  walk_at "go"
  refine forX_ind (fun ws env o => ∃ r y4 y5, ws = bdD r ∧ env = [some (.ref s), some (.lst (bdD b)), some (.dK (scK sc)), some (.int owner), y4, y5] ∧ o = INS CS s ports obs ∧ 2 * dB r ≤ n ∧ sc.length + dB r ≤ 900 ∧ WfB r ∧ Fin CS (bdE sc obs ports owner r) (k .non (INS CS s ports obs)) kx) ?_ ?_
    ⟨b, _, _, rfl, rfl, rfl, by omega, hl, hw, h⟩
  · rintro env o ⟨r, y4, y5, hws, rfl, rfl, h1, h2, h3, hk⟩
    cases r with
    | nil =>
      rw [bdE] at hk
      walk_at "go"
      exact dropX_id (fin_of hk)
    | cons _ _ => cases hws
  · rintro w ws env o N ⟨r, y4, y5, hws, rfl, rfl, h1, h2, h3, hk⟩ hN
    cases r with
    | nil => cases hws
    | cons t r =>
      rw [bdD] at hws
      obtain ⟨rfl, rfl⟩ := List.cons.inj hws
      rw [dB] at h1 h2
      rw [WfB] at h3
      obtain ⟨hwt, hwr⟩ := h3
      rw [bdE] at hk
      have hN2 : ∀ (y4 y5 : Option D), Fin CS (bdE sc obs ports owner r) (k .non (INS CS s ports obs)) kx → N [some (.ref s), some (.lst (bdD b)), some (.dK (scK sc)), some (.int owner), y4, y5] (INS CS s ports obs) := fun y4 y5 hk => hN _ _ ⟨r, y4, y5, rfl, rfl, rfl, by omega, by omega, hwr, hk⟩
      clear hN h hw hd hl
      cases t with
      | set p e =>
        rw [WfS] at hwt
        obtain ⟨w1, w2, w3⟩ := hwt
        rw [stE, Option.or_assoc, Option.or_assoc] at hk
        rw [stD]
        walk_at "go"
        refine callX_fin (w_idxE w1) hk (fun _ _ h => dropE_id h) fun h => ?_
        walk_at "go"
        refine callX_fin (w_exprE w2 w3) h (fun _ _ h => dropE_id h) fun h => ?_
        walk_at "go"
        exact callX_fin (w_plcE w1) h (fun _ _ h => dropE_id h) fun h => hN2 _ _ h
      | iff c a b2 =>
        rw [WfS] at hwt
        obtain ⟨⟨w1, w2⟩, w3, w4⟩ := hwt
        rw [stE, Option.or_assoc, Option.or_assoc] at hk
        rw [dS] at h1 h2
        rw [stD]
        walk_at "go"
        refine callX_fin (w_exprE w1 w2) hk (fun _ _ h => dropE_id h) fun h => ?_
        walk_at "go"
        refine callX_fin (fun h => hst (by omega) w3 hn (by omega) h) h (fun _ _ h => dropE_id h) fun h => ?_
        walk_at "go"
        exact callX_fin (fun h => hst (by omega) w4 hn (by omega) h) h (fun _ _ h => dropE_id h) fun h => hN2 _ _ h
      | loop x kk tt b2 =>
        rw [dS] at h1 h2
        have e : stD (.loop x kk tt b2) = .tup [.str "loop", .str x, .int kk, oeD tt, .lst (bdD b2)] := by rw [stD]
        rw [e]
        walk_at "go"
        rw [← e]
        exact callX_fin (fun h => hlp (by omega) hwt hn (by omega) h) hk (fun _ _ h => dropE_id h) fun h => hN2 _ _ h
      | call p th op args =>
        rw [WfS] at hwt
        obtain ⟨w1, w2, w3⟩ := hwt
        rw [stE] at hk
        have e : stD (.call p th op args) = .tup [.str "call", oeD p, .str th, .str op, .lst (args.map eD)] := by rw [stD]
        rw [e]
        walk_at "go"
        rw [← e]
        exact callX_fin (w_callS ho hp w1 w2 w3) hk (fun _ _ h => dropE_id h) fun h => hN2 _ _ h
      | write x e =>
        rw [WfS] at hwt
        rw [stE] at hk
        have e2 : stD (.write x e) = .tup [.str "write", .str x, eD e] := by rw [stD]
        rw [e2]
        walk_at "go"
        rw [← e2]
        exact callX_fin (w_trS (.inr ⟨_, _, rfl, hwt⟩)) hk (fun _ _ h => dropE_id h) fun h => hN2 _ _ h
      | read p x =>
        rw [WfS] at hwt
        rw [stE] at hk
        have e2 : stD (.read p x) = .tup [.str "read", eD p, .str x] := by rw [stD]
        rw [e2]
        walk_at "go"
        rw [← e2]
        exact callX_fin (w_trS (.inl ⟨_, _, rfl, hwt⟩)) hk (fun _ _ h => dropE_id h) fun h => hN2 _ _ h
theorem stm_all {obs : List COb} {ports : List (Str × Str)} {owner : Int} (ho : -1 ≤ owner) (hp : ∀ ob ∈ obs, ∀ o ∈ ob.ops, o.params.length ≤ 1000) : ∀ n, StmSp CS obs ports owner n ∧ LoopSp CS obs ports owner n
  | 0 => ⟨by intro b sc s k kx h; omega, by intro x kk t b sc s k kx h; omega⟩
  | n + 1 => ⟨w_stmN ho hp (stm_all ho hp n).2 (stm_all ho hp n).1, w_loopN (stm_all ho hp n).1⟩

end

section
variable {CS : Nat → Addr}
/-! the checker: bodies, declarations, names -/
def bodyE (sc : SC) (obs : List COb) (ports : List (Str × Str)) (owner : Int) (b : List St) : Option Str :=
  (req (decide (mB b ≤ 200) && (decide (dB b + 1 ≤ 8) && decide (lB b ≤ 4))) "size").or (bdE sc obs ports owner b)
theorem w_bodyE {obs : List COb} {ports : List (Str × Str)} {owner : Int} {b : List St} {sc : SC} {s : Addr} {k : D → Os → Prop} {kx : Kx} (ho : -1 ≤ owner) (hp : ∀ ob ∈ obs, ∀ o ∈ ob.ops, o.params.length ≤ 1000) (hd : dB b ≤ 9) (hm : mB b ≤ 100000) (hw : WfB b) (hn : (Nms sc).Nodup) (hl : sc.length + dB b ≤ 900)
    (h : Fin CS (bodyE sc obs ports owner b) (k .non (INS CS s ports obs)) kx) : T_Checker_body CS [.ref s, .lst (bdD b), .dK (scK sc), .int owner] (INS CS s ports obs) k kx := by
  unfold T_Checker_body fnT
  walk_at "go"
  refine callX_all (w_countN 10 (by omega) hm ?_)
  unfold cnT
  unfold bodyE at h
  have fin : ∀ {k' : D → Os → Prop} {kx' : Kx} {bo : Bool}, bo = (decide (mB b ≤ 200) && (decide (dB b + 1 ≤ 8) && decide (lB b ≤ 4))) → (∀ s o, kx (Bad CS s) o → kx' (Bad CS s) o) → (Fin CS (bdE sc obs ports owner b) (k .non (INS CS s ports obs)) kx → k' .non (INS CS s ports obs)) → callX (T__require CS) [.bl bo, .str "size"] (INS CS s ports obs) k' kx' := by
    intro k' kx' bo e hx hk
    subst e
    exact callX_fin w_req h hx hk
  walk_at "go"
  all_goals
    refine fin ?_ (fun _ _ h => dropE_id h) fun h => ?_
    · rw [Bool.eq_iff_iff]; simp; omega
    walk_at "go"
    exact callX_fin1 (fun h => (stm_all ho hp 20).1 (by omega) hw hn hl h) h (fun _ _ h => dropE_id h) fun h => dropX_id h
theorem callX_bad {bb : Bool} {r : Str} {rest : Option Str} {K : Prop} {kx kx' : Kx} {k' : D → Os → Prop} {os : Os} (h : Fin CS ((req bb r).or rest) K kx) (hb : bb = false) (hx : ∀ s o, kx (Bad CS s) o → kx' (Bad CS s) o) : callX (T__require CS) [.bl false, .str r] os k' kx' := by
  subst hb
  exact callX_finA (b := none) (K := False) (kx := kx) (a := some r) (fun h => w_req h) (fin_s (fin_so h)) hx fun hr => nomatch hr
theorem fin_right {a : Option Str} {K : Prop} {kx : Kx} (h : Fin CS a K kx) : Fin CS (a.or none) K kx := by
  cases a with
  | none => exact h
  | some s => exact h
def nmK (ns : List Str) : List (Key × D) := ns.map fun s => (Sum.inr s, D.bl true)
theorem nmK_len (ns : List Str) : (nmK ns).length = ns.length := by unfold nmK; rw [List.length_map]
theorem nmK_in (x : Str) : ∀ ns : List Str, (valD (nmK ns) (.inr x)).isSome = decide (x ∈ ns)
  | [] => by simp [nmK, valD]
  | n :: r => by
    have ih := nmK_in x r
    unfold nmK at ih ⊢
    rw [List.map_cons, valD]
    by_cases h : n = x
    · rw [if_pos (congrArg Sum.inr h)]; simp [h]
    · rw [if_neg (fun e => h (Sum.inr.inj e)), ih]
      have h' : ¬ x = n := fun e => h e.symm
      simp [h']
theorem nmK_put {ns : List Str} {x : Str} (h : x ∉ ns) : putD (nmK ns) (.inr x) (.bl true) = nmK (ns ++ [x]) := by
  have e := nmK_in x ns
  rw [decide_eq_false h] at e
  rw [putD, e, if_neg (by decide)]
  unfold nmK
  rw [List.map_append]
  rfl
def nmE (ns : List Str) (x : Str) : Option Str := req (isNm x && !decide (x ∈ ns)) "name"
theorem nmE_of {ns : List Str} {x : Str} (h : nmE ns x = none) : x ∉ ns := fun e => by
  have := req_none h
  rw [decide_eq_true e, Bool.not_true, Bool.and_false] at this
  cases this
def decE : SC → SC → Option Str
  | _, [] => none
  | sc, c :: r => (req (decide (0 ≤ c.2) && decide (c.2 ≤ 64)) "size").or ((nmE (Nms sc) c.1).or (decE (sc ++ [c]) r))
theorem val_in (sc : SC) (x : Str) : (valD (scK sc) (.inr x)).isSome = decide (x ∈ Nms sc) := by rw [val_scK, Option.isSome_map, lkC_none]
theorem w_decE {cs sc : SC} {p : Addr} {k : D → Os → Prop} {kx : Kx} (hl : sc.length + cs.length ≤ 900) (hx : ∀ c ∈ cs, c.1.length ≤ 1000) (h : Fin CS (decE sc cs) (k .non [(p, .dK (scK (sc ++ cs)))]) kx) : T__declare CS [.lst (cs.map cellD), .ref p] [(p, .dK (scK sc))] k kx := by
  unfold T__declare fnT
  walk_at "go"
  refine forX_ind (fun ws env o => ∃ (d r : SC) (y2 y3 : Option D), ws = r.map cellD ∧ env = [some (.lst (cs.map cellD)), some (.ref p), y2, y3] ∧ o = [(p, .dK (scK d))] ∧ d.length + r.length ≤ 900 ∧ (∀ c ∈ r, c.1.length ≤ 1000) ∧ Fin CS (decE d r) (k .non [(p, .dK (scK (d ++ r)))]) kx) ?_ ?_ ⟨sc, cs, _, _, rfl, rfl, rfl, hl, hx, h⟩
  · rintro env o ⟨d, r, y2, y3, hw, rfl, rfl, h1, h2, hk⟩
    cases r with
    | nil =>
      rw [decE, List.append_nil] at hk
      walk_at "go"
      exact dropX_id (fin_of hk)
    | cons _ _ => cases hw
  · rintro w ws env o N ⟨d, r, y2, y3, hw, rfl, rfl, h1, h2, hk⟩ hN
    cases r with
    | nil => cases hw
    | cons c r =>
      obtain ⟨rfl, rfl⟩ := List.cons.inj hw
      rw [decE] at hk
      have hxc := h2 c (.head _)
      have hlt : (scK d).length < sizeLine := szJ (by rw [scK_len]; rw [List.length_cons] at h1; omega)
      unfold cellD
      walk_at "go"
      rotate_left
      · rename_i h0
        exact callX_bad hk (by rw [decide_eq_false h0, Bool.false_and]) (fun _ _ h => dropE_id h)
      rename_i h0
      rw [decide_eq_true h0, Bool.true_and] at hk
      refine callX_fin w_req hk (fun _ _ h => dropE_id h) fun hk => ?_
      walk_at "go"
      refine callX_all (w_nm hxc ?_)
      walk_at "go"
      rotate_left
      · rename_i h0
        exact callX_bad hk (by rw [h0, Bool.false_and]) (fun _ _ h => dropE_id h)
      rename_i h0
      rw [val_in]
      refine callX_finA (a := nmE (Nms d) c.1) (fun h => w_req (by rw [nmE, h0, Bool.true_and] at h; exact h)) hk (fun _ _ h => dropE_id h) fun hr hk => ?_
      walk_at "go"
      refine hN _ _ ⟨d ++ [c], r, _, _, rfl, rfl, ?_, by rw [List.length_append, List.length_singleton]; rw [List.length_cons] at h1; omega, fun c hc => h2 c (.tail _ hc), ?_⟩
      · rw [← put_new (nmE_of hr)]
        rfl
      · rw [List.append_assoc]
        exact hk
theorem decE_nd : ∀ {cs sc : SC}, decE sc cs = none → (Nms sc).Nodup → (Nms (sc ++ cs)).Nodup
  | [], sc, _, h => by rw [List.append_nil]; exact h
  | c :: r, sc, h, hn => by
    rw [decE] at h
    have h1 := (Option.or_eq_none_iff.mp h).2
    have h2 := Option.or_eq_none_iff.mp h1
    have := decE_nd h2.2 (nodup_app (v := c.2) hn (nmE_of h2.1))
    rw [List.append_assoc] at this
    exact this
def timE (ns : List Str) (x : Str) (dist within : Int) : Option Str := (req (decide (1 ≤ within) && (decide (within ≤ dist) && decide (dist ≤ 4194304))) "size").or (nmE ns x)
theorem w_timE {a : D} {x : Str} {dist within : Int} {r : List D} {ns : List Str} {q : Addr} {k : D → Os → Prop} {kx : Kx} (hl : ns.length ≤ 900) (hx : x.length ≤ 1000) (h : Fin CS (timE ns x dist within) (k .non [(q, .dK (nmK (ns ++ [x])))]) kx) :
    T__check_times CS [.tup (a :: .str x :: .int dist :: .int within :: r), .ref q] [(q, .dK (nmK ns))] k kx := by
  unfold T__check_times fnT
  have hlt : (nmK ns).length < sizeLine := szJ (by rw [nmK_len]; omega)
  unfold timE at h
  have fin : ∀ {k' : D → Os → Prop} {kx' : Kx} {bo : Bool}, bo = (decide (1 ≤ within) && (decide (within ≤ dist) && decide (dist ≤ 4194304))) → (∀ s o, kx (Bad CS s) o → kx' (Bad CS s) o) → (Fin CS (nmE ns x) (k .non [(q, .dK (nmK (ns ++ [x])))]) kx → k' .non [(q, .dK (nmK ns))]) → callX (T__require CS) [.bl bo, .str "size"] [(q, .dK (nmK ns))] k' kx' := by
    intro k' kx' bo e hx hk
    subst e
    exact callX_fin w_req h hx hk
  walk_at "go"
  all_goals
    refine fin ?_ (fun _ _ h => dropE_id h) fun hk => ?_
    · rw [Bool.eq_iff_iff]; simp; omega
    walk_at "go"
    refine callX_all (w_nm hx ?_)
    walk_at "go"
    rotate_left
    · rename_i h0
      exact callX_bad (rest := none) (fin_right hk) (by rw [h0, Bool.false_and]) (fun _ _ h => dropE_id h)
    rename_i h0
    rw [nmK_in]
    refine callX_finA (a := nmE ns x) (b := none) (fun h => w_req (by rw [nmE, h0, Bool.true_and] at h; exact h)) (fin_right hk) (fun _ _ h => dropE_id h) fun hr hk => ?_
    walk_at "go"
    refine dropX_id ?_
    rw [← nmK_put (nmE_of hr)] at hk
    exact fin_of hk

end

section
variable {CS : Nat → Addr}
/-! the checker: ports, operations -/
def kindN (ports : List (Str × Str)) (kd : Str) : Nat := (ports.filter fun c => decide (c.1 = kd)).length
def pnE : List Str → List (Str × Str) → Option Str
  | _, [] => none
  | ns, c :: r => (nmE ns c.2).or (pnE (ns ++ [c.2]) r)
def prtsE (ns : List Str) (ports : List (Str × Str)) : Option Str := (req (decide (((kindN ports "in" : Nat) : Int) ≤ 8)) "size").or ((req (decide (((kindN ports "out" : Nat) : Int) ≤ 8)) "size").or (pnE ns ports))
def prtIs (kd : Str) : D → Bool
  | .tup [.str a, _] => decide (a = kd)
  | _ => false
theorem filt_port (ports : List (Str × Str)) (kd : Str) : ((ports.map portD).filter (prtIs kd)).length = kindN ports kd := by
  unfold kindN
  induction ports with
  | nil => rfl
  | cons c r ih =>
    rw [List.map_cons]
    by_cases h : c.1 = kd
    · rw [List.filter_cons_of_pos (show prtIs kd (portD c) = true from decide_eq_true h), List.filter_cons_of_pos (by simpa using h), List.length_cons, List.length_cons, ih]
    · rw [List.filter_cons_of_neg (show ¬ prtIs kd (portD c) = true from fun e => h (of_decide_eq_true e)), List.filter_cons_of_neg (by simpa using h), ih]
theorem w_prtsE {a b : D} {r : List D} {ports : List (Str × Str)} {ns : List Str} {q : Addr} {k : D → Os → Prop} {kx : Kx} (hl : ns.length + ports.length ≤ 900) (hx : ∀ c ∈ ports, c.2.length ≤ 1000) (h : Fin CS (prtsE ns ports) (k .non [(q, .dK (nmK (ns ++ ports.map (·.2))))]) kx) :
    T__check_ports CS [.tup (a :: b :: .lst (ports.map portD) :: r), .ref q] [(q, .dK (nmK ns))] k kx := by
  unfold T__check_ports fnT
  unfold prtsE at h
  walk_at "go"
  refine forX_cons ?_
  try dsimp only [setE, startE]
  walk_at "go"
  refine lcX_filter (prtIs "in") id trivial (fun w hw kt kf h1 h2 => ?_) ?_
  · obtain ⟨c, hc, rfl⟩ := List.mem_map.mp hw
    unfold portD at h1 h2 ⊢
    walk_at "go"
    · exact h1 (decide_eq_true (by assumption))
    · exact h2 (decide_eq_false (by assumption))
  rw [List.map_id]
  have hkn : ((ports.map portD).filter (prtIs "in")).length ≤ sizeLine := szI (by rw [filt_port]; exact Nat.le_trans (List.length_filter_le _ _) (by omega))
  walk_at "go"
  rw [filt_port]
  refine callX_fin w_req h (fun _ _ h => dropE_id h) fun h => ?_
  refine forX_cons ?_
  try dsimp only [setE, startE]
  walk_at "go"
  refine lcX_filter (prtIs "out") id trivial (fun w hw kt kf h1 h2 => ?_) ?_
  · obtain ⟨c, hc, rfl⟩ := List.mem_map.mp hw
    unfold portD at h1 h2 ⊢
    walk_at "go"
    · exact h1 (decide_eq_true (by assumption))
    · exact h2 (decide_eq_false (by assumption))
  rw [List.map_id]
  have hkn : ((ports.map portD).filter (prtIs "out")).length ≤ sizeLine := szI (by rw [filt_port]; exact Nat.le_trans (List.length_filter_le _ _) (by omega))
  walk_at "go"
  rw [filt_port]
  refine callX_fin w_req h (fun _ _ h => dropE_id h) fun h => ?_
  refine forX_nil ?_
  walk_at "go"
  refine forX_ind (fun ws env o => ∃ (d : List Str) (c : List (Str × Str)) (y2 y3 : Option D), ws = c.map portD ∧ env = [some (.tup (a :: b :: .lst (ports.map portD) :: r)), some (.ref q), y2, y3] ∧ o = [(q, .dK (nmK d))] ∧ d.length + c.length ≤ 900 ∧ (∀ e ∈ c, e.2.length ≤ 1000) ∧ Fin CS (pnE d c) (k .non [(q, .dK (nmK (d ++ c.map (·.2))))]) kx) ?_ ?_ ⟨ns, ports, _, _, rfl, rfl, rfl, hl, hx, h⟩
  · rintro env o ⟨d, c, y2, y3, hw, rfl, rfl, h1, h2, hk⟩
    cases c with
    | nil =>
      rw [pnE, List.map_nil, List.append_nil] at hk
      walk_at "go"
      exact dropX_id (fin_of hk)
    | cons _ _ => cases hw
  · rintro w ws env o N ⟨d, c, y2, y3, hw, rfl, rfl, h1, h2, hk⟩ hN
    cases c with
    | nil => cases hw
    | cons e c =>
      obtain ⟨rfl, rfl⟩ := List.cons.inj hw
      rw [pnE] at hk
      have hxc := h2 e (.head _)
      have hlt : (nmK d).length < sizeLine := szJ (by rw [nmK_len]; rw [List.length_cons] at h1; omega)
      unfold portD
      walk_at "go"
      refine callX_all (w_nm hxc ?_)
      walk_at "go"
      rotate_left
      · rename_i h0
        exact callX_bad hk (by rw [h0, Bool.false_and]) (fun _ _ h => dropE_id h)
      rename_i h0
      rw [nmK_in]
      refine callX_finA (a := nmE d e.2) (fun h => w_req (by rw [nmE, h0, Bool.true_and] at h; exact h)) hk (fun _ _ h => dropE_id h) fun hr hk => ?_
      walk_at "go"
      refine hN _ _ ⟨d ++ [e.2], c, _, _, rfl, rfl, ?_, by rw [List.length_append, List.length_singleton]; rw [List.length_cons] at h1; omega, fun c hc => h2 c (.tail _ hc), ?_⟩
      · rw [← nmK_put (nmE_of hr)]
        rfl
      · rw [List.append_assoc]
        exact hk
theorem fin_monoA {a : Option Str} {K K' : Prop} {kx kx' : Kx} (h : Fin CS a K kx) (hx : ∀ s, (∀ o, kx (Bad CS s) o) → ∀ o, kx' (Bad CS s) o) (hk : K → K') : Fin CS a K' kx' := by
  cases a with
  | none => exact fin_n (hk (fin_of h))
  | some s => exact fin_s (hx s (fin_so h))
theorem fin_and {a : Option Str} {K : Prop} {kx : Kx} (h : Fin CS a K kx) : Fin CS a (a = none ∧ K) kx := by
  cases a with
  | none => exact fin_n ⟨rfl, fin_of h⟩
  | some s => exact fin_s (fin_so h)
/-! operations -/
def opsE (fs : SC) (obs : List COb) (ports : List (Str × Str)) (at_ : Int) (kn : List Str) (o : COp) : Option Str :=
  (req (decide (((o.params.length : Nat) : Int) ≤ 4) && decide (((o.own.length : Nat) : Int) ≤ 16)) "size").or ((nmE kn o.name).or ((decE fs (o.params.map fun x => (x, (0 : Int)))).or ((decE (fs ++ o.params.map fun x => (x, (0 : Int))) o.own).or
    ((bodyE (fs ++ (o.params.map fun x => (x, (0 : Int))) ++ o.own) obs ports at_ o.body).or (tstE (fs ++ (o.params.map fun x => (x, (0 : Int))) ++ o.own) o.res)))))
structure OpW (fs : SC) (o : COp) : Prop where
  n : o.name.length ≤ 1000
  p : ∀ x ∈ o.params, x.length ≤ 1000
  w : ∀ c ∈ o.own, c.1.length ≤ 1000
  l : fs.length + o.params.length + o.own.length ≤ 800
  b : WfB o.body
  d : dB o.body ≤ 9
  m : mB o.body ≤ 100000
  r : WfO o.res
theorem par_cells (ps : List Str) : (ps.map D.str).map (fun w => D.tup [w, .int 0]) = (ps.map fun x => (x, (0 : Int))).map cellD := by rw [List.map_map, List.map_map]; rfl
theorem w_opsE {fs : SC} {obs : List COb} {ports : List (Str × Str)} {at_ : Int} {kn : List Str} {o : COp} {s q : Addr} {part : D} {k : D → Os → Prop} {kx : Kx} (hp : ∀ ob ∈ obs, ∀ o ∈ ob.ops, o.params.length ≤ 1000) (ha : -1 ≤ at_) (hn : (Nms fs).Nodup) (ho : OpW fs o) (hk : kn.length ≤ 900)
    (h : Fin CS (opsE fs obs ports at_ kn o) (k .non ((q, .dK (nmK (kn ++ [o.name]))) :: INS CS s ports obs)) kx) :
    T__check_operation CS [.ref s, .int at_, part, copD o, .dK (scK fs), .ref q] ((q, .dK (nmK kn)) :: INS CS s ports obs) k kx := by
  obtain ⟨on, op, ow, ol, ob, od, om, or_⟩ := ho
  unfold opsE at h
  unfold T__check_operation fnT copD
  have hlt : (nmK kn).length < sizeLine := szJ (by rw [nmK_len]; omega)
  have hfl : (scK fs).length ≤ sizeLine := szI (by rw [scK_len]; omega)
  walk_at "go"
  rotate_left
  · rename_i h0
    exact callX_bad h (by rw [decide_eq_false h0, Bool.false_and]) (fun _ _ h => dropE_id h)
  rename_i h0
  rw [decide_eq_true h0, Bool.true_and] at h
  rw [List.length_map]
  refine callX_fin w_req h (fun _ _ h => dropE_id h) fun h => ?_
  walk_at "go"
  refine callX_all (w_nm on ?_)
  walk_at "go"
  rotate_left
  · rename_i h0
    exact callX_bad h (by rw [h0, Bool.false_and]) (fun _ _ h => dropE_id h)
  rename_i h0
  rw [nmK_in]
  refine callX_finA (a := nmE kn o.name) (fun h => w_req (by rw [nmE, h0, Bool.true_and] at h; exact h)) h (fun _ _ h => dropE_id h) fun hr h => ?_
  walk_at "go"
  rw [scK_keys]
  refine dcX_inv (fun j acc o2 => acc = scK (fs.take j) ∧ o2 = (q, .dK (putD (nmK kn) (.inr o.name) (.bl true))) :: INS CS s ports obs) ⟨rfl, rfl⟩ ?_ ?_ (fun _ _ _ _ => trivial)
  · rintro j w acc o N hw ⟨rfl, rfl⟩ hN
    rw [List.getElem?_map, List.getElem?_map] at hw
    obtain ⟨y, hy, rfl⟩ := Option.map_eq_some_iff.mp hw
    obtain ⟨c, hc, rfl⟩ := Option.map_eq_some_iff.mp hy
    have hv : valD (scK fs) (.inr c.1) = some (.int c.2) := by rw [val_scK, lkC_at hn hc]; rfl
    walk_at "go"
    refine hN _ _ _ (.refl _) ⟨?_, rfl⟩
    rw [put_new (nms_take hn hc), take_at hc]
  rintro acc o2 ⟨rfl, rfl⟩
  rw [List.length_map, List.length_map, List.take_length, nmK_put (nmE_of hr)]
  have hpl : o.params.length ≤ 800 := by omega
  walk_at "go"
  rename_i p
  refine lcX_map (fun w => .tup [w, .int 0]) trivial b1_mono (fun w hw kk hk => ?_) ?_
  · walk_at "go"
    exact hk
  rw [par_cells]
  walk_at "go"
  refine callX_at [0] rfl (w_decE (by rw [List.length_map]; omega) (fun c hc => ?_) ?_)
  · obtain ⟨x, hx, rfl⟩ := List.mem_map.mp hc
    exact op x hx
  refine fin_monoA (fin_and (fin_or h)) (fun _ h _ => dropE_id (h _)) fun ⟨hd1, h⟩ => ?_
  have hn1 := decE_nd hd1 hn
  walk_at "go"
  refine callX_at [0] rfl (w_decE (by rw [List.length_append, List.length_map]; omega) ow ?_)
  refine fin_monoA (fin_and (fin_or h)) (fun _ h _ => dropE_id (h _)) fun ⟨hd2, h⟩ => ?_
  have hn2 := decE_nd hd2 hn1
  clear hd1 hd2 hn1
  generalize hsc : fs ++ (o.params.map fun x => (x, (0 : Int))) ++ o.own = sc at h hn2 ⊢
  have hsl : sc.length ≤ 800 := by rw [← hsc, List.length_append, List.length_append, List.length_map]; omega
  clear hsc
  walk_at "go"
  show callX _ _ ((q, .dK (nmK (kn ++ [o.name]))) :: INS CS s ports obs) _ _
  refine callX_at [1] rfl (w_bodyE ha hp od om ob hn2 (by omega) ?_)
  refine fin_monoA (fin_or h) (fun _ h _ => dropE_id (h _)) fun h => ?_
  cases hres : o.res with
  | none =>
    rw [hres] at h
    rw [oeD]
    walk_at "go"
    exact dropX_id (fin_of h)
  | some e =>
    rw [hres] at h
    rw [oeD]
    obtain ⟨h1, h2⟩ := or_ e hres
    obtain ⟨ds, hds⟩ : ∃ ds, eD e = .tup ds := by cases e <;> exact ⟨_, rfl⟩
    rw [hds]
    walk_at "go"
    rw [← hds]
    show callX _ _ ((q, .dK (nmK (kn ++ [o.name]))) :: INS CS s ports obs) _ _
    exact callX_fin1 (w_exprE h1 h2) h (fun _ _ h => dropE_id h) fun h => dropX_id h
theorem forX_wk {g : TrG} {body : TrS} {N : DEnv → Os → Prop} {R : KR} : ∀ {ws : List D} {env : DEnv} {os os2 : Os}, WkO os os2 → forX g body N R none ws env os2 → forX g body N R none ws env os
  | [], _, _, _, s, h => by
    rw [forX_eq] at h ⊢
    obtain ⟨o3, s3, h⟩ := h
    exact ⟨o3, s.trans s3, h⟩
  | _ :: _, _, _, _, s, h => by
    rw [forX_eq] at h ⊢
    obtain ⟨o3, s3, h⟩ := h
    exact ⟨o3, s.trans s3, h⟩
theorem forX_indW {g : TrG} {body : TrS} {N : DEnv → Os → Prop} {R : KR} (P : List D → DEnv → Os → Prop) (h0 : ∀ env os, P [] env os → N env os)
    (hs : ∀ (w : D) (ws : List D) (env : DEnv) (os : Os) (M : DEnv → Os → Prop), P (w :: ws) env os → (∀ e o o2, WkO o o2 → P ws e o2 → M e o) → g w env os fun env1 os1 => body M (R.loop M N) env1 os1) : ∀ {ws : List D} {env : DEnv} {os : Os}, P ws env os → forX g body N R none ws env os
  | [], _, _, h => forX_nil (h0 _ _ h)
  | _ :: _, _, _, h => forX_cons (hs _ _ _ _ _ h fun _ _ _ s h2 => forX_wk s (forX_indW P h0 hs h2))

end

section
variable {CS : Nat → Addr}
/-! the checker: objects -/
def opLE (fs : SC) (obs : List COb) (ports : List (Str × Str)) (at_ : Int) : List Str → List COp → Option Str
  | _, [] => none
  | kn, o :: r => (opsE fs obs ports at_ kn o).or (opLE fs obs ports at_ (kn ++ [o.name]) r)
def obLE (obs : List COb) (ports : List (Str × Str)) : Int → List Str → List COb → Option Str
  | _, _, [] => none
  | i, ns, b :: r => (req (decide (((b.fields.length : Nat) : Int) ≤ 16) && decide (((b.ops.length : Nat) : Int) ≤ 4)) "size").or ((nmE ns b.name).or ((decE [] b.fields).or ((opLE b.fields obs ports i [] b.ops).or (obLE obs ports (i + 1) (ns ++ [b.name]) r))))
def objsE (ns : List Str) (obs : List COb) (ports : List (Str × Str)) : Option Str := (req (decide (((obs.length : Nat) : Int) ≤ 4)) "size").or (obLE obs ports 0 ns obs)
structure ObW (b : COb) : Prop where
  n : b.name.length ≤ 1000
  f : ∀ c ∈ b.fields, c.1.length ≤ 1000
  l : b.fields.length ≤ 700
  o : ∀ o ∈ b.ops, OpW b.fields o
  k : b.ops.length ≤ 500
theorem w_objsE {a1 a2 a3 : D} {rr : List D} {obs : List COb} {ports : List (Str × Str)} {ns : List Str} {s q : Addr} {k : D → Os → Prop} {kx : Kx} (hp : ∀ ob ∈ obs, ∀ o ∈ ob.ops, o.params.length ≤ 1000) (hw : ∀ b ∈ obs, ObW b) (hl : ns.length + obs.length ≤ 800)
    (h : Fin CS (objsE ns obs ports) (k .non ((q, .dK (nmK (ns ++ obs.map (·.name)))) :: INS CS s ports obs)) kx) :
    T__check_objects CS [.tup (a1 :: a2 :: a3 :: .lst (obs.map cobD) :: rr), .ref q, .ref s] ((q, .dK (nmK ns)) :: INS CS s ports obs) k kx := by
  unfold T__check_objects fnT
  unfold objsE at h
  have hol : obs.length ≤ 800 := by omega
  walk_at "go"
  rw [List.length_map]
  refine callX_fin w_req h (fun _ _ h => dropE_id h) fun h => ?_
  walk_at "go"
  refine forX_indW (fun ws env o => ∃ (i : Int) (d : List Str) (c : List COb) (y3 y4 y5 y6 y7 : Option D), ws = enumW i (c.map cobD) ∧ env = [some (.tup (a1 :: a2 :: a3 :: .lst (obs.map cobD) :: rr)), some (.ref q), some (.ref s), y3, y4, y5, y6, y7] ∧ o = (q, .dK (nmK d)) :: INS CS s ports obs ∧ 0 ≤ i ∧ d.length + c.length ≤ 800 ∧ (∀ b ∈ c, ObW b) ∧ Fin CS (obLE obs ports i d c) (k .non ((q, .dK (nmK (d ++ c.map (·.name)))) :: INS CS s ports obs)) kx) ?_ ?_ ⟨0, ns, obs, _, _, _, _, _, rfl, rfl, rfl, Int.le_refl _, hl, hw, h⟩
  · rintro env o ⟨i, d, c, y3, y4, y5, y6, y7, hws, rfl, rfl, hi, h1, h2, hk⟩
    cases c with
    | nil =>
      rw [obLE, List.map_nil, List.append_nil] at hk
      walk_at "go"
      exact dropX_id (fin_of hk)
    | cons _ _ => cases hws
  · rintro w ws env o N ⟨i, d, c, y3, y4, y5, y6, y7, hws, rfl, rfl, hi, h1, h2, hk⟩ hN
    cases c with
    | nil => cases hws
    | cons b c =>
      obtain ⟨rfl, rfl⟩ := List.cons.inj hws
      obtain ⟨bn, bf, bl, bo, bk⟩ := h2 b (.head _)
      rw [obLE] at hk
      have hlt : (nmK d).length < sizeLine := szJ (by rw [nmK_len]; rw [List.length_cons] at h1; omega)
      unfold cobD
      walk_at "go"
      rotate_left
      · rename_i h0
        exact callX_bad hk (by rw [decide_eq_false h0, Bool.false_and]) (fun _ _ h => dropE_id h)
      rename_i h0
      rw [decide_eq_true h0, Bool.true_and] at hk
      rw [List.length_map]
      refine callX_fin w_req hk (fun _ _ h => dropE_id h) fun hk => ?_
      walk_at "go"
      refine callX_all (w_nm bn ?_)
      walk_at "go"
      rotate_left
      · rename_i h0
        exact callX_bad hk (by rw [h0, Bool.false_and]) (fun _ _ h => dropE_id h)
      rename_i h0
      rw [nmK_in]
      refine callX_finA (a := nmE d b.name) (fun h => w_req (by rw [nmE, h0, Bool.true_and] at h; exact h)) hk (fun _ _ h => dropE_id h) fun hr hk => ?_
      walk_at "go"
      rename_i p
      refine callX_at [0] rfl (w_decE (sc := []) (by rw [List.length_nil]; omega) bf ?_)
      refine fin_monoA (fin_and (fin_or hk)) (fun _ h _ => dropE_id (h _)) fun ⟨hd1, hk⟩ => ?_
      have hn1 : (Nms b.fields).Nodup := decE_nd (sc := []) hd1 .nil
      rw [List.nil_append, nmK_put (nmE_of hr)]
      walk_at "go"
      rename_i x
      refine forX_indW (fun vs en o2 => ∃ (kn : List Str) (l : List COp) (y : Option D), vs = l.map copD ∧ en = [some (.tup (a1 :: a2 :: a3 :: .lst (obs.map cobD) :: rr)), some (.ref q), some (.ref s), some (.int i), some (cobD b), some (.dK (scK b.fields)), some (.ref x), y] ∧ o2 = (x, .dK (nmK kn)) :: (q, .dK (nmK (d ++ [b.name]))) :: INS CS s ports obs ∧ kn.length + l.length ≤ 800 ∧ (∀ o ∈ l, OpW b.fields o) ∧ Fin CS ((opLE b.fields obs ports i kn l).or (obLE obs ports (i + 1) (d ++ [b.name]) c)) (k .non ((q, .dK (nmK (d ++ (b :: c).map (·.name)))) :: INS CS s ports obs)) kx) ?_ ?_
        ⟨[], b.ops, _, rfl, rfl, rfl, by rw [List.length_nil]; omega, bo, hk⟩
      · rintro en o2 ⟨kn, l, y, hv, rfl, rfl, g1, g2, hk⟩
        cases l with
        | cons _ _ => cases hv
        | nil =>
          refine hN _ _ _ ⟨[(x, .dK (nmK kn))], List.perm_append_comm (l₁ := [(x, OO.dK (nmK kn))])⟩ ⟨i + 1, d ++ [b.name], c, _, _, _, _, _, rfl, rfl, rfl, by omega, by rw [List.length_append, List.length_singleton]; rw [List.length_cons] at h1; omega, fun b hb => h2 b (.tail _ hb), ?_⟩
          rw [List.append_assoc]
          exact hk
      · rintro w vs en o2 M ⟨kn, l, y, hv, rfl, rfl, g1, g2, hk⟩ hM
        cases l with
        | nil => cases hv
        | cons o l =>
          obtain ⟨rfl, rfl⟩ := List.cons.inj hv
          rw [opLE, Option.or_assoc] at hk
          rw [List.length_cons] at g1
          walk_at "go"
          refine callX_at [0, 1] rfl (w_opsE hp (by omega) hn1 (g2 o (.head _)) (by omega) ?_)
          refine fin_monoA (fin_or hk) (fun _ h _ => dropE_id (h _)) fun hk => ?_
          refine hM _ _ _ (.refl _) ⟨kn ++ [o.name], l, _, rfl, rfl, rfl, by rw [List.length_append, List.length_singleton]; omega, fun o ho => g2 o (.tail _ ho), hk⟩

end

section
variable {CS : Nat → Addr}
/-! check -/
theorem w_init {a b : D} {ports : List (Str × Str)} {obs : List COb} {r : List D} {s : Addr} {k : D → Os → Prop} {kx : Kx} (h : k .non (INS CS s ports obs)) : T_Checker___init__ CS [.ref s, .tup (a :: b :: .lst (ports.map portD) :: .lst (obs.map cobD) :: r)] [(s, .ins (CS 0) [])] k kx := by
  unfold T_Checker___init__ fnT
  walk_at "go"
  exact dropX_id h
def taLE (obs : List COb) (ports : List (Str × Str)) : List Str → List CTa → Option Str
  | _, [] => none
  | ns, t :: r => (req (decide (((t.cells.length : Nat) : Int) ≤ 16)) "size").or ((timE ns t.name t.dist t.within).or ((decE [] t.cells).or ((bodyE t.cells obs ports (-1) t.body).or (taLE obs ports (ns ++ [t.name]) r))))
def inLE (obs : List COb) : List Str → List CIn → Option Str
  | _, [] => none
  | ns, t :: r => (timE ns t.name t.dist t.within).or ((callE obs t.th t.op t.args.length (-1)).or (inLE obs (ns ++ [t.name]) r))
def checkE (P : CPr) : Option Str :=
  (req (isNm P.name) "name").or ((prtsE [] P.ports).or ((objsE (P.ports.map (·.2)) P.obs P.ports).or ((req (decide (((P.tasks.length : Nat) : Int) ≤ 8)) "size").or ((taLE P.obs P.ports (P.ports.map (·.2) ++ P.obs.map (·.name)) P.tasks).or
    ((req (decide (((P.irs.length : Nat) : Int) ≤ 2)) "size").or (inLE P.obs (P.ports.map (·.2) ++ P.obs.map (·.name) ++ P.tasks.map (·.name)) P.irs))))))
structure TaW (t : CTa) : Prop where
  n : t.name.length ≤ 1000
  w : ∀ c ∈ t.cells, c.1.length ≤ 1000
  l : t.cells.length ≤ 800
  b : WfB t.body
  d : dB t.body ≤ 9
  m : mB t.body ≤ 100000
structure PrW (P : CPr) : Prop where
  n : P.name.length ≤ 1000
  p : ∀ c ∈ P.ports, c.2.length ≤ 1000
  o : ∀ b ∈ P.obs, ObW b
  t : ∀ t ∈ P.tasks, TaW t
  i : ∀ t ∈ P.irs, t.name.length ≤ 1000 ∧ t.args.length ≤ 1000
  l : P.ports.length + P.obs.length + P.tasks.length + P.irs.length ≤ 700
  k : ∀ ob ∈ P.obs, ∀ o ∈ ob.ops, o.params.length ≤ 1000
theorem w_check {P : CPr} {k : D → Os → Prop} {kx : Kx} (W : PrW P) (h : Fin CS (checkE P) (k .non []) kx) : T_check CS [cprD P] [] k kx := by
  obtain ⟨wn, wp, wo, wt, wi, wl, wk⟩ := W
  unfold T_check fnT cprD
  unfold checkE at h
  walk_at "go"
  rename_i q
  refine makeX_none fun s => w_init ?_
  walk_at "go"
  refine callX_all (w_nm wn ?_)
  walk_at "go"
  refine callX_fin w_req h (fun _ _ h => dropE_id h) fun h => ?_
  walk_at "go"
  show callX _ _ [(s, .ins (CS 0) [(f_ports, .lst (P.ports.map portD)), (f_objects, .lst (P.obs.map cobD))]), (q, .dK (nmK []))] _ _
  refine callX_at [1] rfl (w_prtsE (by rw [List.length_nil]; omega) wp ?_)
  refine fin_monoA (fin_or h) (fun _ h _ => dropE_id (h _)) fun h => ?_
  walk_at "go"
  rw [List.nil_append]
  refine callX_at [1, 0] rfl (w_objsE wk wo (by rw [List.length_map]; omega) ?_)
  refine fin_monoA (fin_or h) (fun _ h _ => dropE_id (h _)) fun h => ?_
  have htl : P.tasks.length ≤ 700 := by omega
  have hil : P.irs.length ≤ 700 := by omega
  walk_at "go"
  rw [List.length_map]
  refine callX_fin w_req h (fun _ _ h => dropE_id h) fun h => ?_
  walk_at "go"
  have hns : (P.ports.map (·.2) ++ P.obs.map (·.name)).length + P.tasks.length + P.irs.length ≤ 700 := by rw [List.length_append, List.length_map, List.length_map]; omega
  generalize P.ports.map (·.2) ++ P.obs.map (·.name) = ns at h hns ⊢
  refine forX_ind (fun ws env o => ∃ (d : List Str) (c : List CTa) (y3 y4 y5 : Option D), ws = c.map ctaD ∧ env = [some (cprD P), some (.ref q), some (.ref s), y3, y4, y5] ∧ o = [(s, .ins (CS 0) [(f_ports, .lst (P.ports.map portD)), (f_objects, .lst (P.obs.map cobD))]), (q, .dK (nmK d))] ∧ d.length + c.length + P.irs.length ≤ 700 ∧ (∀ t ∈ c, TaW t) ∧
      Fin CS ((taLE P.obs P.ports d c).or ((req (decide (((P.irs.length : Nat) : Int) ≤ 2)) "size").or (inLE P.obs (d ++ c.map (·.name)) P.irs))) (k .non []) kx) ?_ ?_ ⟨ns, P.tasks, _, _, _, rfl, rfl, rfl, hns, wt, h⟩
  · rintro env o ⟨d, c, y3, y4, y5, hw, rfl, rfl, h1, h2, hk⟩
    cases c with
    | cons _ _ => cases hw
    | nil =>
      rw [taLE, List.map_nil, List.append_nil] at hk
      have hk : Fin CS ((req (decide (((P.irs.length : Nat) : Int) ≤ 2)) "size").or (inLE P.obs d P.irs)) (k .non []) kx := hk
      unfold cprD
      walk_at "go"
      rw [List.length_map]
      refine callX_fin w_req hk (fun _ _ h => dropE_id h) fun hk => ?_
      walk_at "go"
      refine forX_ind (fun ws env o => ∃ (d : List Str) (c : List CIn) (y3 y4 y5 : Option D), ws = c.map cinD ∧ env = [some (cprD P), some (.ref q), some (.ref s), y3, y4, y5] ∧ o = [(s, .ins (CS 0) [(f_ports, .lst (P.ports.map portD)), (f_objects, .lst (P.obs.map cobD))]), (q, .dK (nmK d))] ∧ d.length + c.length ≤ 700 ∧ (∀ t ∈ c, t.name.length ≤ 1000 ∧ t.args.length ≤ 1000) ∧
          Fin CS (inLE P.obs d c) (k .non []) kx) ?_ ?_ ⟨d, P.irs, _, _, _, rfl, rfl, rfl, by rw [List.length_nil] at h1; omega, wi, hk⟩
      · rintro env o ⟨d, c, y3, y4, y5, hw, rfl, rfl, h1, h2, hk⟩
        cases c with
        | cons _ _ => cases hw
        | nil =>
          rw [inLE] at hk
          walk_at "go"
          exact dropX_wk (os2 := []) ⟨_, .refl _⟩ (fin_of hk)
      · rintro w ws env o N ⟨d, c, y3, y4, y5, hw, rfl, rfl, h1, h2, hk⟩ hN
        cases c with
        | nil => cases hw
        | cons t c =>
          obtain ⟨rfl, rfl⟩ := List.cons.inj hw
          obtain ⟨t1, t2⟩ := h2 t (.head _)
          rw [inLE] at hk
          rw [List.length_cons] at h1
          unfold cprD
          walk_at "go"
          refine callX_at [1] rfl (w_timE (by omega) t1 ?_)
          refine fin_monoA (fin_or hk) (fun _ h _ => dropE_id (h _)) fun hk => ?_
          unfold cinD
          walk_at "go"
          refine callX_fin (w_callE (by decide) wk) hk (fun _ _ h => dropE_id h) fun hk => ?_
          exact hN _ _ ⟨d ++ [t.name], c, _, _, _, rfl, rfl, rfl, by rw [List.length_append, List.length_singleton]; omega, fun t ht => h2 t (.tail _ ht), hk⟩
  · rintro w ws env o N ⟨d, c, y3, y4, y5, hw, rfl, rfl, h1, h2, hk⟩ hN
    cases c with
    | nil => cases hw
    | cons t c =>
      obtain ⟨rfl, rfl⟩ := List.cons.inj hw
      obtain ⟨t1, t2, t3, t4, t5, t6⟩ := h2 t (.head _)
      rw [taLE, Option.or_assoc, Option.or_assoc, Option.or_assoc, Option.or_assoc] at hk
      rw [List.length_cons] at h1
      unfold cprD ctaD
      walk_at "go"
      rw [List.length_map]
      refine callX_fin w_req hk (fun _ _ h => dropE_id h) fun hk => ?_
      walk_at "go"
      refine callX_at [1] rfl (w_timE (by omega) t1 ?_)
      refine fin_monoA (fin_or hk) (fun _ h _ => dropE_id (h _)) fun hk => ?_
      walk_at "go"
      rename_i p
      refine callX_at [0] rfl (w_decE (sc := []) (by rw [List.length_nil]; omega) t2 ?_)
      refine fin_monoA (fin_and (fin_or hk)) (fun _ h _ => dropE_id (h _)) fun ⟨hd1, hk⟩ => ?_
      have hn1 : (Nms t.cells).Nodup := decE_nd (sc := []) hd1 .nil
      rw [List.nil_append]
      walk_at "go"
      refine callX_at [0] rfl (w_bodyE (by decide) wk t5 t6 t4 hn1 (by omega) ?_)
      refine fin_monoA (fin_or hk) (fun _ h _ => dropE_id (h _)) fun hk => ?_
      refine hN _ _ ⟨d ++ [t.name], c, _, _, _, rfl, rfl, rfl, by rw [List.length_append, List.length_singleton]; omega, fun t ht => h2 t (.tail _ ht), ?_⟩
      rw [List.append_assoc]
      exact hk

end

section
/-! the checker: programs that can be read, told by a test -/
def wfEb : Ex → Bool
  | .num _ => true
  | .cell _ => true
  | .at _ i => wfEb i
  | .un op a => decide (op ∈ UNS) && wfEb a
  | .bin op a b => (decide (op ∉ UNS) && (decide (op ≠ "num") && (decide (op ≠ "cell") && decide (op ≠ "at")))) && (wfEb a && wfEb b)
theorem wfEb_of : ∀ {e : Ex}, wfEb e = true → WfE e
  | .num _, _ => trivial
  | .cell _, _ => trivial
  | .at _ i, h => wfEb_of (e := i) h
  | .un op a, h => by
    rw [wfEb, Bool.and_eq_true, decide_eq_true_iff] at h
    exact ⟨h.1, wfEb_of h.2⟩
  | .bin op a b, h => by
    simp only [wfEb, Bool.and_eq_true, decide_eq_true_iff] at h
    exact ⟨⟨h.1.1, h.1.2.1, h.1.2.2.1, h.1.2.2.2⟩, wfEb_of h.2.1, wfEb_of h.2.2⟩
def wfXb (e : Ex) : Bool := wfEb e && decide (dpth e ≤ 10)
theorem wfXb_of {e : Ex} (h : wfXb e = true) : WfE e ∧ dpth e ≤ 10 := by
  rw [wfXb, Bool.and_eq_true, decide_eq_true_iff] at h
  exact ⟨wfEb_of h.1, h.2⟩
def wfOb : Option Ex → Bool
  | none => true
  | some e => wfXb e
theorem wfOb_of {p : Option Ex} (h : wfOb p = true) : WfO p := fun e he => by subst he; exact wfXb_of h
def isPlb : Option Ex → Bool
  | none => true
  | some (.cell _) => true
  | some (.at _ i) => wfXb i
  | _ => false
theorem isPlb_of : ∀ {p : Option Ex}, isPlb p = true → IsPl p
  | none, _ => trivial
  | some (.cell _), _ => trivial
  | some (.at _ i), h => wfXb_of (e := i) h
  | some (.num _), h => nomatch h
  | some (.un _ _), h => nomatch h
  | some (.bin _ _ _), h => nomatch h
mutual
def wfSb : St → Bool
  | .set p e => isPlb (some p) && wfXb e
  | .iff c a b => wfXb c && (wfBb a && wfBb b)
  | .loop x _ t b => decide (x.length ≤ 1000) && (wfOb t && wfBb b)
  | .call p _ _ args => isPlb p && ((args.all wfXb) && decide (args.length ≤ 1000))
  | .write _ e => wfXb e
  | .read p _ => isPlb (some p)
def wfBb : List St → Bool
  | [] => true
  | s :: b => wfSb s && wfBb b
end
mutual
theorem wfSb_of : ∀ {s : St}, wfSb s = true → WfS s
  | .set p e, h => by
    rw [wfSb, Bool.and_eq_true] at h
    rw [WfS]
    exact ⟨isPlb_of h.1, wfXb_of h.2⟩
  | .iff c a b, h => by
    rw [wfSb, Bool.and_eq_true, Bool.and_eq_true] at h
    rw [WfS]
    exact ⟨wfXb_of h.1, wfBb_of h.2.1, wfBb_of h.2.2⟩
  | .loop x k t b, h => by
    rw [wfSb, Bool.and_eq_true, Bool.and_eq_true, decide_eq_true_iff] at h
    rw [WfS]
    exact ⟨h.1, wfOb_of h.2.1, wfBb_of h.2.2⟩
  | .call p th op args, h => by
    rw [wfSb, Bool.and_eq_true, Bool.and_eq_true, decide_eq_true_iff, List.all_eq_true] at h
    rw [WfS]
    exact ⟨isPlb_of h.1, fun e he => wfXb_of (h.2.1 e he), h.2.2⟩
  | .write x e, h => by
    rw [wfSb] at h
    rw [WfS]
    exact wfXb_of h
  | .read p x, h => by
    rw [wfSb] at h
    rw [WfS]
    exact isPlb_of h
theorem wfBb_of : ∀ {b : List St}, wfBb b = true → WfB b
  | [], _ => by rw [WfB]; trivial
  | s :: b, h => by
    rw [wfBb, Bool.and_eq_true] at h
    rw [WfB]
    exact ⟨wfSb_of h.1, wfBb_of h.2⟩
end
def opWb (fs : SC) (o : COp) : Bool := decide (o.name.length ≤ 1000) && (o.params.all (fun x => decide (x.length ≤ 1000)) && (o.own.all (fun c => decide (c.1.length ≤ 1000)) && (decide (fs.length + o.params.length + o.own.length ≤ 800) && (wfBb o.body && (decide (dB o.body ≤ 9) && (decide (mB o.body ≤ 100000) && wfOb o.res))))))
theorem opWb_of {fs : SC} {o : COp} (h : opWb fs o = true) : OpW fs o := by
  unfold opWb at h
  simp only [Bool.and_eq_true, decide_eq_true_iff, List.all_eq_true] at h
  obtain ⟨h1, h2, h3, h4, h5, h6, h7, h8⟩ := h
  exact ⟨h1, h2, h3, h4, wfBb_of h5, h6, h7, wfOb_of h8⟩
def obWb (b : COb) : Bool := decide (b.name.length ≤ 1000) && (b.fields.all (fun c => decide (c.1.length ≤ 1000)) && (decide (b.fields.length ≤ 700) && (b.ops.all (fun o => opWb b.fields o && decide (o.params.length ≤ 1000)) && decide (b.ops.length ≤ 500))))
def taWb (t : CTa) : Bool := decide (t.name.length ≤ 1000) && (t.cells.all (fun c => decide (c.1.length ≤ 1000)) && (decide (t.cells.length ≤ 800) && (wfBb t.body && (decide (dB t.body ≤ 9) && decide (mB t.body ≤ 100000)))))
def prWb (P : CPr) : Bool := decide (P.name.length ≤ 1000) && (P.ports.all (fun c => decide (c.2.length ≤ 1000)) && (P.obs.all obWb && (P.tasks.all taWb && (P.irs.all (fun t => decide (t.name.length ≤ 1000) && decide (t.args.length ≤ 1000)) && decide (P.ports.length + P.obs.length + P.tasks.length + P.irs.length ≤ 700)))))
theorem obWb_of {b : COb} (h : obWb b = true) : ObW b ∧ ∀ o ∈ b.ops, o.params.length ≤ 1000 := by
  unfold obWb at h
  simp only [Bool.and_eq_true, decide_eq_true_iff, List.all_eq_true] at h
  obtain ⟨h1, h2, h3, h4, h5⟩ := h
  exact ⟨⟨h1, h2, h3, fun o ho => opWb_of (h4 o ho).1, h5⟩, fun o ho => (h4 o ho).2⟩
theorem taWb_of {t : CTa} (h : taWb t = true) : TaW t := by
  unfold taWb at h
  simp only [Bool.and_eq_true, decide_eq_true_iff, List.all_eq_true] at h
  obtain ⟨h1, h2, h3, h4, h5, h6⟩ := h
  exact ⟨h1, h2, h3, wfBb_of h4, h5, h6⟩
theorem prWb_of {P : CPr} (h : prWb P = true) : PrW P := by
  unfold prWb at h
  simp only [Bool.and_eq_true, decide_eq_true_iff, List.all_eq_true] at h
  obtain ⟨h1, h2, h3, h4, h5, h6⟩ := h
  exact ⟨h1, h2, fun b hb => (obWb_of (h3 b hb)).1, fun t ht => taWb_of (h4 t ht), h5, h6, fun b hb => (obWb_of (h3 b hb)).2⟩

end

section
variable {CS : Nat → Addr}
/-! k75: the programs -/
theorem logS {r : Int} (h0 : 0 ≤ r) (h1 : r < 100) : r.natAbs.log2 < 1920 := by
  obtain ⟨n, rfl⟩ : ∃ n : Nat, r = n := ⟨r.toNat, by omega⟩
  have : ∀ n < 100, ((n : Nat) : Int).natAbs.log2 < 1920 := by decide +kernel
  exact this n (by omega)
theorem strS (c : String) (hc : (Str.ofString c).length ≤ 10) {r : Int} (h0 : 0 ≤ r) (h1 : r < 100) : (Str.ofString c).length + (Str.ofString (toString r)).length ≤ sizeLine := by
  obtain ⟨n, rfl⟩ : ∃ n : Nat, r = n := ⟨r.toNat, by omega⟩
  have h : ∀ n < 100, (Str.ofString (toString ((n : Nat) : Int))).length ≤ 10 := by decide +kernel
  have := h n (by omega)
  rw [sizeLine_eq]
  omega
def nmN (c : String) (k : Nat) : Str := Str.ofString c ++ Str.ofString (toString ((k : Nat) : Int))
def rowN (c : String) (n : Nat) : List Str := (List.range n).map (nmN c)
theorem w_rows {c : String} (hc : (Str.ofString c).length ≤ 10) {n : Nat} (hn : n < 100) {os : Os} {k : D → Os → Prop} {kx : Kx} (h : k (.lst ((rowN c n).map D.str)) os) : T__law_rows CS [.str (Str.ofString c), .int (n : Nat)] os k kx := by
  unfold T__law_rows fnT
  walk_at "go"
  refine lcX_inv (fun j acc o => acc = ((List.range j).map (nmN c)).map D.str ∧ o = os) ⟨rfl, rfl⟩ ?_ ?_ (fun _ _ _ _ => trivial)
  · rintro j w acc o N hw ⟨rfl, rfl⟩ hN
    obtain ⟨rfl, hj⟩ := rng_at hw
    have hj2 : j < n := by simpa using hj
    have e0 : (0 : Int) + (j : Nat) * 1 = (j : Nat) := by omega
    rw [e0]
    have hl := strS c hc (r := (j : Nat)) (by omega) (by omega)
    have hg := logS (r := (j : Nat)) (by omega) (by omega)
    walk_at "go"
    refine hN _ _ _ (.refl _) ⟨?_, rfl⟩
    rw [List.range_succ, List.map_append, List.map_append]
    rfl
  · rintro acc o ⟨rfl, rfl⟩
    rw [rng_len]
    walk_at "go"
    refine dropX_id ?_
    rw [show ((n : Int)).toNat = n by omega]
    exact h
def opN (x : Str) : COp := ⟨x, [], [], [], none⟩
def cntP : Nat → Nat → CPr
  | 0, n => ⟨"s", [], [], (rowN "t" n).map fun x => ⟨x, 9, 9, [], []⟩, []⟩
  | 1, n => ⟨"s", [], (rowN "o" n).map fun x => ⟨x, [], []⟩, [], []⟩
  | 2, n => ⟨"s", [], [⟨"o", [], (rowN "f" n).map opN⟩], [], []⟩
  | 3, n => ⟨"s", [], [⟨"o", [], [opN "f"]⟩], [], (rowN "i" n).map fun x => ⟨x, 9, 9, "o", "f", []⟩⟩
  | 4, n => ⟨"s", ((rowN "p" n).map fun x => (("in" : Str), x)) ++ [(("out" : Str), ("q" : Str))], [], [], []⟩
  | 5, n => ⟨"s", [(("in" : Str), ("p" : Str))] ++ ((rowN "q" n).map fun x => (("out" : Str), x)), [], [], []⟩
  | 6, n => ⟨"s", [], [⟨"o", (rowN "c" n).map fun x => (x, 0), []⟩], [], []⟩
  | 7, n => ⟨"s", [], [], [⟨"job", 90, 80, (rowN "c" n).map fun x => (x, 2), []⟩], []⟩
  | 8, n => ⟨"s", [], [⟨"o", [], [⟨"f", [], (rowN "c" n).map fun x => (x, 0), [], none⟩]⟩], [], []⟩
  | _, n => ⟨"s", [], [⟨"o", [], [⟨"f", rowN "c" n, [], [], none⟩]⟩], [], []⟩
theorem w_whole {a b c d : D} {os : Os} {k : D → Os → Prop} {kx : Kx} (h : k (.tup [.str "system", .str "s", a, b, c, d]) os) : T__law_whole CS [a, b, c, d] os k kx := by
  unfold T__law_whole fnT
  walk_at "go"
  exact dropX_id h
theorem w_taskD {a b : D} {os : Os} {k : D → Os → Prop} {kx : Kx} (h : k (.tup [.str "task", .str "job", .int 90, .int 80, b, a]) os) : T__law_task CS [a, b] os k kx := by
  unfold T__law_task fnT
  walk_at "go"
  exact dropX_id h
theorem w_operD {a b c d : D} {os : Os} {k : D → Os → Prop} {kx : Kx} (h : k (.tup [.str "operation", a, b, c, d, .non]) os) : T__law_operation CS [a, b, c, d] os k kx := by
  unfold T__law_operation fnT
  walk_at "go"
  exact dropX_id h
theorem row_len (c : String) {n : Nat} (hn : n < 100) : ((rowN c n).map D.str).length ≤ sizeLine := szI (by rw [List.length_map]; unfold rowN; rw [List.length_map, List.length_range]; omega)
theorem w_cnt {kd : Nat} (hk : kd < 10) {n : Nat} (hn : n < 100) {os : Os} {k : D → Os → Prop} {kx : Kx} (h : k (cprD (cntP kd n)) os) : T__law_counts CS [.int (kd : Nat), .int (n : Nat)] os k kx := by
  unfold T__law_counts fnT
  have h1 : ∀ {f : Str → D} {l : List Str}, (l.map D.str).map (fun w => match w with | .str x => f x | w => w) = l.map f := by
    intro f l; rw [List.map_map]; rfl
  walk_at "go"
  refine callX_all (w_operD ?_)
  match kd, hk with
  | 0, _ =>
    walk_at "go"
    refine callX_all (w_rows (c := "t") (by decide +kernel) hn ?_)
    have hz := row_len "t" hn
    walk_at "go"
    refine lcX_map (fun w => .tup [.str "task", w, .int 9, .int 9, .lst [], .lst []]) trivial (fun _ {_ _} hpq h => hpq _ h) (fun w hw kk hkk => ?_) ?_
    · walk_at "go"
      exact hkk
    · walk_at "go"
      refine callX_all (w_whole ?_)
      walk_at "go"
      refine dropX_id (kD h ?_)
      unfold cntP cprD
      simp only [List.map_map, List.map_append, List.map_cons, List.map_nil, cobD, ctaD, copD, bdD, oeD, opN]
      rfl
  | 1, _ =>
    walk_at "go"
    refine callX_all (w_rows (c := "o") (by decide +kernel) hn ?_)
    have hz := row_len "o" hn
    walk_at "go"
    refine lcX_map (fun w => .tup [.str "object", w, .lst [], .lst []]) trivial (fun _ {_ _} hpq h => hpq _ h) (fun w hw kk hkk => ?_) ?_
    · walk_at "go"
      exact hkk
    · walk_at "go"
      refine callX_all (w_whole ?_)
      walk_at "go"
      refine dropX_id (kD h ?_)
      unfold cntP cprD
      simp only [List.map_map, List.map_append, List.map_cons, List.map_nil, cobD, ctaD, copD, bdD, oeD, opN]
      rfl
  | 2, _ =>
    walk_at "go"
    refine callX_all (w_rows (c := "f") (by decide +kernel) hn ?_)
    have hz := row_len "f" hn
    walk_at "go"
    refine lcX_map (fun w => .tup [.str "operation", w, .lst [], .lst [], .lst [], .non]) trivial (fun _ {_ _} hpq h => hpq _ h) (fun w hw kk hkk => ?_) ?_
    · walk_at "go"
      refine callX_all (w_operD ?_)
      exact hkk
    · walk_at "go"
      refine callX_all (w_whole ?_)
      walk_at "go"
      refine dropX_id (kD h ?_)
      unfold cntP cprD
      simp only [List.map_map, List.map_append, List.map_cons, List.map_nil, cobD, ctaD, copD, bdD, oeD, opN]
      rfl
  | 3, _ =>
    walk_at "go"
    refine callX_all (w_rows (c := "i") (by decide +kernel) hn ?_)
    have hz := row_len "i" hn
    walk_at "go"
    refine lcX_map (fun w => .tup [.str "interrupt", w, .int 9, .int 9, .str "o", .str "f", .lst []]) trivial (fun _ {_ _} hpq h => hpq _ h) (fun w hw kk hkk => ?_) ?_
    · walk_at "go"
      exact hkk
    · walk_at "go"
      refine callX_all (w_whole ?_)
      walk_at "go"
      refine dropX_id (kD h ?_)
      unfold cntP cprD
      simp only [List.map_map, List.map_append, List.map_cons, List.map_nil, cobD, ctaD, copD, bdD, oeD, opN]
      rfl
  | 4, _ =>
    walk_at "go"
    refine callX_all (w_rows (c := "p") (by decide +kernel) hn ?_)
    have hz := row_len "p" hn
    walk_at "go"
    refine lcX_map (fun w => .tup [.str "in", w]) trivial (fun _ {_ _} hpq h => hpq _ h) (fun w hw kk hkk => ?_) ?_
    · walk_at "go"
      exact hkk
    · walk_at "go"
      refine callX_all (w_whole ?_)
      walk_at "go"
      refine dropX_id (kD h ?_)
      unfold cntP cprD
      simp only [List.map_map, List.map_append, List.map_cons, List.map_nil, cobD, ctaD, copD, bdD, oeD, opN]
      rfl
      exact szI (by simp only [List.length_map, List.length_singleton, rowN, List.length_range]; omega)
  | 5, _ =>
    walk_at "go"
    refine callX_all (w_rows (c := "q") (by decide +kernel) hn ?_)
    have hz := row_len "q" hn
    walk_at "go"
    refine lcX_map (fun w => .tup [.str "out", w]) trivial (fun _ {_ _} hpq h => hpq _ h) (fun w hw kk hkk => ?_) ?_
    · walk_at "go"
      exact hkk
    · walk_at "go"
      refine callX_all (w_whole ?_)
      walk_at "go"
      refine dropX_id (kD h ?_)
      unfold cntP cprD
      simp only [List.map_map, List.map_append, List.map_cons, List.map_nil, cobD, ctaD, copD, bdD, oeD, opN]
      rfl
      exact szI (by simp only [List.length_map, List.length_singleton, rowN, List.length_range]; omega)
  | 6, _ =>
    walk_at "go"
    refine callX_all (w_rows (c := "c") (by decide +kernel) hn ?_)
    have hz := row_len "c" hn
    walk_at "go"
    refine lcX_map (fun w => .tup [w, .int 0]) trivial (fun _ {_ _} hpq h => hpq _ h) (fun w hw kk hkk => ?_) ?_
    · walk_at "go"
      exact hkk
    · walk_at "go"
      refine callX_all (w_whole ?_)
      walk_at "go"
      refine dropX_id (kD h ?_)
      unfold cntP cprD
      simp only [List.map_map, List.map_append, List.map_cons, List.map_nil, cobD, ctaD, copD, bdD, oeD, opN]
      rfl
  | 7, _ =>
    walk_at "go"
    refine callX_all (w_rows (c := "c") (by decide +kernel) hn ?_)
    have hz := row_len "c" hn
    walk_at "go"
    refine lcX_map (fun w => .tup [w, .int 2]) trivial (fun _ {_ _} hpq h => hpq _ h) (fun w hw kk hkk => ?_) ?_
    · walk_at "go"
      exact hkk
    · walk_at "go"
      refine callX_all (w_taskD ?_)
      walk_at "go"
      refine callX_all (w_whole ?_)
      walk_at "go"
      refine dropX_id (kD h ?_)
      unfold cntP cprD
      simp only [List.map_map, List.map_append, List.map_cons, List.map_nil, cobD, ctaD, copD, bdD, oeD, opN]
      rfl
  | 8, _ =>
    walk_at "go"
    refine callX_all (w_rows (c := "c") (by decide +kernel) hn ?_)
    have hz := row_len "c" hn
    walk_at "go"
    refine lcX_map (fun w => .tup [w, .int 0]) trivial (fun _ {_ _} hpq h => hpq _ h) (fun w hw kk hkk => ?_) ?_
    · walk_at "go"
      exact hkk
    · walk_at "go"
      refine callX_all (w_operD ?_)
      walk_at "go"
      refine callX_all (w_whole ?_)
      walk_at "go"
      refine dropX_id (kD h ?_)
      unfold cntP cprD
      simp only [List.map_map, List.map_append, List.map_cons, List.map_nil, cobD, ctaD, copD, bdD, oeD, opN]
      rfl
  | 9, _ =>
    walk_at "go"
    refine callX_all (w_rows (c := "c") (by decide +kernel) hn ?_)
    have hz := row_len "c" hn
    walk_at "go"
    refine callX_all (w_operD ?_)
    walk_at "go"
    refine callX_all (w_whole ?_)
    walk_at "go"
    refine dropX_id (kD h ?_)
    unfold cntP cprD
    simp only [List.map_map, List.map_append, List.map_cons, List.map_nil, cobD, ctaD, copD, bdD, oeD, opN]

end

section
variable {CS : Nat → Addr}
/-! k75: programs with bodies -/
def unE : Nat → Ex
  | 0 => .cell "x"
  | n + 1 => .un "not" (unE n)
theorem w_unary {n : Nat} (hn : n < 100) (h1 : 1 ≤ n) {os : Os} {k : D → Os → Prop} {kx : Kx} (h : k (eD (unE (n - 1))) os) : T__law_unary CS [.int (n : Nat)] os k kx := by
  unfold T__law_unary fnT
  walk_at "go"
  refine forX_inv (fun i e o => ∃ x, e = [some (.int (n : Nat)), some (eD (unE i)), x] ∧ o = os) ⟨_, rfl, rfl⟩ ?_ ?_ (fun _ _ _ _ => trivial)
  · rintro i w e o N hw ⟨x, rfl, rfl⟩ hN
    obtain ⟨rfl, hi⟩ := rng_at hw
    walk_at "go"
    exact hN _ _ _ (.refl _) ⟨_, rfl, rfl⟩
  · rintro e o ⟨x, rfl, rfl⟩
    rw [rng_len, show ((n : Int) - 1).toNat = n - 1 by omega]
    walk_at "go"
    exact dropX_id h
def deepB : Nat → List St
  | 0 => []
  | n + 1 => [.iff (.num 1) [] (deepB n)]
theorem w_deep {n : Nat} (hn : n < 100) (h1 : 1 ≤ n) {os : Os} {k : D → Os → Prop} {kx : Kx} (h : k (.lst (bdD (deepB (n - 1)))) os) : T__law_deep CS [.int (n : Nat), .lst []] os k kx := by
  unfold T__law_deep fnT
  walk_at "go"
  refine forX_inv (fun i e o => ∃ x, e = [some (.int (n : Nat)), some (.lst []), some (.lst (bdD (deepB i))), x] ∧ o = os) ⟨_, rfl, rfl⟩ ?_ ?_ (fun _ _ _ _ => trivial)
  · rintro i w e o N hw ⟨x, rfl, rfl⟩ hN
    obtain ⟨rfl, hi⟩ := rng_at hw
    walk_at "go"
    exact hN _ _ _ (.refl _) ⟨_, rfl, rfl⟩
  · rintro e o ⟨x, rfl, rfl⟩
    rw [rng_len, show ((n : Int) - 1).toNat = n - 1 by omega]
    walk_at "go"
    exact dropX_id h
def loopB : Nat → List St
  | 0 => []
  | n + 1 => if n = 1 then [.iff (.num 1) [.loop (nmN "i" n) 2 none (loopB n)] []] else [.loop (nmN "i" n) 2 none (loopB n)]
theorem w_loops {n : Nat} (hn : n < 100) {os : Os} {k : D → Os → Prop} {kx : Kx} (h : k (.lst (bdD (loopB n))) os) : T__law_loops CS [.int (n : Nat)] os k kx := by
  unfold T__law_loops fnT
  walk_at "go"
  refine forX_inv (fun i e o => ∃ x, e = [some (.int (n : Nat)), some (.lst (bdD (loopB i))), x] ∧ o = os) ⟨_, rfl, rfl⟩ ?_ ?_ (fun _ _ _ _ => trivial)
  · rintro i w e o N hw ⟨x, rfl, rfl⟩ hN
    obtain ⟨rfl, hi⟩ := rng_at hw
    have hi2 : i < n := by simpa using hi
    have e0 : (0 : Int) + (i : Nat) * 1 = (i : Nat) := by omega
    rw [e0]
    have hl := strS "i" (by decide +kernel) (r := (i : Nat)) (by omega) (by omega)
    have hg := logS (r := (i : Nat)) (by omega) (by omega)
    walk_at "go"
    · rename_i hb
      refine hN _ _ _ (.refl _) ⟨some (.int (i : Nat)), ?_, rfl⟩
      have e1 : i = 1 := by omega
      subst e1
      rfl
    · rename_i hb
      refine hN _ _ _ (.refl _) ⟨some (.int (i : Nat)), ?_, rfl⟩
      rw [loopB, if_neg (show ¬ i = 1 by omega)]
      rfl
  · rintro e o ⟨x, rfl, rfl⟩
    rw [rng_len, show ((n : Int)).toNat = n by omega]
    walk_at "go"
    exact dropX_id h
def addE (a b : Ex) : Ex := .bin "+" a b
def leftE : Ex := addE (addE (addE (.num 0) (.num 1)) (addE (.num 2) (.num 3))) (addE (addE (.num 4) (.num 5)) (.num 6))
def wideE (n : Nat) : Ex := addE (addE leftE leftE) (.un "neg" (if 40 < n then addE (addE (.un "neg" (.num 0)) (.num 0)) (addE (addE (.num 0) (.num 0)) (addE (.num 0) (.num 0))) else addE (addE (.num 0) (.num 0)) (addE (addE (.num 0) (.num 0)) (addE (.num 0) (.num 0)))))
theorem w_wide {n : Nat} (hn : n < 100) {os : Os} {k : D → Os → Prop} {kx : Kx} (h : k (eD (wideE n)) os) : T__law_wide CS [.int (n : Nat)] os k kx := by
  unfold T__law_wide fnT
  walk_at "go"
  refine lcX_map (fun w => .tup [.str "num", w]) trivial b1_mono (fun w hw kk hkk => ?_) ?_
  · walk_at "go"
    exact hkk
  walk_at "go"
  · rename_i hb
    rw [wideE, if_pos (by omega)] at h
    exact dropX_id h
  · rename_i hb
    rw [wideE, if_neg (by omega)] at h
    exact dropX_id h
def setX : St := .set (.cell "x") (.num 1)
def cells2 : SC := [("x", 0), ("y", 3)]
def jobT (b : List St) (c : SC) : CTa := ⟨"job", 90, 80, c, b⟩
def onlyT (t : CTa) : CPr := ⟨"s", [], [], [t], []⟩
def bodP : Nat → Nat → CPr
  | 0, n => ⟨"s", [("out", "q")], [], [jobT ([.iff (.num 1) ((List.replicate (n - 3) setX).take 60) [], .loop "i" 2 none (((List.replicate (n - 3) setX).take 90).drop 60), .write "q" (.num 1)] ++ (List.replicate (n - 3) setX).drop 90) cells2], []⟩
  | 1, n => onlyT (jobT (deepB (n - 1)) cells2)
  | 2, n => onlyT (jobT (loopB n) cells2)
  | 3, n => onlyT (jobT [.set (.at "y" (unE (n - 1))) (.num 1)] cells2)
  | 4, n => ⟨"s", [], [⟨"o", [], [⟨"f", ["a"], [], [], none⟩]⟩], [jobT [.call none "o" "f" [unE (n - 1)]] cells2], []⟩
  | 5, n => onlyT (jobT [] [("x", (n : Nat))])
  | 6, n => onlyT (jobT [.loop "i" (n : Nat) none []] cells2)
  | 7, n => onlyT ⟨"t", (n : Nat), 4194297, [], []⟩
  | 8, n => onlyT ⟨"t", 50, (n : Nat), [], []⟩
  | 9, n => onlyT (jobT [.set (.cell "x") (wideE n)] cells2)
  | _, n => onlyT ⟨("T" : Str) ++ Txt.mul "_" ((n : Int) - 2) ++ ("9" : Str), 9, 9, [], []⟩
theorem bdD_app (a b : List St) : bdD (a ++ b) = bdD a ++ bdD b := by rw [bdD_map, bdD_map, bdD_map, List.map_append]
theorem bdD_len' (b : List St) : (bdD b).length = b.length := by rw [bdD_map, List.length_map]
theorem bdD_take (a : List St) (n : Nat) : bdD (a.take n) = (bdD a).take n := by rw [bdD_map, bdD_map, List.map_take]
theorem bdD_drop (a : List St) (n : Nat) : bdD (a.drop n) = (bdD a).drop n := by rw [bdD_map, bdD_map, List.map_drop]
theorem bdD_rep (s : St) (n : Nat) : bdD (List.replicate n s) = List.replicate n (stD s) := by rw [bdD_map, List.map_replicate]
theorem w_bod {kd : Nat} (hk : kd < 11) {n : Nat} (h2 : kd ∈ [1, 2, 3, 4, 9, 10] → n < 100) (h1 : kd = 0 → n < 300) (h3 : 3 ≤ n) (h4 : kd = 10 → n = 16 ∨ n = 17) {os : Os} {k : D → Os → Prop} {kx : Kx} (h : k (cprD (bodP kd n)) os) : T__law_bodies CS [.int (kd : Nat), .int (n : Nat)] os k kx := by
  unfold T__law_bodies fnT
  match kd, hk with
  | 0, _ =>
    have hn : n < 300 := h1 rfl
    walk_at "go"
    refine lcX_map (fun _ => stD setX) trivial b1_mono (fun w hw kk hkk => ?_) ?_
    · walk_at "go"
      exact hkk
    have e : List.map (fun _ => stD setX) (rng 0 1 ((n : Int) - 3).toNat) = bdD (List.replicate (n - 3) setX) := by rw [bdD_rep, List.map_const', rng_len, show ((n : Int) - 3).toNat = n - 3 by omega]
    have e1 : cutA (bdD (List.replicate (n - 3) setX)) none (some 60) = bdD ((List.replicate (n - 3) setX).take 60) := by rw [bdD_take]; exact cutA_to _ 60
    have e2 : cutA (bdD (List.replicate (n - 3) setX)) (some 60) (some 90) = bdD (((List.replicate (n - 3) setX).take 90).drop 60) := by rw [bdD_drop, bdD_take]; exact cutA_mid _ 60 90
    have e3 : cutA (bdD (List.replicate (n - 3) setX)) (some 90) none = bdD ((List.replicate (n - 3) setX).drop 90) := by rw [bdD_drop]; exact cutA_from _ 90
    have e4 : (bdD ((List.replicate (n - 3) setX).drop 90)).length ≤ 300 := by rw [bdD_len', List.length_drop, List.length_replicate]; omega
    rw [e]
    walk_at "go"
    rotate_left
    · rw [e3]
      exact szI (by simp only [List.length_cons, List.length_nil]; omega)
    rw [e1, e2, e3]
    refine callX_all (w_taskD ?_)
    walk_at "go"
    refine callX_all (w_whole ?_)
    walk_at "go"
    refine dropX_id ?_
    have e5 : ∀ a : List St, bdD ([.iff (.num 1) ((List.replicate (n - 3) setX).take 60) [], .loop "i" 2 none (((List.replicate (n - 3) setX).take 90).drop 60), .write "q" (.num 1)] ++ a) = _ := fun a => bdD_app _ a
    unfold bodP cprD jobT at h
    simp only [List.map_cons, List.map_nil, ctaD, e5] at h
    exact h
  | 1, _ =>
    have hn : n < 100 := h2 (by decide)
    walk_at "go"
    refine callX_all (w_deep hn (by omega) ?_)
    walk_at "go"
    refine callX_all (w_taskD ?_)
    walk_at "go"
    refine callX_all (w_whole ?_)
    walk_at "go"
    exact dropX_id h
  | 2, _ =>
    have hn : n < 100 := h2 (by decide)
    walk_at "go"
    refine callX_all (w_loops hn ?_)
    walk_at "go"
    refine callX_all (w_taskD ?_)
    walk_at "go"
    refine callX_all (w_whole ?_)
    walk_at "go"
    exact dropX_id h
  | 3, _ =>
    have hn : n < 100 := h2 (by decide)
    walk_at "go"
    refine callX_all (w_unary hn (by omega) ?_)
    walk_at "go"
    refine callX_all (w_taskD ?_)
    walk_at "go"
    refine callX_all (w_whole ?_)
    walk_at "go"
    exact dropX_id h
  | 4, _ =>
    have hn : n < 100 := h2 (by decide)
    walk_at "go"
    refine callX_all (w_operD ?_)
    walk_at "go"
    refine callX_all (w_unary hn (by omega) ?_)
    walk_at "go"
    refine callX_all (w_taskD ?_)
    walk_at "go"
    refine callX_all (w_whole ?_)
    walk_at "go"
    exact dropX_id h
  | 5, _ =>
    walk_at "go"
    refine callX_all (w_taskD ?_)
    walk_at "go"
    refine callX_all (w_whole ?_)
    walk_at "go"
    exact dropX_id h
  | 6, _ =>
    walk_at "go"
    refine callX_all (w_taskD ?_)
    walk_at "go"
    refine callX_all (w_whole ?_)
    walk_at "go"
    exact dropX_id h
  | 7, _ =>
    walk_at "go"
    refine callX_all (w_whole ?_)
    walk_at "go"
    exact dropX_id h
  | 8, _ =>
    walk_at "go"
    refine callX_all (w_whole ?_)
    walk_at "go"
    exact dropX_id h
  | 9, _ =>
    have hn : n < 100 := h2 (by decide)
    walk_at "go"
    refine callX_all (w_wide hn ?_)
    walk_at "go"
    refine callX_all (w_taskD ?_)
    walk_at "go"
    refine callX_all (w_whole ?_)
    walk_at "go"
    exact dropX_id h
  | 10, _ =>
    rcases h4 rfl with rfl | rfl
    all_goals
      walk_at "go"
      refine callX_all (w_whole ?_)
      walk_at "go"
      exact dropX_id h

end

section
variable {CS : Nat → Addr}
/-! k75: the law -/
def lawP (kd n : Nat) : CPr := if kd < 10 then cntP kd n else bodP (kd - 10) n
def limN (kd : Nat) : Nat := ([8, 4, 4, 2, 8, 8, 16, 16, 16, 4, 200, 8, 4, 6, 4, 64, 64, 4194304, 50, 40, 16] : List Nat).getD kd 0
def ruleN (kd : Nat) : Str := if kd = 20 then "name" else "size"
def shB (d : D) : Bool := shp d 60 && (shwOk d && decide (shwN d ≤ 100000))
def fineB (kd : Nat) : Bool := prWb (lawP kd (limN kd)) && (prWb (lawP kd (limN kd + 1)) && (decide (checkE (lawP kd (limN kd)) = none) && (decide (checkE (lawP kd (limN kd + 1)) = some (ruleN kd)) &&
  shB (.lst [cprD (lawP kd (limN kd)), cprD (lawP kd (limN kd + 1))]))))
theorem fine_all : ∀ kd < 21, fineB kd = true := by decide +kernel
theorem w_ruleN {P : CPr} (W : PrW P) {k : D → Os → Prop} {kx : Kx} (hk : k (match checkE P with | some r => .tup [.str r, .int 1] | none => .tup [.str "", .int 0]) []) : T__law_rule CS [cprD P] [] k kx := by
  unfold T__law_rule fnT
  walk_at "go"
  refine callX_all (w_check W ?_)
  cases h : checkE P with
  | none =>
    rw [h] at hk
    refine fin_n ?_
    walk_at "go"
    exact dropX_id hk
  | some r =>
    rw [h] at hk
    refine fin_s fun o => ?_
    walk_at "go"
    exact dropX_wk (os2 := []) ⟨_, .refl _⟩ hk
theorem eqD_rule (r : Str) (i : Int) : eqD (.tup [.str r, .int i]) (.tup [.str r, .int i]) = true := by simp [eqD, toP, toPs, PyData.eqv, PyData.eqvAll]

theorem sh_facts {P Q : CPr} (h : shB (.lst [cprD P, cprD Q]) = true) {os : Os} {k : D → Os → Prop} (hk : k (.str (toP (.lst [cprD P, cprD Q])).shown) os) : cRepr [.lst [cprD P, cprD Q]] os k := by
  unfold shB at h
  rw [Bool.and_eq_true, Bool.and_eq_true, decide_eq_true_iff] at h
  exact cRepr_of h.1 h.2.1 rfl (Nat.le_trans h.2.2 (by rw [sizeLine_eq]; decide)) hk
theorem law_true {CS : Nat → Addr} (ns : List Int) (hn : ns.length ≤ 63) : T_law CS [.lst (ns.map D.int)] [] (fun w _ => w = .bl true) (fun _ _ => False) := by
  unfold T_law fnT
  walk_at "go"
  refine forX_inv (fun i e o => ∃ (c : Int) (x : Option D), o = [] ∧ e = [some (.lst (ns.map D.int)), some (.int c), x, none, none, none, none, none, none, none]) ⟨0, none, rfl, rfl⟩ ?_ ?_ (fun _ _ _ _ => trivial)
  · rintro i w e o N hw ⟨c, x, rfl, rfl⟩ hN
    obtain ⟨rfl, hi⟩ := rng_at hw
    have hi2 : i < ns.length := by simpa using hi
    clear hi
    walk_at "go"
    exact hN _ _ _ (.refl _) ⟨_, _, rfl, rfl⟩
  · rintro e o ⟨c, x, rfl, rfl⟩
    obtain ⟨kd, hkd, hk⟩ : ∃ kd : Nat, kd < 21 ∧ c % 21 = kd := by
      have h1 := Int.emod_nonneg c (show (21 : Int) ≠ 0 by decide)
      have h2 := Int.emod_lt_of_pos c (show (0 : Int) < 21 by decide)
      exact ⟨(c % 21).toNat, by omega, by omega⟩
    have hf := fine_all kd hkd
    unfold fineB at hf
    simp only [Bool.and_eq_true, decide_eq_true_iff] at hf
    obtain ⟨f1, f2, f3, f4, f5⟩ := hf
    have W1 := prWb_of f1
    have W2 := prWb_of f2
    have hat : atI ([.int 8, .int 4, .int 4, .int 2, .int 8, .int 8, .int 16, .int 16, .int 16, .int 4, .int 200, .int 8, .int 4, .int 6, .int 4, .int 64, .int 64, .int 4194304, .int 50, .int 40, .int 16] : List D) (kd : Int) = some (.int (limN kd : Nat)) := by
      have e2 := atI_mapN (f := D.int) (x := (limN kd : Int)) (i := (kd : Int)) (by omega) (xs := ([8, 4, 4, 2, 8, 8, 16, 16, 16, 4, 200, 8, 4, 6, 4, 64, 64, 4194304, 50, 40, 16] : List Int)) (by
        have : ∀ k < 21, ([8, 4, 4, 2, 8, 8, 16, 16, 16, 4, 200, 8, 4, 6, 4, 64, 64, 4194304, 50, 40, 16] : List Int)[((k : Nat) : Int).toNat]? = some (limN k : Int) := by decide +kernel
        exact this kd hkd)
      exact e2
    have hlim : 2 ≤ limN kd ∧ (kd < 10 → limN kd < 99) ∧ (10 ≤ kd → 3 ≤ limN kd ∧ (kd - 10 ∈ [1, 2, 3, 4, 9, 10] → limN kd + 1 < 100) ∧ (kd - 10 = 0 → limN kd + 1 < 300) ∧ (kd - 10 = 10 → limN kd = 16)) := by
      have : ∀ kd < 21, 2 ≤ limN kd ∧ (kd < 10 → limN kd < 99) ∧ (10 ≤ kd → 3 ≤ limN kd ∧ (kd - 10 ∈ [1, 2, 3, 4, 9, 10] → limN kd + 1 < 100) ∧ (kd - 10 = 0 → limN kd + 1 < 300) ∧ (kd - 10 = 10 → limN kd = 16)) := by decide +kernel
      exact this kd hkd
    obtain ⟨l1, l2, l3⟩ := hlim
    have hrs : sOk (ruleN kd) = true := by unfold ruleN; split <;> decide +kernel
    have hsr : shp (.tup [.str (ruleN kd), .int 1]) 60 = true := (Sh.tup (ShA.cons (Sh.str 59 hrs) (ShA.cons (Sh.int 59 (by decide) (by decide)) (.nil _)))).s
    have hs0 : shp (.tup [.str "", .int 0]) 60 = true := (Sh.tup (ShA.cons (Sh.str 59 (by decide +kernel)) (ShA.cons (Sh.int 59 (by decide) (by decide)) (.nil _)))).s
    generalize hL : limN kd = lm at *
    walk_at "go"
    rw [hk]
    refine ⟨_, hat, ?_⟩
    have ec : ((lm : Int) + 1) = ((lm + 1 : Nat) : Int) := by omega
    walk_at "go"
    · rename_i hb
      refine callX_all (w_cnt (kd := kd) (n := lm) (by omega) (by omega) ?_)
      walk_at "go"
      rw [ec]
      refine callX_all (w_cnt (kd := kd) (n := lm + 1) (by omega) (by omega) ?_)
      have e1 : ∀ n, lawP kd n = cntP kd n := fun n => if_pos (by omega)
      rw [← e1, ← e1]
      have e2 : ruleN kd = "size" := if_neg (by omega)
      rw [e2] at f4 hsr
      walk_at "go"
      have hx : cRepr [.lst [cprD (lawP kd lm), cprD (lawP kd (lm + 1))]] [] (fun w o => w = .str (toP (.lst [cprD (lawP kd lm), cprD (lawP kd (lm + 1))])).shown ∧ o = []) := sh_facts f5 ⟨rfl, rfl⟩
      obtain ⟨d, x1, x2, x3, x4, x5, _⟩ := hx
      walk_at "go"
      refine ⟨d, x1, x2, x3, x4, x5, ?_⟩
      walk_at "go"
      refine callX_none (w_ruleN W1 ?_)
      rw [f3]
      walk_at "go"
      refine ⟨_, _, .same _, .same _, hs0, hs0, ?_⟩
      rw [eqD_rule]
      walk_at "go"
      refine callX_none (w_ruleN W2 ?_)
      rw [f4]
      walk_at "go"
      refine ⟨_, _, .same _, .same _, hsr, hsr, ?_⟩
      rw [eqD_rule]
      walk_at "go"
      refine callX_none (w_ruleN W1 ?_)
      rw [f3]
      walk_at "go"
      refine ⟨_, _, .same _, .same _, hs0, hs0, ?_⟩
      rw [eqD_rule]
      walk_at "go"
      refine ⟨d, x1, x2, x3, x4, x5, ?_⟩
      walk_at "go"
      rw [decide_eq_true rfl]
      exact dropX_id rfl
    · rename_i hb
      obtain ⟨l4, l5, l6, l7⟩ := l3 (by omega)
      have ek : ((kd : Int) - 10) = ((kd - 10 : Nat) : Int) := by omega
      rw [ek]
      refine callX_all (w_bod (kd := kd - 10) (n := lm) (by omega) (fun h => by have := l5 h; omega) (fun h => by have := l6 h; omega) l4 (fun h => .inl (l7 h)) ?_)
      walk_at "go"
      rw [ec, ek]
      refine callX_all (w_bod (kd := kd - 10) (n := lm + 1) (by omega) (fun h => l5 h) (fun h => l6 h) (by omega) (fun h => .inr (by rw [l7 h])) ?_)
      have e1 : ∀ n, lawP kd n = bodP (kd - 10) n := fun n => if_neg (by omega)
      rw [← e1, ← e1]
      walk_at "go"
      · rename_i hb2
        have e2 : ruleN kd = "name" := if_pos (by omega)
        rw [e2] at f4 hsr
        have hx : cRepr [.lst [cprD (lawP kd lm), cprD (lawP kd (lm + 1))]] [] (fun w o => w = .str (toP (.lst [cprD (lawP kd lm), cprD (lawP kd (lm + 1))])).shown ∧ o = []) := sh_facts f5 ⟨rfl, rfl⟩
        obtain ⟨d, x1, x2, x3, x4, x5, _⟩ := hx
        walk_at "go"
        refine ⟨d, x1, x2, x3, x4, x5, ?_⟩
        walk_at "go"
        refine callX_none (w_ruleN W1 ?_)
        rw [f3]
        walk_at "go"
        refine ⟨_, _, .same _, .same _, hs0, hs0, ?_⟩
        rw [eqD_rule]
        walk_at "go"
        refine callX_none (w_ruleN W2 ?_)
        rw [f4]
        walk_at "go"
        refine ⟨_, _, .same _, .same _, hsr, hsr, ?_⟩
        rw [eqD_rule]
        walk_at "go"
        refine callX_none (w_ruleN W1 ?_)
        rw [f3]
        walk_at "go"
        refine ⟨_, _, .same _, .same _, hs0, hs0, ?_⟩
        rw [eqD_rule]
        walk_at "go"
        refine ⟨d, x1, x2, x3, x4, x5, ?_⟩
        walk_at "go"
        rw [decide_eq_true rfl]
        exact dropX_id rfl
      · rename_i hb2
        have e2 : ruleN kd = "size" := if_neg (by omega)
        rw [e2] at f4 hsr
        have hx : cRepr [.lst [cprD (lawP kd lm), cprD (lawP kd (lm + 1))]] [] (fun w o => w = .str (toP (.lst [cprD (lawP kd lm), cprD (lawP kd (lm + 1))])).shown ∧ o = []) := sh_facts f5 ⟨rfl, rfl⟩
        obtain ⟨d, x1, x2, x3, x4, x5, _⟩ := hx
        walk_at "go"
        refine ⟨d, x1, x2, x3, x4, x5, ?_⟩
        walk_at "go"
        refine callX_none (w_ruleN W1 ?_)
        rw [f3]
        walk_at "go"
        refine ⟨_, _, .same _, .same _, hs0, hs0, ?_⟩
        rw [eqD_rule]
        walk_at "go"
        refine callX_none (w_ruleN W2 ?_)
        rw [f4]
        walk_at "go"
        refine ⟨_, _, .same _, .same _, hsr, hsr, ?_⟩
        rw [eqD_rule]
        walk_at "go"
        refine callX_none (w_ruleN W1 ?_)
        rw [f3]
        walk_at "go"
        refine ⟨_, _, .same _, .same _, hs0, hs0, ?_⟩
        rw [eqD_rule]
        walk_at "go"
        refine ⟨d, x1, x2, x3, x4, x5, ?_⟩
        walk_at "go"
        rw [decide_eq_true rfl]
        exact dropX_id rfl

end
/-- the law, whatever the classes are called -/
def LawT : FT := fun ws os k kx => ∀ CS : Nat → Addr, T_law CS ws os k kx
theorem all_mk {l : PySem.W.OpenLaw} {w : World} {K : PySem.W.Frag} {h : Heap} {mg : Str → Option Value} {fa : Addr} (X : K.In h) (G : h.Ns mainGlobals mg) (hfa : mg "law" = some (.ref fa))
    {A_RESERVED_1 : Addr} {n_RESERVED_1 : Nat} {sl_RESERVED_1 : Array (Option Value)}
    {t_RESERVED_2 : Tok}
    {t_RESERVED_3 : Tok}
    {t_RESERVED_4 : Tok}
    {t_RESERVED_5 : Tok}
    {t_RESERVED_6 : Tok}
    {t_RESERVED_7 : Tok}
    {t_RESERVED_8 : Tok}
    {t_RESERVED_9 : Tok}
    {t_RESERVED_10 : Tok}
    {t_RESERVED_11 : Tok}
    {t_RESERVED_12 : Tok}
    {t_RESERVED_13 : Tok}
    {t_RESERVED_14 : Tok}
    {t_RESERVED_15 : Tok}
    {t_RESERVED_16 : Tok}
    {t_RESERVED_17 : Tok}
    {t_RESERVED_18 : Tok}
    {t_RESERVED_19 : Tok}
    {t_RESERVED_20 : Tok}
    {t_RESERVED_21 : Tok}
    {t_RESERVED_22 : Tok}
    {t_RESERVED_23 : Tok}
    {t_RESERVED_24 : Tok}
    {t_VARIABLE : Tok}
    {t_LONGEST : Tok}
    {A_UNARY : Addr} {es_UNARY : Array DictEntry} {n_UNARY : Nat}
    {A_Checker : Addr}
    {A_RuleError : Addr}
    {xn_RuleError xq_RuleError : Str} {xN_RuleError : Addr} {xb_RuleError : List Value} {xs_RuleError : List Str} {xu_RuleError : List Value} {xa_RuleError : Bool} {xo_RuleError : Option Bool} {xd_RuleError : Option Addr} {x0_RuleError x1_RuleError x2_RuleError x3_RuleError x5_RuleError : Option Value}
    {A_DeadbeatError : Addr}
    {f_RuleError___init__ : Addr} {od_RuleError___init__ an_RuleError___init__ : Option Addr} {sl_RuleError___init__ : Array (Option Value)} {oc_RuleError___init__ kV_RuleError___init__ dc_RuleError___init__ pm_RuleError___init__ cd_RuleError___init__ ct_RuleError___init__ : Value}
    {f__law_operation : Addr} {od__law_operation an__law_operation : Option Addr} {sl__law_operation : Array (Option Value)} {oc__law_operation kV__law_operation dc__law_operation pm__law_operation cd__law_operation ct__law_operation : Value}
    {f__law_whole : Addr} {od__law_whole an__law_whole : Option Addr} {sl__law_whole : Array (Option Value)} {oc__law_whole kV__law_whole dc__law_whole pm__law_whole cd__law_whole ct__law_whole : Value}
    {f__law_rows : Addr} {od__law_rows an__law_rows : Option Addr} {sl__law_rows : Array (Option Value)} {oc__law_rows kV__law_rows dc__law_rows pm__law_rows cd__law_rows ct__law_rows : Value}
    {f__law_task : Addr} {od__law_task an__law_task : Option Addr} {sl__law_task : Array (Option Value)} {oc__law_task kV__law_task dc__law_task pm__law_task cd__law_task ct__law_task : Value}
    {f__law_counts : Addr} {od__law_counts an__law_counts : Option Addr} {sl__law_counts : Array (Option Value)} {oc__law_counts kV__law_counts dc__law_counts pm__law_counts cd__law_counts ct__law_counts : Value}
    {f__law_deep : Addr} {od__law_deep an__law_deep : Option Addr} {sl__law_deep : Array (Option Value)} {oc__law_deep kV__law_deep dc__law_deep pm__law_deep cd__law_deep ct__law_deep : Value}
    {f__law_loops : Addr} {od__law_loops an__law_loops : Option Addr} {sl__law_loops : Array (Option Value)} {oc__law_loops kV__law_loops dc__law_loops pm__law_loops cd__law_loops ct__law_loops : Value}
    {f__law_wide : Addr} {od__law_wide an__law_wide : Option Addr} {sl__law_wide : Array (Option Value)} {oc__law_wide kV__law_wide dc__law_wide pm__law_wide cd__law_wide ct__law_wide : Value}
    {f__law_unary : Addr} {od__law_unary an__law_unary : Option Addr} {sl__law_unary : Array (Option Value)} {oc__law_unary kV__law_unary dc__law_unary pm__law_unary cd__law_unary ct__law_unary : Value}
    {f__law_bodies : Addr} {od__law_bodies an__law_bodies : Option Addr} {sl__law_bodies : Array (Option Value)} {oc__law_bodies kV__law_bodies dc__law_bodies pm__law_bodies cd__law_bodies ct__law_bodies : Value}
    {f_Checker___init__ : Addr} {od_Checker___init__ an_Checker___init__ : Option Addr} {sl_Checker___init__ : Array (Option Value)} {oc_Checker___init__ kV_Checker___init__ dc_Checker___init__ pm_Checker___init__ cd_Checker___init__ ct_Checker___init__ : Value}
    {f__require : Addr} {od__require an__require : Option Addr} {sl__require : Array (Option Value)} {oc__require kV__require dc__require pm__require cd__require ct__require : Value}
    {f_is_reserved : Addr} {od_is_reserved an_is_reserved : Option Addr} {sl_is_reserved : Array (Option Value)} {oc_is_reserved kV_is_reserved dc_is_reserved pm_is_reserved cd_is_reserved ct_is_reserved : Value}
    {f_is_name : Addr} {od_is_name an_is_name : Option Addr} {sl_is_name : Array (Option Value)} {oc_is_name kV_is_name dc_is_name pm_is_name cd_is_name ct_is_name : Value}
    {f__check_ports : Addr} {od__check_ports an__check_ports : Option Addr} {sl__check_ports : Array (Option Value)} {oc__check_ports kV__check_ports dc__check_ports pm__check_ports cd__check_ports ct__check_ports : Value}
    {f__declare : Addr} {od__declare an__declare : Option Addr} {sl__declare : Array (Option Value)} {oc__declare kV__declare dc__declare pm__declare cd__declare ct__declare : Value}
    {f__count : Addr} {od__count an__count : Option Addr} {sl__count : Array (Option Value)} {oc__count kV__count dc__count pm__count cd__count ct__count : Value}
    {f__check_cells : Addr} {od__check_cells an__check_cells : Option Addr} {sl__check_cells : Array (Option Value)} {oc__check_cells kV__check_cells dc__check_cells pm__check_cells cd__check_cells ct__check_cells : Value}
    {f_parts : Addr} {od_parts an_parts : Option Addr} {sl_parts : Array (Option Value)} {oc_parts kV_parts dc_parts pm_parts cd_parts ct_parts : Value}
    {f_depth : Addr} {od_depth an_depth : Option Addr} {sl_depth : Array (Option Value)} {oc_depth kV_depth dc_depth pm_depth cd_depth ct_depth : Value}
    {f_size : Addr} {od_size an_size : Option Addr} {sl_size : Array (Option Value)} {oc_size kV_size dc_size pm_size cd_size ct_size : Value}
    {f__check_expression : Addr} {od__check_expression an__check_expression : Option Addr} {sl__check_expression : Array (Option Value)} {oc__check_expression kV__check_expression dc__check_expression pm__check_expression cd__check_expression ct__check_expression : Value}
    {f__check_index : Addr} {od__check_index an__check_index : Option Addr} {sl__check_index : Array (Option Value)} {oc__check_index kV__check_index dc__check_index pm__check_index cd__check_index ct__check_index : Value}
    {f__check_place : Addr} {od__check_place an__check_place : Option Addr} {sl__check_place : Array (Option Value)} {oc__check_place kV__check_place dc__check_place pm__check_place cd__check_place ct__check_place : Value}
    {f_find : Addr} {od_find an_find : Option Addr} {sl_find : Array (Option Value)} {oc_find kV_find dc_find pm_find cd_find ct_find : Value}
    {f_check_call : Addr} {od_check_call an_check_call : Option Addr} {sl_check_call : Array (Option Value)} {oc_check_call kV_check_call dc_check_call pm_check_call cd_check_call ct_check_call : Value}
    {f_Checker_call : Addr} {od_Checker_call an_Checker_call : Option Addr} {sl_Checker_call : Array (Option Value)} {oc_Checker_call kV_Checker_call dc_Checker_call pm_Checker_call cd_Checker_call ct_Checker_call : Value}
    {f_Checker_transfer : Addr} {od_Checker_transfer an_Checker_transfer : Option Addr} {sl_Checker_transfer : Array (Option Value)} {oc_Checker_transfer kV_Checker_transfer dc_Checker_transfer pm_Checker_transfer cd_Checker_transfer ct_Checker_transfer : Value}
    {f_Checker_statements : Addr} {od_Checker_statements an_Checker_statements : Option Addr} {sl_Checker_statements : Array (Option Value)} {oc_Checker_statements kV_Checker_statements dc_Checker_statements pm_Checker_statements cd_Checker_statements ct_Checker_statements : Value}
    {f_Checker_loop : Addr} {od_Checker_loop an_Checker_loop : Option Addr} {sl_Checker_loop : Array (Option Value)} {oc_Checker_loop kV_Checker_loop dc_Checker_loop pm_Checker_loop cd_Checker_loop ct_Checker_loop : Value}
    {f_Checker_body : Addr} {od_Checker_body an_Checker_body : Option Addr} {sl_Checker_body : Array (Option Value)} {oc_Checker_body kV_Checker_body dc_Checker_body pm_Checker_body cd_Checker_body ct_Checker_body : Value}
    {f__check_operation : Addr} {od__check_operation an__check_operation : Option Addr} {sl__check_operation : Array (Option Value)} {oc__check_operation kV__check_operation dc__check_operation pm__check_operation cd__check_operation ct__check_operation : Value}
    {f__check_objects : Addr} {od__check_objects an__check_objects : Option Addr} {sl__check_objects : Array (Option Value)} {oc__check_objects kV__check_objects dc__check_objects pm__check_objects cd__check_objects ct__check_objects : Value}
    {f__check_times : Addr} {od__check_times an__check_times : Option Addr} {sl__check_times : Array (Option Value)} {oc__check_times kV__check_times dc__check_times pm__check_times cd__check_times ct__check_times : Value}
    {f_check : Addr} {od_check an_check : Option Addr} {sl_check : Array (Option Value)} {oc_check kV_check dc_check pm_check cd_check ct_check : Value}
    {f__law_rule : Addr} {od__law_rule an__law_rule : Option Addr} {sl__law_rule : Array (Option Value)} {oc__law_rule kV__law_rule dc__law_rule pm__law_rule cd__law_rule ct__law_rule : Value}
    {f_law : Addr} {od_law an_law : Option Addr} {sl_law : Array (Option Value)} {oc_law kV_law dc_law pm_law cd_law ct_law : Value}
    (m_RESERVED : PySem.W.nsIn K mainGlobals "RESERVED" = some (some (.ref A_RESERVED_1)))
    (u_RESERVED_1 : K.lookup A_RESERVED_1 = some ⟨.type "tuple", none, .seq #[.str "system" t_RESERVED_2, .str "in" t_RESERVED_3, .str "out" t_RESERVED_4, .str "object" t_RESERVED_5, .str "cell" t_RESERVED_6, .str "operation" t_RESERVED_7, .str "give" t_RESERVED_8, .str "end" t_RESERVED_9, .str "task" t_RESERVED_10, .str "every" t_RESERVED_11, .str "within" t_RESERVED_12, .str "if" t_RESERVED_13, .str "else" t_RESERVED_14, .str "loop" t_RESERVED_15, .str "to" t_RESERVED_16, .str "while" t_RESERVED_17, .str "read" t_RESERVED_18, .str "write" t_RESERVED_19, .str "interrupt" t_RESERVED_20, .str "calls" t_RESERVED_21, .str "mod" t_RESERVED_22, .str "and" t_RESERVED_23, .str "or" t_RESERVED_24] n_RESERVED_1, sl_RESERVED_1⟩)
    (m_VARIABLE : PySem.W.nsIn K mainGlobals "VARIABLE" = some (some (.int (-1) t_VARIABLE)))
    (m_LONGEST : PySem.W.nsIn K mainGlobals "LONGEST" = some (some (.int 4194304 t_LONGEST)))
    (m_UNARY : PySem.W.nsIn K mainGlobals "UNARY" = some (some (.ref A_UNARY)))
    (u_UNARY : K.lookup A_UNARY = some ⟨.type "dict", none, .dict es_UNARY n_UNARY, #[]⟩)
    (y_UNARY : PySem.W.KeysLit w.params es_UNARY.toList)
    (q_UNARY : keyNames es_UNARY.toList = (["neg", "inv", "not"] : List Str))
    (lw_UNARY : (A_UNARY == sysModules) = false)
    (z_range : PySem.W.nsIn K mainGlobals "range" = some none)
    (z_str : PySem.W.nsIn K mainGlobals "str" = some none)
    (z_len : PySem.W.nsIn K mainGlobals "len" = some none)
    (z_enumerate : PySem.W.nsIn K mainGlobals "enumerate" = some none)
    (z_max : PySem.W.nsIn K mainGlobals "max" = some none)
    (z_sum : PySem.W.nsIn K mainGlobals "sum" = some none)
    (z_abs : PySem.W.nsIn K mainGlobals "abs" = some none)
    (z_int : PySem.W.nsIn K mainGlobals "int" = some none)
    (z_repr : PySem.W.nsIn K mainGlobals "repr" = some none)
    (aC_Checker : PySem.W.nsIn K mainGlobals "Checker" = some (some (.ref A_Checker)))
    (pg_Checker : PySem.W.plainGet K A_Checker Str.empty = true)
    (hd_Checker : PySem.W.hasDictIn K A_Checker = true)
    (po_Checker : PySem.W.plainOver K A_Checker = true)
    (sa_Checker : PySem.W.findIn K (.ref A_Checker) "__setattr__" = some (some (.builtin "object.__setattr__")))
    (mk_Checker : PySem.W.makesIn K A_Checker = true)
    (kc_Checker : PySem.W.keepIn K (.ref A_Checker) = true)
    (nF_ports_Checker : PySem.W.findIn K (.ref A_Checker) "ports" = some none)
    (nF_objects_Checker : PySem.W.findIn K (.ref A_Checker) "objects" = some none)
    (aC_RuleError : PySem.W.nsIn K mainGlobals "RuleError" = some (some (.ref A_RuleError)))
    (tC_RuleError : PySem.W.typeIn K (.ref A_RuleError) = some (.type "type"))
    (be_RuleError : PySem.W.subIn K (.ref A_RuleError) (.type "BaseException") = some true)
    (no_RuleError : PySem.W.findIn K (.ref A_RuleError) "rule" = some none)
    (xL_RuleError : K.lookup A_RuleError = some (excClassObj xn_RuleError xq_RuleError A_RuleError xN_RuleError xb_RuleError [.ref A_DeadbeatError, .type "ValueError", .type "Exception", .type "BaseException", .type "object"] true xs_RuleError xu_RuleError xa_RuleError xo_RuleError xd_RuleError x0_RuleError x1_RuleError x2_RuleError x3_RuleError x5_RuleError "ValueError.__new__"))
    (sa_RuleError : PySem.W.findIn K (.ref A_RuleError) "__setattr__" = some (some (.builtin "object.__setattr__")))
    (kC_RuleError : PySem.W.keepIn K (.ref A_RuleError) = true)
    (ga_RuleError : PySem.W.findIn K (.ref A_RuleError) "__getattribute__" = some (some (.builtin "BaseException.__getattribute__")))
    (gg_RuleError : PySem.W.findIn K (.ref A_RuleError) "__getattr__" = some none)
    (hD_RuleError : PySem.W.hasDictIn K A_RuleError = true)
    (iC_RuleError : PySem.W.isClsIn K A_RuleError = true)
    (sC_RuleError : PySem.W.subIn K (.ref A_RuleError) (.ref A_RuleError) = some true)
    (cl_RuleError : PySem.W.findIn K (.ref A_RuleError) "__class__" = some (some (.builtin "object.__class__")))
    (mo_RuleError : PySem.W.mroIn K A_RuleError (.type "object") = some true)
    (aC_DeadbeatError : PySem.W.nsIn K mainGlobals "DeadbeatError" = some (some (.ref A_DeadbeatError)))
    (tC_DeadbeatError : PySem.W.typeIn K (.ref A_DeadbeatError) = some (.type "type"))
    (rd_DeadbeatError : PySem.W.readsIn K A_DeadbeatError (.type "type") = true)
    (sg_DeadbeatError : PySem.W.specialIn K (.ref A_DeadbeatError) "__getattribute__" = some (some (.builtin "type.__getattribute__")))
    (fc_DeadbeatError : PySem.W.findCls K (.ref A_DeadbeatError) (.type "type") "__init__" = some (.val (.builtin "ValueError.__init__")))
    (gn : PySem.W.specialIn K (.builtin "object.__class__") "__get__" = some (some (.builtin "getset_descriptor.__get__")))
    (gt : PySem.W.takesIn K (.builtin "object.__class__") = some true)
    (a_RuleError___init__ : PySem.W.findIn K (.ref A_RuleError) "__init__" = some (some (.ref f_RuleError___init__)))
    (t_RuleError___init__ : PySem.W.typeIn K (.ref f_RuleError___init__) = some (.type "function"))
    (l_RuleError___init__ : K.lookup f_RuleError___init__ = some ⟨oc_RuleError___init__, od_RuleError___init__, .func (PySem.W.fnOf "__init__" "RuleError.__init__" (defArgs s_RuleError___init__) (defBody s_RuleError___init__) (defScope s_RuleError___init__) .none kV_RuleError___init__ dc_RuleError___init__ pm_RuleError___init__ an_RuleError___init__ cd_RuleError___init__ ct_RuleError___init__), sl_RuleError___init__⟩)
    (c_RuleError___init__ : PySem.W.codeIn K cd_RuleError___init__ "RuleError.__init__" = true)
    (k_RuleError___init__ : PySem.W.keepIn K (.ref f_RuleError___init__) = true)
    (a__law_operation : PySem.W.nsIn K mainGlobals "_law_operation" = some (some (.ref f__law_operation)))
    (l__law_operation : K.lookup f__law_operation = some ⟨oc__law_operation, od__law_operation, .func (PySem.W.fnOf "_law_operation" "_law_operation" (defArgs s__law_operation) (defBody s__law_operation) (defScope s__law_operation) .none kV__law_operation dc__law_operation pm__law_operation an__law_operation cd__law_operation ct__law_operation), sl__law_operation⟩)
    (c__law_operation : PySem.W.codeIn K cd__law_operation "_law_operation" = true)
    (k__law_operation : PySem.W.keepIn K (.ref f__law_operation) = true)
    (a__law_whole : PySem.W.nsIn K mainGlobals "_law_whole" = some (some (.ref f__law_whole)))
    (l__law_whole : K.lookup f__law_whole = some ⟨oc__law_whole, od__law_whole, .func (PySem.W.fnOf "_law_whole" "_law_whole" (defArgs s__law_whole) (defBody s__law_whole) (defScope s__law_whole) .none kV__law_whole dc__law_whole pm__law_whole an__law_whole cd__law_whole ct__law_whole), sl__law_whole⟩)
    (c__law_whole : PySem.W.codeIn K cd__law_whole "_law_whole" = true)
    (k__law_whole : PySem.W.keepIn K (.ref f__law_whole) = true)
    (a__law_rows : PySem.W.nsIn K mainGlobals "_law_rows" = some (some (.ref f__law_rows)))
    (l__law_rows : K.lookup f__law_rows = some ⟨oc__law_rows, od__law_rows, .func (PySem.W.fnOf "_law_rows" "_law_rows" (defArgs s__law_rows) (defBody s__law_rows) (defScope s__law_rows) .none kV__law_rows dc__law_rows pm__law_rows an__law_rows cd__law_rows ct__law_rows), sl__law_rows⟩)
    (c__law_rows : PySem.W.codeIn K cd__law_rows "_law_rows" = true)
    (k__law_rows : PySem.W.keepIn K (.ref f__law_rows) = true)
    (a__law_task : PySem.W.nsIn K mainGlobals "_law_task" = some (some (.ref f__law_task)))
    (l__law_task : K.lookup f__law_task = some ⟨oc__law_task, od__law_task, .func (PySem.W.fnOf "_law_task" "_law_task" (defArgs s__law_task) (defBody s__law_task) (defScope s__law_task) .none kV__law_task dc__law_task pm__law_task an__law_task cd__law_task ct__law_task), sl__law_task⟩)
    (c__law_task : PySem.W.codeIn K cd__law_task "_law_task" = true)
    (k__law_task : PySem.W.keepIn K (.ref f__law_task) = true)
    (a__law_counts : PySem.W.nsIn K mainGlobals "_law_counts" = some (some (.ref f__law_counts)))
    (l__law_counts : K.lookup f__law_counts = some ⟨oc__law_counts, od__law_counts, .func (PySem.W.fnOf "_law_counts" "_law_counts" (defArgs s__law_counts) (defBody s__law_counts) (defScope s__law_counts) .none kV__law_counts dc__law_counts pm__law_counts an__law_counts cd__law_counts ct__law_counts), sl__law_counts⟩)
    (c__law_counts : PySem.W.codeIn K cd__law_counts "_law_counts" = true)
    (k__law_counts : PySem.W.keepIn K (.ref f__law_counts) = true)
    (a__law_deep : PySem.W.nsIn K mainGlobals "_law_deep" = some (some (.ref f__law_deep)))
    (l__law_deep : K.lookup f__law_deep = some ⟨oc__law_deep, od__law_deep, .func (PySem.W.fnOf "_law_deep" "_law_deep" (defArgs s__law_deep) (defBody s__law_deep) (defScope s__law_deep) .none kV__law_deep dc__law_deep pm__law_deep an__law_deep cd__law_deep ct__law_deep), sl__law_deep⟩)
    (c__law_deep : PySem.W.codeIn K cd__law_deep "_law_deep" = true)
    (k__law_deep : PySem.W.keepIn K (.ref f__law_deep) = true)
    (a__law_loops : PySem.W.nsIn K mainGlobals "_law_loops" = some (some (.ref f__law_loops)))
    (l__law_loops : K.lookup f__law_loops = some ⟨oc__law_loops, od__law_loops, .func (PySem.W.fnOf "_law_loops" "_law_loops" (defArgs s__law_loops) (defBody s__law_loops) (defScope s__law_loops) .none kV__law_loops dc__law_loops pm__law_loops an__law_loops cd__law_loops ct__law_loops), sl__law_loops⟩)
    (c__law_loops : PySem.W.codeIn K cd__law_loops "_law_loops" = true)
    (k__law_loops : PySem.W.keepIn K (.ref f__law_loops) = true)
    (a__law_wide : PySem.W.nsIn K mainGlobals "_law_wide" = some (some (.ref f__law_wide)))
    (l__law_wide : K.lookup f__law_wide = some ⟨oc__law_wide, od__law_wide, .func (PySem.W.fnOf "_law_wide" "_law_wide" (defArgs s__law_wide) (defBody s__law_wide) (defScope s__law_wide) .none kV__law_wide dc__law_wide pm__law_wide an__law_wide cd__law_wide ct__law_wide), sl__law_wide⟩)
    (c__law_wide : PySem.W.codeIn K cd__law_wide "_law_wide" = true)
    (k__law_wide : PySem.W.keepIn K (.ref f__law_wide) = true)
    (a__law_unary : PySem.W.nsIn K mainGlobals "_law_unary" = some (some (.ref f__law_unary)))
    (l__law_unary : K.lookup f__law_unary = some ⟨oc__law_unary, od__law_unary, .func (PySem.W.fnOf "_law_unary" "_law_unary" (defArgs s__law_unary) (defBody s__law_unary) (defScope s__law_unary) .none kV__law_unary dc__law_unary pm__law_unary an__law_unary cd__law_unary ct__law_unary), sl__law_unary⟩)
    (c__law_unary : PySem.W.codeIn K cd__law_unary "_law_unary" = true)
    (k__law_unary : PySem.W.keepIn K (.ref f__law_unary) = true)
    (a__law_bodies : PySem.W.nsIn K mainGlobals "_law_bodies" = some (some (.ref f__law_bodies)))
    (l__law_bodies : K.lookup f__law_bodies = some ⟨oc__law_bodies, od__law_bodies, .func (PySem.W.fnOf "_law_bodies" "_law_bodies" (defArgs s__law_bodies) (defBody s__law_bodies) (defScope s__law_bodies) .none kV__law_bodies dc__law_bodies pm__law_bodies an__law_bodies cd__law_bodies ct__law_bodies), sl__law_bodies⟩)
    (c__law_bodies : PySem.W.codeIn K cd__law_bodies "_law_bodies" = true)
    (k__law_bodies : PySem.W.keepIn K (.ref f__law_bodies) = true)
    (a_Checker___init__ : PySem.W.findIn K (.ref A_Checker) "__init__" = some (some (.ref f_Checker___init__)))
    (i_Checker___init__ : PySem.W.isFn K (.ref f_Checker___init__) = true)
    (l_Checker___init__ : K.lookup f_Checker___init__ = some ⟨oc_Checker___init__, od_Checker___init__, .func (PySem.W.fnOf "__init__" "Checker.__init__" (defArgs s_Checker___init__) (defBody s_Checker___init__) (defScope s_Checker___init__) .none kV_Checker___init__ dc_Checker___init__ pm_Checker___init__ an_Checker___init__ cd_Checker___init__ ct_Checker___init__), sl_Checker___init__⟩)
    (c_Checker___init__ : PySem.W.codeIn K cd_Checker___init__ "Checker.__init__" = true)
    (k_Checker___init__ : PySem.W.keepIn K (.ref f_Checker___init__) = true)
    (a__require : PySem.W.nsIn K mainGlobals "_require" = some (some (.ref f__require)))
    (l__require : K.lookup f__require = some ⟨oc__require, od__require, .func (PySem.W.fnOf "_require" "_require" (defArgs s__require) (defBody s__require) (defScope s__require) .none kV__require dc__require pm__require an__require cd__require ct__require), sl__require⟩)
    (c__require : PySem.W.codeIn K cd__require "_require" = true)
    (k__require : PySem.W.keepIn K (.ref f__require) = true)
    (a_is_reserved : PySem.W.nsIn K mainGlobals "is_reserved" = some (some (.ref f_is_reserved)))
    (l_is_reserved : K.lookup f_is_reserved = some ⟨oc_is_reserved, od_is_reserved, .func (PySem.W.fnOf "is_reserved" "is_reserved" (defArgs s_is_reserved) (defBody s_is_reserved) (defScope s_is_reserved) .none kV_is_reserved dc_is_reserved pm_is_reserved an_is_reserved cd_is_reserved ct_is_reserved), sl_is_reserved⟩)
    (c_is_reserved : PySem.W.codeIn K cd_is_reserved "is_reserved" = true)
    (k_is_reserved : PySem.W.keepIn K (.ref f_is_reserved) = true)
    (a_is_name : PySem.W.nsIn K mainGlobals "is_name" = some (some (.ref f_is_name)))
    (l_is_name : K.lookup f_is_name = some ⟨oc_is_name, od_is_name, .func (PySem.W.fnOf "is_name" "is_name" (defArgs s_is_name) (defBody s_is_name) (defScope s_is_name) .none kV_is_name dc_is_name pm_is_name an_is_name cd_is_name ct_is_name), sl_is_name⟩)
    (c_is_name : PySem.W.codeIn K cd_is_name "is_name" = true)
    (k_is_name : PySem.W.keepIn K (.ref f_is_name) = true)
    (a__check_ports : PySem.W.nsIn K mainGlobals "_check_ports" = some (some (.ref f__check_ports)))
    (l__check_ports : K.lookup f__check_ports = some ⟨oc__check_ports, od__check_ports, .func (PySem.W.fnOf "_check_ports" "_check_ports" (defArgs s__check_ports) (defBody s__check_ports) (defScope s__check_ports) .none kV__check_ports dc__check_ports pm__check_ports an__check_ports cd__check_ports ct__check_ports), sl__check_ports⟩)
    (c__check_ports : PySem.W.codeIn K cd__check_ports "_check_ports" = true)
    (k__check_ports : PySem.W.keepIn K (.ref f__check_ports) = true)
    (a__declare : PySem.W.nsIn K mainGlobals "_declare" = some (some (.ref f__declare)))
    (l__declare : K.lookup f__declare = some ⟨oc__declare, od__declare, .func (PySem.W.fnOf "_declare" "_declare" (defArgs s__declare) (defBody s__declare) (defScope s__declare) .none kV__declare dc__declare pm__declare an__declare cd__declare ct__declare), sl__declare⟩)
    (c__declare : PySem.W.codeIn K cd__declare "_declare" = true)
    (k__declare : PySem.W.keepIn K (.ref f__declare) = true)
    (a__count : PySem.W.nsIn K mainGlobals "_count" = some (some (.ref f__count)))
    (l__count : K.lookup f__count = some ⟨oc__count, od__count, .func (PySem.W.fnOf "_count" "_count" (defArgs s__count) (defBody s__count) (defScope s__count) .none kV__count dc__count pm__count an__count cd__count ct__count), sl__count⟩)
    (c__count : PySem.W.codeIn K cd__count "_count" = true)
    (k__count : PySem.W.keepIn K (.ref f__count) = true)
    (a__check_cells : PySem.W.nsIn K mainGlobals "_check_cells" = some (some (.ref f__check_cells)))
    (l__check_cells : K.lookup f__check_cells = some ⟨oc__check_cells, od__check_cells, .func (PySem.W.fnOf "_check_cells" "_check_cells" (defArgs s__check_cells) (defBody s__check_cells) (defScope s__check_cells) .none kV__check_cells dc__check_cells pm__check_cells an__check_cells cd__check_cells ct__check_cells), sl__check_cells⟩)
    (c__check_cells : PySem.W.codeIn K cd__check_cells "_check_cells" = true)
    (k__check_cells : PySem.W.keepIn K (.ref f__check_cells) = true)
    (a_parts : PySem.W.nsIn K mainGlobals "parts" = some (some (.ref f_parts)))
    (l_parts : K.lookup f_parts = some ⟨oc_parts, od_parts, .func (PySem.W.fnOf "parts" "parts" (defArgs s_parts) (defBody s_parts) (defScope s_parts) .none kV_parts dc_parts pm_parts an_parts cd_parts ct_parts), sl_parts⟩)
    (c_parts : PySem.W.codeIn K cd_parts "parts" = true)
    (k_parts : PySem.W.keepIn K (.ref f_parts) = true)
    (a_depth : PySem.W.nsIn K mainGlobals "depth" = some (some (.ref f_depth)))
    (l_depth : K.lookup f_depth = some ⟨oc_depth, od_depth, .func (PySem.W.fnOf "depth" "depth" (defArgs s_depth) (defBody s_depth) (defScope s_depth) .none kV_depth dc_depth pm_depth an_depth cd_depth ct_depth), sl_depth⟩)
    (c_depth : PySem.W.codeIn K cd_depth "depth" = true)
    (k_depth : PySem.W.keepIn K (.ref f_depth) = true)
    (a_size : PySem.W.nsIn K mainGlobals "size" = some (some (.ref f_size)))
    (l_size : K.lookup f_size = some ⟨oc_size, od_size, .func (PySem.W.fnOf "size" "size" (defArgs s_size) (defBody s_size) (defScope s_size) .none kV_size dc_size pm_size an_size cd_size ct_size), sl_size⟩)
    (c_size : PySem.W.codeIn K cd_size "size" = true)
    (k_size : PySem.W.keepIn K (.ref f_size) = true)
    (a__check_expression : PySem.W.nsIn K mainGlobals "_check_expression" = some (some (.ref f__check_expression)))
    (l__check_expression : K.lookup f__check_expression = some ⟨oc__check_expression, od__check_expression, .func (PySem.W.fnOf "_check_expression" "_check_expression" (defArgs s__check_expression) (defBody s__check_expression) (defScope s__check_expression) .none kV__check_expression dc__check_expression pm__check_expression an__check_expression cd__check_expression ct__check_expression), sl__check_expression⟩)
    (c__check_expression : PySem.W.codeIn K cd__check_expression "_check_expression" = true)
    (k__check_expression : PySem.W.keepIn K (.ref f__check_expression) = true)
    (a__check_index : PySem.W.nsIn K mainGlobals "_check_index" = some (some (.ref f__check_index)))
    (l__check_index : K.lookup f__check_index = some ⟨oc__check_index, od__check_index, .func (PySem.W.fnOf "_check_index" "_check_index" (defArgs s__check_index) (defBody s__check_index) (defScope s__check_index) .none kV__check_index dc__check_index pm__check_index an__check_index cd__check_index ct__check_index), sl__check_index⟩)
    (c__check_index : PySem.W.codeIn K cd__check_index "_check_index" = true)
    (k__check_index : PySem.W.keepIn K (.ref f__check_index) = true)
    (a__check_place : PySem.W.nsIn K mainGlobals "_check_place" = some (some (.ref f__check_place)))
    (l__check_place : K.lookup f__check_place = some ⟨oc__check_place, od__check_place, .func (PySem.W.fnOf "_check_place" "_check_place" (defArgs s__check_place) (defBody s__check_place) (defScope s__check_place) .none kV__check_place dc__check_place pm__check_place an__check_place cd__check_place ct__check_place), sl__check_place⟩)
    (c__check_place : PySem.W.codeIn K cd__check_place "_check_place" = true)
    (k__check_place : PySem.W.keepIn K (.ref f__check_place) = true)
    (a_find : PySem.W.nsIn K mainGlobals "find" = some (some (.ref f_find)))
    (l_find : K.lookup f_find = some ⟨oc_find, od_find, .func (PySem.W.fnOf "find" "find" (defArgs s_find) (defBody s_find) (defScope s_find) .none kV_find dc_find pm_find an_find cd_find ct_find), sl_find⟩)
    (c_find : PySem.W.codeIn K cd_find "find" = true)
    (k_find : PySem.W.keepIn K (.ref f_find) = true)
    (a_check_call : PySem.W.nsIn K mainGlobals "check_call" = some (some (.ref f_check_call)))
    (l_check_call : K.lookup f_check_call = some ⟨oc_check_call, od_check_call, .func (PySem.W.fnOf "check_call" "check_call" (defArgs s_check_call) (defBody s_check_call) (defScope s_check_call) .none kV_check_call dc_check_call pm_check_call an_check_call cd_check_call ct_check_call), sl_check_call⟩)
    (c_check_call : PySem.W.codeIn K cd_check_call "check_call" = true)
    (k_check_call : PySem.W.keepIn K (.ref f_check_call) = true)
    (a_Checker_call : PySem.W.findIn K (.ref A_Checker) "call" = some (some (.ref f_Checker_call)))
    (i_Checker_call : PySem.W.isFn K (.ref f_Checker_call) = true)
    (l_Checker_call : K.lookup f_Checker_call = some ⟨oc_Checker_call, od_Checker_call, .func (PySem.W.fnOf "call" "Checker.call" (defArgs s_Checker_call) (defBody s_Checker_call) (defScope s_Checker_call) .none kV_Checker_call dc_Checker_call pm_Checker_call an_Checker_call cd_Checker_call ct_Checker_call), sl_Checker_call⟩)
    (c_Checker_call : PySem.W.codeIn K cd_Checker_call "Checker.call" = true)
    (k_Checker_call : PySem.W.keepIn K (.ref f_Checker_call) = true)
    (a_Checker_transfer : PySem.W.findIn K (.ref A_Checker) "transfer" = some (some (.ref f_Checker_transfer)))
    (i_Checker_transfer : PySem.W.isFn K (.ref f_Checker_transfer) = true)
    (l_Checker_transfer : K.lookup f_Checker_transfer = some ⟨oc_Checker_transfer, od_Checker_transfer, .func (PySem.W.fnOf "transfer" "Checker.transfer" (defArgs s_Checker_transfer) (defBody s_Checker_transfer) (defScope s_Checker_transfer) .none kV_Checker_transfer dc_Checker_transfer pm_Checker_transfer an_Checker_transfer cd_Checker_transfer ct_Checker_transfer), sl_Checker_transfer⟩)
    (c_Checker_transfer : PySem.W.codeIn K cd_Checker_transfer "Checker.transfer" = true)
    (k_Checker_transfer : PySem.W.keepIn K (.ref f_Checker_transfer) = true)
    (a_Checker_statements : PySem.W.findIn K (.ref A_Checker) "statements" = some (some (.ref f_Checker_statements)))
    (i_Checker_statements : PySem.W.isFn K (.ref f_Checker_statements) = true)
    (l_Checker_statements : K.lookup f_Checker_statements = some ⟨oc_Checker_statements, od_Checker_statements, .func (PySem.W.fnOf "statements" "Checker.statements" (defArgs s_Checker_statements) (defBody s_Checker_statements) (defScope s_Checker_statements) .none kV_Checker_statements dc_Checker_statements pm_Checker_statements an_Checker_statements cd_Checker_statements ct_Checker_statements), sl_Checker_statements⟩)
    (c_Checker_statements : PySem.W.codeIn K cd_Checker_statements "Checker.statements" = true)
    (k_Checker_statements : PySem.W.keepIn K (.ref f_Checker_statements) = true)
    (a_Checker_loop : PySem.W.findIn K (.ref A_Checker) "loop" = some (some (.ref f_Checker_loop)))
    (i_Checker_loop : PySem.W.isFn K (.ref f_Checker_loop) = true)
    (l_Checker_loop : K.lookup f_Checker_loop = some ⟨oc_Checker_loop, od_Checker_loop, .func (PySem.W.fnOf "loop" "Checker.loop" (defArgs s_Checker_loop) (defBody s_Checker_loop) (defScope s_Checker_loop) .none kV_Checker_loop dc_Checker_loop pm_Checker_loop an_Checker_loop cd_Checker_loop ct_Checker_loop), sl_Checker_loop⟩)
    (c_Checker_loop : PySem.W.codeIn K cd_Checker_loop "Checker.loop" = true)
    (k_Checker_loop : PySem.W.keepIn K (.ref f_Checker_loop) = true)
    (a_Checker_body : PySem.W.findIn K (.ref A_Checker) "body" = some (some (.ref f_Checker_body)))
    (i_Checker_body : PySem.W.isFn K (.ref f_Checker_body) = true)
    (l_Checker_body : K.lookup f_Checker_body = some ⟨oc_Checker_body, od_Checker_body, .func (PySem.W.fnOf "body" "Checker.body" (defArgs s_Checker_body) (defBody s_Checker_body) (defScope s_Checker_body) .none kV_Checker_body dc_Checker_body pm_Checker_body an_Checker_body cd_Checker_body ct_Checker_body), sl_Checker_body⟩)
    (c_Checker_body : PySem.W.codeIn K cd_Checker_body "Checker.body" = true)
    (k_Checker_body : PySem.W.keepIn K (.ref f_Checker_body) = true)
    (a__check_operation : PySem.W.nsIn K mainGlobals "_check_operation" = some (some (.ref f__check_operation)))
    (l__check_operation : K.lookup f__check_operation = some ⟨oc__check_operation, od__check_operation, .func (PySem.W.fnOf "_check_operation" "_check_operation" (defArgs s__check_operation) (defBody s__check_operation) (defScope s__check_operation) .none kV__check_operation dc__check_operation pm__check_operation an__check_operation cd__check_operation ct__check_operation), sl__check_operation⟩)
    (c__check_operation : PySem.W.codeIn K cd__check_operation "_check_operation" = true)
    (k__check_operation : PySem.W.keepIn K (.ref f__check_operation) = true)
    (a__check_objects : PySem.W.nsIn K mainGlobals "_check_objects" = some (some (.ref f__check_objects)))
    (l__check_objects : K.lookup f__check_objects = some ⟨oc__check_objects, od__check_objects, .func (PySem.W.fnOf "_check_objects" "_check_objects" (defArgs s__check_objects) (defBody s__check_objects) (defScope s__check_objects) .none kV__check_objects dc__check_objects pm__check_objects an__check_objects cd__check_objects ct__check_objects), sl__check_objects⟩)
    (c__check_objects : PySem.W.codeIn K cd__check_objects "_check_objects" = true)
    (k__check_objects : PySem.W.keepIn K (.ref f__check_objects) = true)
    (a__check_times : PySem.W.nsIn K mainGlobals "_check_times" = some (some (.ref f__check_times)))
    (l__check_times : K.lookup f__check_times = some ⟨oc__check_times, od__check_times, .func (PySem.W.fnOf "_check_times" "_check_times" (defArgs s__check_times) (defBody s__check_times) (defScope s__check_times) .none kV__check_times dc__check_times pm__check_times an__check_times cd__check_times ct__check_times), sl__check_times⟩)
    (c__check_times : PySem.W.codeIn K cd__check_times "_check_times" = true)
    (k__check_times : PySem.W.keepIn K (.ref f__check_times) = true)
    (a_check : PySem.W.nsIn K mainGlobals "check" = some (some (.ref f_check)))
    (l_check : K.lookup f_check = some ⟨oc_check, od_check, .func (PySem.W.fnOf "check" "check" (defArgs s_check) (defBody s_check) (defScope s_check) .none kV_check dc_check pm_check an_check cd_check ct_check), sl_check⟩)
    (c_check : PySem.W.codeIn K cd_check "check" = true)
    (k_check : PySem.W.keepIn K (.ref f_check) = true)
    (a__law_rule : PySem.W.nsIn K mainGlobals "_law_rule" = some (some (.ref f__law_rule)))
    (l__law_rule : K.lookup f__law_rule = some ⟨oc__law_rule, od__law_rule, .func (PySem.W.fnOf "_law_rule" "_law_rule" (defArgs s__law_rule) (defBody s__law_rule) (defScope s__law_rule) .none kV__law_rule dc__law_rule pm__law_rule an__law_rule cd__law_rule ct__law_rule), sl__law_rule⟩)
    (c__law_rule : PySem.W.codeIn K cd__law_rule "_law_rule" = true)
    (k__law_rule : PySem.W.keepIn K (.ref f__law_rule) = true)
    (a_law : PySem.W.nsIn K mainGlobals "law" = some (some (.ref f_law)))
    (l_law : K.lookup f_law = some ⟨oc_law, od_law, .func (PySem.W.fnOf "law" "law" (defArgs s_law) (defBody s_law) (defScope s_law) .none kV_law dc_law pm_law an_law cd_law ct_law), sl_law⟩)
    (c_law : PySem.W.codeIn K cd_law "law" = true)
    (k_law : PySem.W.keepIn K (.ref f_law) = true)
    : ∃ fd : FuncData, (∀ (s : Shared) (v : Value), BindsTo s fd ⟨[v], []⟩ [("_law_script", v)]) ∧ ∀ base : Heap, K.In base → base.Ns mainGlobals mg → SysIn base → FnAt l.prog w K mg base 44 fa fd ["_law_script"] (spX K 1 LawT) := by
  have e := hfa.symm.trans (PySem.W.mg_of X G a_law)
  cases e
  obtain ⟨CS, hCS⟩ : ∃ CS : Nat → Addr, CS = fun i => match i with | 0 => A_Checker | 2 => A_RuleError | 1 => A_DeadbeatError | 3 => A_UNARY | _ => 0 := ⟨_, rfl⟩
  have T : Txt w K mg CS := by subst hCS; exact ⟨glb_tup (PySem.W.mg_of X G m_RESERVED) (fun V0 => rp_fix (xs := [.str "system", .str "in", .str "out", .str "object", .str "cell", .str "operation", .str "give", .str "end", .str "task", .str "every", .str "within", .str "if", .str "else", .str "loop", .str "to", .str "while", .str "read", .str "write", .str "interrupt", .str "calls", .str "mod", .str "and", .str "or"]) u_RESERVED_1 (Nat.le_of_ble_eq_true rfl) (.cons (⟨_, rfl⟩) (.cons (⟨_, rfl⟩) (.cons (⟨_, rfl⟩) (.cons (⟨_, rfl⟩) (.cons (⟨_, rfl⟩) (.cons (⟨_, rfl⟩) (.cons (⟨_, rfl⟩) (.cons (⟨_, rfl⟩) (.cons (⟨_, rfl⟩) (.cons (⟨_, rfl⟩) (.cons (⟨_, rfl⟩) (.cons (⟨_, rfl⟩) (.cons (⟨_, rfl⟩) (.cons (⟨_, rfl⟩) (.cons (⟨_, rfl⟩) (.cons (⟨_, rfl⟩) (.cons (⟨_, rfl⟩) (.cons (⟨_, rfl⟩) (.cons (⟨_, rfl⟩) (.cons (⟨_, rfl⟩) (.cons (⟨_, rfl⟩) (.cons (⟨_, rfl⟩) (.cons (⟨_, rfl⟩) .nil))))))))))))))))))))))) (fun V0 => (.cons (.str _) (.cons (.str _) (.cons (.str _) (.cons (.str _) (.cons (.str _) (.cons (.str _) (.cons (.str _) (.cons (.str _) (.cons (.str _) (.cons (.str _) (.cons (.str _) (.cons (.str _) (.cons (.str _) (.cons (.str _) (.cons (.str _) (.cons (.str _) (.cons (.str _) (.cons (.str _) (.cons (.str _) (.cons (.str _) (.cons (.str _) (.cons (.str _) (.cons (.str _) .nil)))))))))))))))))))))))) V0), glb_int (PySem.W.mg_of X G m_VARIABLE), glb_int (PySem.W.mg_of X G m_LONGEST), ⟨.ref _, _, PySem.W.mg_of X G m_UNARY, rfl, fun V0 => .ref _⟩, ⟨_, _, ⟨u_UNARY, y_UNARY, lw_UNARY⟩, q_UNARY⟩, PySem.W.mg_none_of X G z_range, PySem.W.mg_none_of X G z_str, PySem.W.mg_none_of X G z_len, PySem.W.mg_none_of X G z_enumerate, PySem.W.mg_none_of X G z_max, PySem.W.mg_none_of X G z_sum, PySem.W.mg_none_of X G z_abs, PySem.W.mg_none_of X G z_int, PySem.W.mg_none_of X G z_repr, ⟨pg_Checker, hd_Checker, po_Checker, sa_Checker⟩, nF_ports_Checker, nF_objects_Checker, ⟨.ref _, _, PySem.W.mg_of X G aC_RuleError, rfl, fun V0 => .ref _⟩, PySem.W.mg_of X G aC_RuleError, exm_self be_RuleError iC_RuleError tC_RuleError sC_RuleError, ⟨ga_RuleError, gg_RuleError, be_RuleError, hD_RuleError⟩, ⟨ga_RuleError, gg_RuleError, be_RuleError, hD_RuleError, cl_RuleError, gn, gt, mo_RuleError⟩, no_RuleError⟩
  refine ⟨PySem.W.fnOf "law" "law" (defArgs s_law) (defBody s_law) (defScope s_law) .none kV_law dc_law pm_law an_law cd_law ct_law, fun s v => .of_eq rfl, fun base _ _ hsys => ?_⟩
  have eC_Checker : CS 0 = A_Checker := by subst hCS; rfl
  rw [← eC_Checker] at aC_Checker pg_Checker hd_Checker po_Checker sa_Checker mk_Checker kc_Checker nF_ports_Checker nF_objects_Checker a_Checker___init__ a_Checker_call a_Checker_transfer a_Checker_statements a_Checker_loop a_Checker_body
  have eC_RuleError : CS 2 = A_RuleError := by subst hCS; rfl
  have eC_DeadbeatError : CS 1 = A_DeadbeatError := by subst hCS; rfl
  rw [← eC_RuleError] at aC_RuleError tC_RuleError be_RuleError no_RuleError xL_RuleError sa_RuleError kC_RuleError ga_RuleError gg_RuleError hD_RuleError iC_RuleError sC_RuleError cl_RuleError mo_RuleError a_RuleError___init__
  rw [← eC_DeadbeatError] at aC_DeadbeatError tC_DeadbeatError rd_DeadbeatError sg_DeadbeatError fc_DeadbeatError xL_RuleError
  have eC_UNARY : CS 3 = A_UNARY := by subst hCS; rfl
  have C_RuleError : CalE l.prog w K mg base "RuleError" (CS 2) f_rule := ⟨⟨f_RuleError___init__, _, _, ok_RuleError___init__ (fun_mk (st := s_RuleError___init__) l_RuleError___init__ c_RuleError___init__ k_RuleError___init__) (PySem.W.mg_of X G aC_DeadbeatError) ⟨rd_DeadbeatError, tC_DeadbeatError, sg_DeadbeatError, fc_DeadbeatError⟩, (fun_mk (st := s_RuleError___init__) l_RuleError___init__ c_RuleError___init__ k_RuleError___init__).binds (ps := ["self", "rule"]) fun _ _ _ _ _ _ us hl => match us, hl with | [_, _], _ => rfl, a_RuleError___init__, t_RuleError___init__, PySem.W.mg_of X G aC_RuleError⟩, ⟨⟨_, _, _, _, _, _, _, _, _, _, _, _, _, _, _, xL_RuleError, rfl⟩, sa_RuleError, be_RuleError, tC_RuleError, kC_RuleError⟩, no_RuleError⟩
  have C__law_operation : CalX l.prog w K mg base 1 "_law_operation" 4 (T__law_operation CS) := ⟨f__law_operation, _, _, ok__law_operation (fun_mk (st := s__law_operation) l__law_operation c__law_operation k__law_operation) T , PySem.W.mg_of X G a__law_operation, k__law_operation, (fun_mk (st := s__law_operation) l__law_operation c__law_operation k__law_operation).binds (ps := ["_law_name", "_law_params", "_law_cells", "_law_body"]) fun _ _ _ _ _ _ us hl => match us, hl with | [_, _, _, _], _ => rfl⟩
  have C__law_whole : CalX l.prog w K mg base 1 "_law_whole" 4 (T__law_whole CS) := ⟨f__law_whole, _, _, ok__law_whole (fun_mk (st := s__law_whole) l__law_whole c__law_whole k__law_whole) T , PySem.W.mg_of X G a__law_whole, k__law_whole, (fun_mk (st := s__law_whole) l__law_whole c__law_whole k__law_whole).binds (ps := ["_law_ports", "_law_objects", "_law_tasks", "_law_interrupts"]) fun _ _ _ _ _ _ us hl => match us, hl with | [_, _, _, _], _ => rfl⟩
  have C__law_rows : CalX l.prog w K mg base 1 "_law_rows" 2 (T__law_rows CS) := ⟨f__law_rows, _, _, ok__law_rows (fun_mk (st := s__law_rows) l__law_rows c__law_rows k__law_rows) T , PySem.W.mg_of X G a__law_rows, k__law_rows, (fun_mk (st := s__law_rows) l__law_rows c__law_rows k__law_rows).binds (ps := ["_law_word", "_law_many"]) fun _ _ _ _ _ _ us hl => match us, hl with | [_, _], _ => rfl⟩
  have C__law_task : CalX l.prog w K mg base 1 "_law_task" 2 (T__law_task CS) := ⟨f__law_task, _, _, ok__law_task (fun_mk (st := s__law_task) l__law_task c__law_task k__law_task) T , PySem.W.mg_of X G a__law_task, k__law_task, (fun_mk (st := s__law_task) l__law_task c__law_task k__law_task).binds (ps := ["_law_body", "_law_cells"]) fun _ _ _ _ _ _ us hl => match us, hl with | [_, _], _ => rfl⟩
  have C__law_counts : CalX l.prog w K mg base 2 "_law_counts" 2 (T__law_counts CS) := ⟨f__law_counts, _, _, ok__law_counts (fun_mk (st := s__law_counts) l__law_counts c__law_counts k__law_counts) T C__law_operation C__law_whole C__law_rows C__law_task, PySem.W.mg_of X G a__law_counts, k__law_counts, (fun_mk (st := s__law_counts) l__law_counts c__law_counts k__law_counts).binds (ps := ["_law_kind", "_law_n"]) fun _ _ _ _ _ _ us hl => match us, hl with | [_, _], _ => rfl⟩
  have C__law_deep : CalX l.prog w K mg base 1 "_law_deep" 2 (T__law_deep CS) := ⟨f__law_deep, _, _, ok__law_deep (fun_mk (st := s__law_deep) l__law_deep c__law_deep k__law_deep) T , PySem.W.mg_of X G a__law_deep, k__law_deep, (fun_mk (st := s__law_deep) l__law_deep c__law_deep k__law_deep).binds (ps := ["_law_n", "_law_inner"]) fun _ _ _ _ _ _ us hl => match us, hl with | [_, _], _ => rfl⟩
  have C__law_loops : CalX l.prog w K mg base 1 "_law_loops" 1 (T__law_loops CS) := ⟨f__law_loops, _, _, ok__law_loops (fun_mk (st := s__law_loops) l__law_loops c__law_loops k__law_loops) T , PySem.W.mg_of X G a__law_loops, k__law_loops, (fun_mk (st := s__law_loops) l__law_loops c__law_loops k__law_loops).binds (ps := ["_law_n"]) fun _ _ _ _ _ _ us hl => match us, hl with | [_], _ => rfl⟩
  have C__law_wide : CalX l.prog w K mg base 1 "_law_wide" 1 (T__law_wide CS) := ⟨f__law_wide, _, _, ok__law_wide (fun_mk (st := s__law_wide) l__law_wide c__law_wide k__law_wide) T , PySem.W.mg_of X G a__law_wide, k__law_wide, (fun_mk (st := s__law_wide) l__law_wide c__law_wide k__law_wide).binds (ps := ["_law_n"]) fun _ _ _ _ _ _ us hl => match us, hl with | [_], _ => rfl⟩
  have C__law_unary : CalX l.prog w K mg base 1 "_law_unary" 1 (T__law_unary CS) := ⟨f__law_unary, _, _, ok__law_unary (fun_mk (st := s__law_unary) l__law_unary c__law_unary k__law_unary) T , PySem.W.mg_of X G a__law_unary, k__law_unary, (fun_mk (st := s__law_unary) l__law_unary c__law_unary k__law_unary).binds (ps := ["_law_n"]) fun _ _ _ _ _ _ us hl => match us, hl with | [_], _ => rfl⟩
  have C__law_bodies : CalX l.prog w K mg base 2 "_law_bodies" 2 (T__law_bodies CS) := ⟨f__law_bodies, _, _, ok__law_bodies (fun_mk (st := s__law_bodies) l__law_bodies c__law_bodies k__law_bodies) T C__law_whole C__law_task C__law_deep C__law_loops C__law_operation C__law_wide C__law_unary, PySem.W.mg_of X G a__law_bodies, k__law_bodies, (fun_mk (st := s__law_bodies) l__law_bodies c__law_bodies k__law_bodies).binds (ps := ["_law_kind", "_law_n"]) fun _ _ _ _ _ _ us hl => match us, hl with | [_, _], _ => rfl⟩
  have C_Checker___init__ : CalI l.prog w K mg base 1 (CS 0) "Checker" 2 (T_Checker___init__ CS) := ⟨f_Checker___init__, _, _, ok_Checker___init__ (fun_mk (st := s_Checker___init__) l_Checker___init__ c_Checker___init__ k_Checker___init__) T , ⟨mk_Checker, a_Checker___init__, i_Checker___init__, kc_Checker⟩, (fun_mk (st := s_Checker___init__) l_Checker___init__ c_Checker___init__ k_Checker___init__).binds (ps := ["self", "program"]) fun _ _ _ _ _ _ us hl => match us, hl with | [_, _], _ => rfl, PySem.W.mg_of X G aC_Checker⟩
  have C__require : CalX l.prog w K mg base 3 "_require" 2 (T__require CS) := ⟨f__require, _, _, ok__require (fun_mk (st := s__require) l__require c__require k__require) T C_RuleError, PySem.W.mg_of X G a__require, k__require, (fun_mk (st := s__require) l__require c__require k__require).binds (ps := ["holds", "rule"]) fun _ _ _ _ _ _ us hl => match us, hl with | [_, _], _ => rfl⟩
  have C_is_reserved : CalX l.prog w K mg base 1 "is_reserved" 1 (T_is_reserved CS) := ⟨f_is_reserved, _, _, ok_is_reserved (fun_mk (st := s_is_reserved) l_is_reserved c_is_reserved k_is_reserved) T , PySem.W.mg_of X G a_is_reserved, k_is_reserved, (fun_mk (st := s_is_reserved) l_is_reserved c_is_reserved k_is_reserved).binds (ps := ["name"]) fun _ _ _ _ _ _ us hl => match us, hl with | [_], _ => rfl⟩
  have C_is_name : CalX l.prog w K mg base 2 "is_name" 1 (T_is_name CS) := ⟨f_is_name, _, _, ok_is_name (fun_mk (st := s_is_name) l_is_name c_is_name k_is_name) T C_is_reserved, PySem.W.mg_of X G a_is_name, k_is_name, (fun_mk (st := s_is_name) l_is_name c_is_name k_is_name).binds (ps := ["text"]) fun _ _ _ _ _ _ us hl => match us, hl with | [_], _ => rfl⟩
  have C__check_ports : CalX l.prog w K mg base 4 "_check_ports" 2 (T__check_ports CS) := ⟨f__check_ports, _, _, ok__check_ports (fun_mk (st := s__check_ports) l__check_ports c__check_ports k__check_ports) T C__require C_is_name, PySem.W.mg_of X G a__check_ports, k__check_ports, (fun_mk (st := s__check_ports) l__check_ports c__check_ports k__check_ports).binds (ps := ["program", "names"]) fun _ _ _ _ _ _ us hl => match us, hl with | [_, _], _ => rfl⟩
  have C__declare : CalX l.prog w K mg base 4 "_declare" 2 (T__declare CS) := ⟨f__declare, _, _, ok__declare (fun_mk (st := s__declare) l__declare c__declare k__declare) T C__require C_is_name, PySem.W.mg_of X G a__declare, k__declare, (fun_mk (st := s__declare) l__declare c__declare k__declare).binds (ps := ["declared", "scope"]) fun _ _ _ _ _ _ us hl => match us, hl with | [_, _], _ => rfl⟩
  have CR_0 : ∀ n : Nat, CalX l.prog w K mg base (0 + 1 + n) "_count" 1 (TS_0 CS n 0) := by
    intro n
    induction n with
    | zero => exact ⟨f__count, _, _, okNo (fun_mk (st := s__count) l__count c__count k__count) sc__count rfl, PySem.W.mg_of X G a__count, k__count, (fun_mk (st := s__count) l__count c__count k__count).binds (ps := ["body"]) fun _ _ _ _ _ _ us hl => match us, hl with | [_], _ => rfl⟩
    | succ n0 ih =>
      have C__count := ih
      exact ⟨f__count, _, _, ok__count (lv := 0 + 1 + n0) (by omega) (fun_mk (st := s__count) l__count c__count k__count) T C__count, PySem.W.mg_of X G a__count, k__count, (fun_mk (st := s__count) l__count c__count k__count).binds (ps := ["body"]) fun _ _ _ _ _ _ us hl => match us, hl with | [_], _ => rfl⟩
  have C__count : CalX l.prog w K mg base (11) "_count" 1 (T__count CS) := CR_0 10
  have CR_1 : ∀ n : Nat, CalX l.prog w K mg base (3 + 1 + n) "_check_cells" 2 (TS_1 CS n 0) := by
    intro n
    induction n with
    | zero => exact ⟨f__check_cells, _, _, okNo (fun_mk (st := s__check_cells) l__check_cells c__check_cells k__check_cells) sc__check_cells rfl, PySem.W.mg_of X G a__check_cells, k__check_cells, (fun_mk (st := s__check_cells) l__check_cells c__check_cells k__check_cells).binds (ps := ["e", "scope"]) fun _ _ _ _ _ _ us hl => match us, hl with | [_, _], _ => rfl⟩
    | succ n0 ih =>
      have C__check_cells := ih
      exact ⟨f__check_cells, _, _, ok__check_cells (lv := 3 + 1 + n0) (by omega) (fun_mk (st := s__check_cells) l__check_cells c__check_cells k__check_cells) T C__require C__check_cells, PySem.W.mg_of X G a__check_cells, k__check_cells, (fun_mk (st := s__check_cells) l__check_cells c__check_cells k__check_cells).binds (ps := ["e", "scope"]) fun _ _ _ _ _ _ us hl => match us, hl with | [_, _], _ => rfl⟩
  have C__check_cells : CalX l.prog w K mg base (14) "_check_cells" 2 (T__check_cells CS) := CR_1 10
  have C_parts : CalX l.prog w K mg base 1 "parts" 1 (T_parts CS) := ⟨f_parts, _, _, ok_parts (fun_mk (st := s_parts) l_parts c_parts k_parts) T , PySem.W.mg_of X G a_parts, k_parts, (fun_mk (st := s_parts) l_parts c_parts k_parts).binds (ps := ["e"]) fun _ _ _ _ _ _ us hl => match us, hl with | [_], _ => rfl⟩
  have CR_2 : ∀ n : Nat, CalX l.prog w K mg base (1 + 1 + n) "depth" 1 (TS_2 CS n 0) := by
    intro n
    induction n with
    | zero => exact ⟨f_depth, _, _, okNo (fun_mk (st := s_depth) l_depth c_depth k_depth) sc_depth rfl, PySem.W.mg_of X G a_depth, k_depth, (fun_mk (st := s_depth) l_depth c_depth k_depth).binds (ps := ["e"]) fun _ _ _ _ _ _ us hl => match us, hl with | [_], _ => rfl⟩
    | succ n0 ih =>
      have C_depth := ih
      exact ⟨f_depth, _, _, ok_depth (lv := 1 + 1 + n0) (by omega) (fun_mk (st := s_depth) l_depth c_depth k_depth) T C_depth C_parts, PySem.W.mg_of X G a_depth, k_depth, (fun_mk (st := s_depth) l_depth c_depth k_depth).binds (ps := ["e"]) fun _ _ _ _ _ _ us hl => match us, hl with | [_], _ => rfl⟩
  have C_depth : CalX l.prog w K mg base (12) "depth" 1 (T_depth CS) := CR_2 10
  have CR_3 : ∀ n : Nat, CalX l.prog w K mg base (1 + 1 + n) "size" 1 (TS_3 CS n 0) := by
    intro n
    induction n with
    | zero => exact ⟨f_size, _, _, okNo (fun_mk (st := s_size) l_size c_size k_size) sc_size rfl, PySem.W.mg_of X G a_size, k_size, (fun_mk (st := s_size) l_size c_size k_size).binds (ps := ["e"]) fun _ _ _ _ _ _ us hl => match us, hl with | [_], _ => rfl⟩
    | succ n0 ih =>
      have C_size := ih
      exact ⟨f_size, _, _, ok_size (lv := 1 + 1 + n0) (by omega) (fun_mk (st := s_size) l_size c_size k_size) T C_size C_parts, PySem.W.mg_of X G a_size, k_size, (fun_mk (st := s_size) l_size c_size k_size).binds (ps := ["e"]) fun _ _ _ _ _ _ us hl => match us, hl with | [_], _ => rfl⟩
  have C_size : CalX l.prog w K mg base (12) "size" 1 (T_size CS) := CR_3 10
  have C__check_expression : CalX l.prog w K mg base 15 "_check_expression" 3 (T__check_expression CS) := ⟨f__check_expression, _, _, ok__check_expression (fun_mk (st := s__check_expression) l__check_expression c__check_expression k__check_expression) T C__require C__check_cells C_depth C_size, PySem.W.mg_of X G a__check_expression, k__check_expression, (fun_mk (st := s__check_expression) l__check_expression c__check_expression k__check_expression).binds (ps := ["e", "scope", "deepest"]) fun _ _ _ _ _ _ us hl => match us, hl with | [_, _, _], _ => rfl⟩
  have C__check_index : CalX l.prog w K mg base 16 "_check_index" 2 (T__check_index CS) := ⟨f__check_index, _, _, ok__check_index (fun_mk (st := s__check_index) l__check_index c__check_index k__check_index) T C__check_expression, PySem.W.mg_of X G a__check_index, k__check_index, (fun_mk (st := s__check_index) l__check_index c__check_index k__check_index).binds (ps := ["place", "scope"]) fun _ _ _ _ _ _ us hl => match us, hl with | [_, _], _ => rfl⟩
  have C__check_place : CalX l.prog w K mg base 4 "_check_place" 2 (T__check_place CS) := ⟨f__check_place, _, _, ok__check_place (fun_mk (st := s__check_place) l__check_place c__check_place k__check_place) T C__require, PySem.W.mg_of X G a__check_place, k__check_place, (fun_mk (st := s__check_place) l__check_place c__check_place k__check_place).binds (ps := ["place", "scope"]) fun _ _ _ _ _ _ us hl => match us, hl with | [_, _], _ => rfl⟩
  have C_find : CalX l.prog w K mg base 1 "find" 2 (T_find CS) := ⟨f_find, _, _, ok_find (fun_mk (st := s_find) l_find c_find k_find) T , PySem.W.mg_of X G a_find, k_find, (fun_mk (st := s_find) l_find c_find k_find).binds (ps := ["rows", "name"]) fun _ _ _ _ _ _ us hl => match us, hl with | [_, _], _ => rfl⟩
  have C_check_call : CalX l.prog w K mg base 4 "check_call" 5 (T_check_call CS) := ⟨f_check_call, _, _, ok_check_call (fun_mk (st := s_check_call) l_check_call c_check_call k_check_call) T C_find C__require, PySem.W.mg_of X G a_check_call, k_check_call, (fun_mk (st := s_check_call) l_check_call c_check_call k_check_call).binds (ps := ["objects", "name", "operation", "many", "owner"]) fun _ _ _ _ _ _ us hl => match us, hl with | [_, _, _, _, _], _ => rfl⟩
  have C_Checker_call : CalM l.prog w K mg base 17 (CS 0) "call" 4 (T_Checker_call CS) := ⟨f_Checker_call, _, _, ok_Checker_call (fun_mk (st := s_Checker_call) l_Checker_call c_Checker_call k_Checker_call) T C__check_index C__check_place C_check_call C__check_expression, ⟨a_Checker_call, i_Checker_call, k_Checker_call⟩, (fun_mk (st := s_Checker_call) l_Checker_call c_Checker_call k_Checker_call).binds (ps := ["self", "statement", "scope", "owner"]) fun _ _ _ _ _ _ us hl => match us, hl with | [_, _, _, _], _ => rfl⟩
  have C_Checker_transfer : CalM l.prog w K mg base 17 (CS 0) "transfer" 4 (T_Checker_transfer CS) := ⟨f_Checker_transfer, _, _, ok_Checker_transfer (fun_mk (st := s_Checker_transfer) l_Checker_transfer c_Checker_transfer k_Checker_transfer) T C_find C__require C__check_index C__check_place C__check_expression, ⟨a_Checker_transfer, i_Checker_transfer, k_Checker_transfer⟩, (fun_mk (st := s_Checker_transfer) l_Checker_transfer c_Checker_transfer k_Checker_transfer).binds (ps := ["self", "statement", "scope", "owner"]) fun _ _ _ _ _ _ us hl => match us, hl with | [_, _, _, _], _ => rfl⟩
  have CR_4 : ∀ n : Nat, CalM l.prog w K mg base (17 + 1 + n) (CS 0) "statements" 4 (TS_4 CS n 0) ∧ CalM l.prog w K mg base (17 + 1 + n) (CS 0) "loop" 4 (TS_4 CS n 1) := by
    intro n
    induction n with
    | zero => exact ⟨⟨f_Checker_statements, _, _, okNo (fun_mk (st := s_Checker_statements) l_Checker_statements c_Checker_statements k_Checker_statements) sc_Checker_statements rfl, ⟨a_Checker_statements, i_Checker_statements, k_Checker_statements⟩, (fun_mk (st := s_Checker_statements) l_Checker_statements c_Checker_statements k_Checker_statements).binds (ps := ["self", "body", "scope", "owner"]) fun _ _ _ _ _ _ us hl => match us, hl with | [_, _, _, _], _ => rfl⟩, ⟨f_Checker_loop, _, _, okNo (fun_mk (st := s_Checker_loop) l_Checker_loop c_Checker_loop k_Checker_loop) sc_Checker_loop rfl, ⟨a_Checker_loop, i_Checker_loop, k_Checker_loop⟩, (fun_mk (st := s_Checker_loop) l_Checker_loop c_Checker_loop k_Checker_loop).binds (ps := ["self", "statement", "scope", "owner"]) fun _ _ _ _ _ _ us hl => match us, hl with | [_, _, _, _], _ => rfl⟩⟩
    | succ n0 ih =>
      obtain ⟨C_Checker_statements, C_Checker_loop⟩ := ih
      exact ⟨⟨f_Checker_statements, _, _, ok_Checker_statements (lv := 17 + 1 + n0) (by omega) (fun_mk (st := s_Checker_statements) l_Checker_statements c_Checker_statements k_Checker_statements) T C__check_index C__check_expression C__check_place C_Checker_statements C_Checker_loop C_Checker_call C_Checker_transfer, ⟨a_Checker_statements, i_Checker_statements, k_Checker_statements⟩, (fun_mk (st := s_Checker_statements) l_Checker_statements c_Checker_statements k_Checker_statements).binds (ps := ["self", "body", "scope", "owner"]) fun _ _ _ _ _ _ us hl => match us, hl with | [_, _, _, _], _ => rfl⟩, ⟨f_Checker_loop, _, _, ok_Checker_loop (lv := 17 + 1 + n0) (by omega) (fun_mk (st := s_Checker_loop) l_Checker_loop c_Checker_loop k_Checker_loop) T C__require C_Checker_statements C__check_expression C_is_name, ⟨a_Checker_loop, i_Checker_loop, k_Checker_loop⟩, (fun_mk (st := s_Checker_loop) l_Checker_loop c_Checker_loop k_Checker_loop).binds (ps := ["self", "statement", "scope", "owner"]) fun _ _ _ _ _ _ us hl => match us, hl with | [_, _, _, _], _ => rfl⟩⟩
  have C_Checker_statements : CalM l.prog w K mg base (38) (CS 0) "statements" 4 (T_Checker_statements CS) := (CR_4 20).1
  have C_Checker_loop : CalM l.prog w K mg base (38) (CS 0) "loop" 4 (T_Checker_loop CS) := (CR_4 20).2
  have C_Checker_body : CalM l.prog w K mg base 39 (CS 0) "body" 4 (T_Checker_body CS) := ⟨f_Checker_body, _, _, ok_Checker_body (fun_mk (st := s_Checker_body) l_Checker_body c_Checker_body k_Checker_body) T C__count C__require C_Checker_statements, ⟨a_Checker_body, i_Checker_body, k_Checker_body⟩, (fun_mk (st := s_Checker_body) l_Checker_body c_Checker_body k_Checker_body).binds (ps := ["self", "body", "scope", "owner"]) fun _ _ _ _ _ _ us hl => match us, hl with | [_, _, _, _], _ => rfl⟩
  have C__check_operation : CalX l.prog w K mg base 40 "_check_operation" 6 (T__check_operation CS) := ⟨f__check_operation, _, _, ok__check_operation (fun_mk (st := s__check_operation) l__check_operation c__check_operation k__check_operation) T C__require C__declare C_Checker_body C__check_expression C_is_name, PySem.W.mg_of X G a__check_operation, k__check_operation, (fun_mk (st := s__check_operation) l__check_operation c__check_operation k__check_operation).binds (ps := ["checker", "at", "part", "operation", "fields", "known"]) fun _ _ _ _ _ _ us hl => match us, hl with | [_, _, _, _, _, _], _ => rfl⟩
  have C__check_objects : CalX l.prog w K mg base 41 "_check_objects" 3 (T__check_objects CS) := ⟨f__check_objects, _, _, ok__check_objects (fun_mk (st := s__check_objects) l__check_objects c__check_objects k__check_objects) T C__require C__declare C__check_operation C_is_name, PySem.W.mg_of X G a__check_objects, k__check_objects, (fun_mk (st := s__check_objects) l__check_objects c__check_objects k__check_objects).binds (ps := ["program", "names", "checker"]) fun _ _ _ _ _ _ us hl => match us, hl with | [_, _, _], _ => rfl⟩
  have C__check_times : CalX l.prog w K mg base 4 "_check_times" 2 (T__check_times CS) := ⟨f__check_times, _, _, ok__check_times (fun_mk (st := s__check_times) l__check_times c__check_times k__check_times) T C__require C_is_name, PySem.W.mg_of X G a__check_times, k__check_times, (fun_mk (st := s__check_times) l__check_times c__check_times k__check_times).binds (ps := ["part", "names"]) fun _ _ _ _ _ _ us hl => match us, hl with | [_, _], _ => rfl⟩
  have C_check : CalX l.prog w K mg base 42 "check" 1 (T_check CS) := ⟨f_check, _, _, ok_check (fun_mk (st := s_check) l_check c_check k_check) T C_Checker___init__ C__require C__check_ports C__check_objects C_is_name C__check_times C__declare C_Checker_body C_check_call, PySem.W.mg_of X G a_check, k_check, (fun_mk (st := s_check) l_check c_check k_check).binds (ps := ["program"]) fun _ _ _ _ _ _ us hl => match us, hl with | [_], _ => rfl⟩
  have C__law_rule : CalX l.prog w K mg base 43 "_law_rule" 1 (T__law_rule CS) := ⟨f__law_rule, _, _, ok__law_rule (fun_mk (st := s__law_rule) l__law_rule c__law_rule k__law_rule) T C_check, PySem.W.mg_of X G a__law_rule, k__law_rule, (fun_mk (st := s__law_rule) l__law_rule c__law_rule k__law_rule).binds (ps := ["_law_program"]) fun _ _ _ _ _ _ us hl => match us, hl with | [_], _ => rfl⟩
  have R := ok_law (fun_mk (st := s_law) l_law c_law k_law) T C__law_counts C__law_bodies C__law_rule
  exact R.imp fun vs H Q E ⟨hl, F, V0, os, ws, k0, x0, r, ra, hT, c1, c2⟩ => ⟨hl, F, V0, os, ws, k0, x0, r, ra, hT CS, c1, c2⟩
theorem walk {l : PySem.W.OpenLaw} {q : Program} {loose : List Str} {XP : (Str → Option Value) → Heap → Prop} {YP : World → Heap → Prop} {d : DefRec} {K : Params → PySem.W.Frag} (hn : l.most = some 63) (hdf : d.params.defaults = [])
    (hY : ∀ (w : World) (h : Heap), YP w h → (K w.params).In h) (hq : importsNone q = true)
    (F : ∀ (w : World) (mg : Str → Option Value) (fa : Addr) (h : Heap), (K w.params).In h → h.Ns mainGlobals mg → mg d.name = some (.ref fa) →
      ∃ fd : FuncData, (∀ (s : Shared) (u : Value), BindsTo s fd ⟨[u], []⟩ [("_law_script", u)]) ∧ ∀ base : Heap, (K w.params).In base → base.Ns mainGlobals mg → SysIn base → FnAt l.prog w (K w.params) mg base 44 fa fd ["_law_script"] (spX (K w.params) 1 LawT)) :
    PySem.W.WalkO q loose XP YP l.row.toRowW d [] (fun f vs => PySem.call f vs) :=
  walk_at_top (k := 44) (x := "_law_script") (K := K) hn hdf ⟨rfl, by decide, by decide⟩ hY (fun w mg fa h a b c => let ⟨fd, hb, hF⟩ := F w mg fa h a b c; ⟨fd, hb, fun base h1 h2 h3 => hF base h1 h2 (h3 hq)⟩) (fun ns h CS => law_true (CS := CS) ns h)
end My
open PySem PySem.W PyProof.Rows
set_option maxRecDepth 100000 in
set_option maxHeartbeats 0 in
theorem PySem.Challenge.cw_deadbeat_k75_limits_of_programs_holds : PySem.Challenge.rw_deadbeat_k75_limits_of_programs.Holds := by
  w_on; o_law; k_head; (case hw => w_witness2)
  k_fill
  refine My.walk (l := PySem.Challenge.rw_deadbeat_k75_limits_of_programs) rfl rfl (fun w h Y => PySem.W.kIn_of Y) (by decide +kernel) ?F
  case F =>
    intro w mg fa h KX G hmg
    refine' My.all_mk KX G hmg ?m_RESERVED ?u_RESERVED_1 ?m_VARIABLE ?m_LONGEST ?m_UNARY ?u_UNARY ?y_UNARY ?q_UNARY ?lw_UNARY ?z_range ?z_str ?z_len ?z_enumerate ?z_max ?z_sum ?z_abs ?z_int ?z_repr ?aC_Checker ?pg_Checker ?hd_Checker ?po_Checker ?sa_Checker ?mk_Checker ?kc_Checker ?nF_ports_Checker ?nF_objects_Checker ?aC_RuleError ?tC_RuleError ?be_RuleError ?no_RuleError ?xL_RuleError ?sa_RuleError ?kC_RuleError ?ga_RuleError ?gg_RuleError ?hD_RuleError ?iC_RuleError ?sC_RuleError ?cl_RuleError ?mo_RuleError ?aC_DeadbeatError ?tC_DeadbeatError ?rd_DeadbeatError ?sg_DeadbeatError ?fc_DeadbeatError ?gn ?gt ?a_RuleError___init__ ?t_RuleError___init__ ?l_RuleError___init__ ?c_RuleError___init__ ?k_RuleError___init__ ?a__law_operation ?l__law_operation ?c__law_operation ?k__law_operation ?a__law_whole ?l__law_whole ?c__law_whole ?k__law_whole ?a__law_rows ?l__law_rows ?c__law_rows ?k__law_rows ?a__law_task ?l__law_task ?c__law_task ?k__law_task ?a__law_counts ?l__law_counts ?c__law_counts ?k__law_counts ?a__law_deep ?l__law_deep ?c__law_deep ?k__law_deep ?a__law_loops ?l__law_loops ?c__law_loops ?k__law_loops ?a__law_wide ?l__law_wide ?c__law_wide ?k__law_wide ?a__law_unary ?l__law_unary ?c__law_unary ?k__law_unary ?a__law_bodies ?l__law_bodies ?c__law_bodies ?k__law_bodies ?a_Checker___init__ ?i_Checker___init__ ?l_Checker___init__ ?c_Checker___init__ ?k_Checker___init__ ?a__require ?l__require ?c__require ?k__require ?a_is_reserved ?l_is_reserved ?c_is_reserved ?k_is_reserved ?a_is_name ?l_is_name ?c_is_name ?k_is_name ?a__check_ports ?l__check_ports ?c__check_ports ?k__check_ports ?a__declare ?l__declare ?c__declare ?k__declare ?a__count ?l__count ?c__count ?k__count ?a__check_cells ?l__check_cells ?c__check_cells ?k__check_cells ?a_parts ?l_parts ?c_parts ?k_parts ?a_depth ?l_depth ?c_depth ?k_depth ?a_size ?l_size ?c_size ?k_size ?a__check_expression ?l__check_expression ?c__check_expression ?k__check_expression ?a__check_index ?l__check_index ?c__check_index ?k__check_index ?a__check_place ?l__check_place ?c__check_place ?k__check_place ?a_find ?l_find ?c_find ?k_find ?a_check_call ?l_check_call ?c_check_call ?k_check_call ?a_Checker_call ?i_Checker_call ?l_Checker_call ?c_Checker_call ?k_Checker_call ?a_Checker_transfer ?i_Checker_transfer ?l_Checker_transfer ?c_Checker_transfer ?k_Checker_transfer ?a_Checker_statements ?i_Checker_statements ?l_Checker_statements ?c_Checker_statements ?k_Checker_statements ?a_Checker_loop ?i_Checker_loop ?l_Checker_loop ?c_Checker_loop ?k_Checker_loop ?a_Checker_body ?i_Checker_body ?l_Checker_body ?c_Checker_body ?k_Checker_body ?a__check_operation ?l__check_operation ?c__check_operation ?k__check_operation ?a__check_objects ?l__check_objects ?c__check_objects ?k__check_objects ?a__check_times ?l__check_times ?c__check_times ?k__check_times ?a_check ?l_check ?c_check ?k_check ?a__law_rule ?l__law_rule ?c__law_rule ?k__law_rule ?a_law ?l_law ?c_law ?k_law
    (case m_RESERVED => k_is)
    (case u_RESERVED_1 => k_is)
    (case m_VARIABLE => k_is)
    (case m_LONGEST => k_is)
    (case m_UNARY => k_is)
    (case u_UNARY => k_is)
    (case y_UNARY => exact ⟨⟨_, _, rfl, rfl⟩, ⟨⟨_, _, rfl, rfl⟩, ⟨⟨_, _, rfl, rfl⟩, trivial⟩⟩⟩)
    (case q_UNARY => exact rfl)
    (case lw_UNARY => exact rfl)
    (case z_range => k_is)
    (case z_str => k_is)
    (case z_len => k_is)
    (case z_enumerate => k_is)
    (case z_max => k_is)
    (case z_sum => k_is)
    (case z_abs => k_is)
    (case z_int => k_is)
    (case z_repr => k_is)
    (case aC_Checker => k_is)
    (case pg_Checker => k_is)
    (case hd_Checker => k_is)
    (case po_Checker => k_is)
    (case sa_Checker => k_is)
    (case mk_Checker => k_is)
    (case kc_Checker => k_is)
    (case nF_ports_Checker => k_is)
    (case nF_objects_Checker => k_is)
    (case aC_RuleError => k_is)
    (case tC_RuleError => k_is)
    (case be_RuleError => k_is)
    (case no_RuleError => k_is)
    (case xL_RuleError => k_is)
    (case sa_RuleError => k_is)
    (case kC_RuleError => k_is)
    (case ga_RuleError => k_is)
    (case gg_RuleError => k_is)
    (case hD_RuleError => k_is)
    (case iC_RuleError => k_is)
    (case sC_RuleError => k_is)
    (case cl_RuleError => k_is)
    (case mo_RuleError => k_is)
    (case aC_DeadbeatError => k_is)
    (case tC_DeadbeatError => k_is)
    (case rd_DeadbeatError => k_is)
    (case sg_DeadbeatError => k_is)
    (case fc_DeadbeatError => k_is)
    (case gn => k_is)
    (case gt => k_is)
    (case a_RuleError___init__ => k_is)
    (case t_RuleError___init__ => k_is)
    (case l_RuleError___init__ => k_is)
    (case c_RuleError___init__ => k_is)
    (case k_RuleError___init__ => k_is)
    (case a__law_operation => k_is)
    (case l__law_operation => k_is)
    (case c__law_operation => k_is)
    (case k__law_operation => k_is)
    (case a__law_whole => k_is)
    (case l__law_whole => k_is)
    (case c__law_whole => k_is)
    (case k__law_whole => k_is)
    (case a__law_rows => k_is)
    (case l__law_rows => k_is)
    (case c__law_rows => k_is)
    (case k__law_rows => k_is)
    (case a__law_task => k_is)
    (case l__law_task => k_is)
    (case c__law_task => k_is)
    (case k__law_task => k_is)
    (case a__law_counts => k_is)
    (case l__law_counts => k_is)
    (case c__law_counts => k_is)
    (case k__law_counts => k_is)
    (case a__law_deep => k_is)
    (case l__law_deep => k_is)
    (case c__law_deep => k_is)
    (case k__law_deep => k_is)
    (case a__law_loops => k_is)
    (case l__law_loops => k_is)
    (case c__law_loops => k_is)
    (case k__law_loops => k_is)
    (case a__law_wide => k_is)
    (case l__law_wide => k_is)
    (case c__law_wide => k_is)
    (case k__law_wide => k_is)
    (case a__law_unary => k_is)
    (case l__law_unary => k_is)
    (case c__law_unary => k_is)
    (case k__law_unary => k_is)
    (case a__law_bodies => k_is)
    (case l__law_bodies => k_is)
    (case c__law_bodies => k_is)
    (case k__law_bodies => k_is)
    (case a_Checker___init__ => k_is)
    (case i_Checker___init__ => k_is)
    (case l_Checker___init__ => k_is)
    (case c_Checker___init__ => k_is)
    (case k_Checker___init__ => k_is)
    (case a__require => k_is)
    (case l__require => k_is)
    (case c__require => k_is)
    (case k__require => k_is)
    (case a_is_reserved => k_is)
    (case l_is_reserved => k_is)
    (case c_is_reserved => k_is)
    (case k_is_reserved => k_is)
    (case a_is_name => k_is)
    (case l_is_name => k_is)
    (case c_is_name => k_is)
    (case k_is_name => k_is)
    (case a__check_ports => k_is)
    (case l__check_ports => k_is)
    (case c__check_ports => k_is)
    (case k__check_ports => k_is)
    (case a__declare => k_is)
    (case l__declare => k_is)
    (case c__declare => k_is)
    (case k__declare => k_is)
    (case a__count => k_is)
    (case l__count => k_is)
    (case c__count => k_is)
    (case k__count => k_is)
    (case a__check_cells => k_is)
    (case l__check_cells => k_is)
    (case c__check_cells => k_is)
    (case k__check_cells => k_is)
    (case a_parts => k_is)
    (case l_parts => k_is)
    (case c_parts => k_is)
    (case k_parts => k_is)
    (case a_depth => k_is)
    (case l_depth => k_is)
    (case c_depth => k_is)
    (case k_depth => k_is)
    (case a_size => k_is)
    (case l_size => k_is)
    (case c_size => k_is)
    (case k_size => k_is)
    (case a__check_expression => k_is)
    (case l__check_expression => k_is)
    (case c__check_expression => k_is)
    (case k__check_expression => k_is)
    (case a__check_index => k_is)
    (case l__check_index => k_is)
    (case c__check_index => k_is)
    (case k__check_index => k_is)
    (case a__check_place => k_is)
    (case l__check_place => k_is)
    (case c__check_place => k_is)
    (case k__check_place => k_is)
    (case a_find => k_is)
    (case l_find => k_is)
    (case c_find => k_is)
    (case k_find => k_is)
    (case a_check_call => k_is)
    (case l_check_call => k_is)
    (case c_check_call => k_is)
    (case k_check_call => k_is)
    (case a_Checker_call => k_is)
    (case i_Checker_call => k_is)
    (case l_Checker_call => k_is)
    (case c_Checker_call => k_is)
    (case k_Checker_call => k_is)
    (case a_Checker_transfer => k_is)
    (case i_Checker_transfer => k_is)
    (case l_Checker_transfer => k_is)
    (case c_Checker_transfer => k_is)
    (case k_Checker_transfer => k_is)
    (case a_Checker_statements => k_is)
    (case i_Checker_statements => k_is)
    (case l_Checker_statements => k_is)
    (case c_Checker_statements => k_is)
    (case k_Checker_statements => k_is)
    (case a_Checker_loop => k_is)
    (case i_Checker_loop => k_is)
    (case l_Checker_loop => k_is)
    (case c_Checker_loop => k_is)
    (case k_Checker_loop => k_is)
    (case a_Checker_body => k_is)
    (case i_Checker_body => k_is)
    (case l_Checker_body => k_is)
    (case c_Checker_body => k_is)
    (case k_Checker_body => k_is)
    (case a__check_operation => k_is)
    (case l__check_operation => k_is)
    (case c__check_operation => k_is)
    (case k__check_operation => k_is)
    (case a__check_objects => k_is)
    (case l__check_objects => k_is)
    (case c__check_objects => k_is)
    (case k__check_objects => k_is)
    (case a__check_times => k_is)
    (case l__check_times => k_is)
    (case c__check_times => k_is)
    (case k__check_times => k_is)
    (case a_check => k_is)
    (case l_check => k_is)
    (case c_check => k_is)
    (case k_check => k_is)
    (case a__law_rule => k_is)
    (case l__law_rule => k_is)
    (case c__law_rule => k_is)
    (case k__law_rule => k_is)
    (case a_law => k_is)
    (case l_law => k_is)
    (case c_law => k_is)
    (case k_law => k_is)

