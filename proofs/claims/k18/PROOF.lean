import PyProof.Rows.All
import Wide.All
import OpenK.AllK
import Wide.FinOn
import HandS.ForMost
import HandS.Wide
import HandS.Flow
import HandS.IsInst
import HandS.WordsExc
import HandS.ExcInit
import HandS.ExcField
import HandS.ExcIs
import HandS.CallSlots
import HandS.TryOnly
import HandS.SortInts
import HandS.TupLe
import HandS.Remove
import HandS.More
import HandS.DictComp
import HandS.SetFor
import HandS.Deep
import KE.KExcIs
import KE.KTryMore
import HandS.MakeKwOnly
import HandS.Zip
import HandS.Strs
import KE.GoesEnum
import KE.KBits
import PySem.Challenge.RW_deadbeat_k18_words_of_instructions
set_option Elab.async false
set_option linter.all false
set_option maxRecDepth 100000
/-! E1: data values, owned objects, the relation between the abstract heap and them. -/
namespace EV
open PySem PySem.Spec PyProof.Rows L2

/-- names by numbers (base 256) -/
def nmD : Nat → Nat → List Nat
  | 0, _ => []
  | f + 1, n => if n = 0 then [] else nmD f (n / 256) ++ [n % 256]
def nmE : List Nat → Nat := fun l => l.foldl (fun a d => a * 256 + d) 0
theorem nmE_D : ∀ (f n : Nat), n ≤ f → nmE (nmD f n) = n
  | 0, n, h => by
    have : n = 0 := Nat.le_zero.mp h
    subst this; rfl
  | f + 1, n, h => by
    unfold nmD
    by_cases e : n = 0
    · rw [if_pos e, e]; rfl
    · rw [if_neg e]
      have ih := nmE_D f (n / 256) (by omega)
      unfold nmE at ih ⊢
      rw [List.foldl_append, ih]
      show n / 256 * 256 + n % 256 = n
      omega
/-- the name of a number -/
def nm (i : Nat) : Str := ⟨(nmD i i).toArray⟩
theorem nm_inj {i j : Nat} (h : nm i = nm j) : i = j := by
  have e : nmD i i = nmD j j := by
    have e1 : (nmD i i).toArray = (nmD j j).toArray := congrArg Str.cps h
    simpa using e1
  rw [← nmE_D i i (Nat.le_refl _), ← nmE_D j j (Nat.le_refl _), e]

/-- a value: data, or the address of an owned object -/
inductive D where
  | non | bl (b : Bool) | int (i : Int) | str (x : Str) | ty (n : String) | tup (ds : List D) | lst (ds : List D) | dK (kvs : List (Key × D)) | dT (kvs : List (List Key × D)) | exn (a dx C : Addr) (f : Nat) (w : D) | ref (a : Addr)

mutual
inductive Rp (K : PySem.W.Frag) (H : Hp) : V → D → Prop
  | non : Rp K H .non .non
  | bl (b : Bool) : Rp K H (.bl b) (.bl b)
  | int (i : Int) : Rp K H (.int i) (.int i)
  | str (x : Str) : Rp K H (.str x) (.str x)
  | ty (n : String) : Rp K H (.ty n) (.ty n)
  | tup {a : Addr} {xs : List V} {ds : List D} : SqT K H a xs → RpA K H xs ds → Rp K H (.ref a) (.tup ds)
  | lst {a : Addr} {xs : List V} {ds : List D} : SqL K H a xs → RpA K H xs ds → Rp K H (.ref a) (.lst ds)
  | dK {a : Addr} {xs : List (Key × V)} {ds : List (Key × D)} : (∃ o, H a = some (.frz o (.dK xs))) → RpK K H xs ds → Rp K H (.ref a) (.dK ds)
  | dT {a : Addr} {xs : List (List Key × V)} {ds : List (List Key × D)} : (∃ o, H a = some (.frz o (.dT xs))) → RpT K H xs ds → Rp K H (.ref a) (.dT ds)
  | exn {a dx C : Addr} {f : Nat} {v : V} {w : D} : H dx = some (.xd [(nm f, v)]) → Rp K H v w → Rp K H (.ref a) (.exn a dx C f w)
  | ref (a : Addr) : Rp K H (.ref a) (.ref a)
inductive RpA (K : PySem.W.Frag) (H : Hp) : List V → List D → Prop
  | nil : RpA K H [] []
  | cons {v : V} {vs : List V} {d : D} {ds : List D} : Rp K H v d → RpA K H vs ds → RpA K H (v :: vs) (d :: ds)
inductive RpK (K : PySem.W.Frag) (H : Hp) : List (Key × V) → List (Key × D) → Prop
  | nil : RpK K H [] []
  | cons {k : Key} {v : V} {vs : List (Key × V)} {d : D} {ds : List (Key × D)} : Rp K H v d → RpK K H vs ds → RpK K H ((k, v) :: vs) ((k, d) :: ds)
inductive RpT (K : PySem.W.Frag) (H : Hp) : List (List Key × V) → List (List Key × D) → Prop
  | nil : RpT K H [] []
  | cons {k : List Key} {v : V} {vs : List (List Key × V)} {d : D} {ds : List (List Key × D)} : Rp K H v d → RpT K H vs ds → RpT K H ((k, v) :: vs) ((k, d) :: ds)
end
theorem same_sqT {K : PySem.W.Frag} {H H' : Hp} {a : Addr} {xs : List V} (e : Same H H') (h : SqT K H a xs) : SqT K H' a xs := by
  rcases h with (h | ⟨o, h⟩) | h
  · exact .inl (.inl (e _ _ h))
  · exact .inl (.inr ⟨o, e _ _ h⟩)
  · exact .inr h
mutual
theorem Rp.mono {K : PySem.W.Frag} {H H' : Hp} (e : Same H H') : ∀ {v : V} {d : D}, Rp K H v d → Rp K H' v d
  | _, _, .non => .non
  | _, _, .bl b => .bl b
  | _, _, .int i => .int i
  | _, _, .str x => .str x
  | _, _, .ty x => .ty x
  | _, _, .tup h r => .tup (same_sqT e h) (RpA.mono e r)
  | _, _, .lst h r => .lst (e.seq h) (RpA.mono e r)
  | _, _, .dK h r => .dK (let ⟨o, h⟩ := h; ⟨o, e _ _ h⟩) (RpK.mono e r)
  | _, _, .dT h r => .dT (let ⟨o, h⟩ := h; ⟨o, e _ _ h⟩) (RpT.mono e r)
  | _, _, .exn h r => .exn (e _ _ h) (Rp.mono e r)
  | _, _, .ref a => .ref a
theorem RpA.mono {K : PySem.W.Frag} {H H' : Hp} (e : Same H H') : ∀ {vs : List V} {ds : List D}, RpA K H vs ds → RpA K H' vs ds
  | _, _, .nil => .nil
  | _, _, .cons h r => .cons (Rp.mono e h) (RpA.mono e r)
theorem RpK.mono {K : PySem.W.Frag} {H H' : Hp} (e : Same H H') : ∀ {vs : List (Key × V)} {ds : List (Key × D)}, RpK K H vs ds → RpK K H' vs ds
  | _, _, .nil => .nil
  | _, _, .cons h r => .cons (Rp.mono e h) (RpK.mono e r)
theorem RpT.mono {K : PySem.W.Frag} {H H' : Hp} (e : Same H H') : ∀ {vs : List (List Key × V)} {ds : List (List Key × D)}, RpT K H vs ds → RpT K H' vs ds
  | _, _, .nil => .nil
  | _, _, .cons h r => .cons (Rp.mono e h) (RpT.mono e r)
end
theorem RpA.length {K : PySem.W.Frag} {H : Hp} : ∀ {vs : List V} {ds : List D}, RpA K H vs ds → vs.length = ds.length
  | _, _, .nil => rfl
  | _, _, .cons _ r => congrArg (· + 1) (RpA.length r)
theorem RpA.get {K : PySem.W.Frag} {H : Hp} : ∀ {vs : List V} {ds : List D} {i : Nat} {d : D}, RpA K H vs ds → ds[i]? = some d → ∃ v, vs[i]? = some v ∧ Rp K H v d
  | _, _, _, _, .nil, e => by simp at e
  | _, _, 0, _, .cons h r, e => by simp at e; subst e; exact ⟨_, rfl, h⟩
  | _, _, i + 1, d, .cons h r, e => by
    obtain ⟨v, e1, r1⟩ := RpA.get (i := i) (d := d) r (by simpa using e)
    exact ⟨v, by simpa using e1, r1⟩
theorem RpA.getV {K : PySem.W.Frag} {H : Hp} : ∀ {vs : List V} {ds : List D} {i : Nat} {v : V}, RpA K H vs ds → vs[i]? = some v → ∃ d, ds[i]? = some d ∧ Rp K H v d
  | _, _, _, _, .nil, e => by simp at e
  | _, _, 0, _, .cons h r, e => by simp at e; subst e; exact ⟨_, rfl, h⟩
  | _, _, i + 1, d, .cons h r, e => by
    obtain ⟨v, e1, r1⟩ := RpA.getV (i := i) (v := d) r (by simpa using e)
    exact ⟨v, by simpa using e1, r1⟩
theorem RpA.append {K : PySem.W.Frag} {H : Hp} : ∀ {vs us : List V} {ds es : List D}, RpA K H vs ds → RpA K H us es → RpA K H (vs ++ us) (ds ++ es)
  | _, _, _, _, .nil, s => s
  | _, _, _, _, .cons h r, s => .cons h (RpA.append r s)
theorem RpA.take {K : PySem.W.Frag} {H : Hp} : ∀ {vs : List V} {ds : List D} (n : Nat), RpA K H vs ds → RpA K H (vs.take n) (ds.take n)
  | _, _, 0, _ => .nil
  | _, _, _ + 1, .nil => .nil
  | _, _, n + 1, .cons h r => .cons h (RpA.take n r)
theorem RpA.drop {K : PySem.W.Frag} {H : Hp} : ∀ {vs : List V} {ds : List D} (n : Nat), RpA K H vs ds → RpA K H (vs.drop n) (ds.drop n)
  | _, _, 0, r => r
  | _, _, _ + 1, .nil => .nil
  | _, _, n + 1, .cons _ r => RpA.drop n r
theorem RpA.reverse {K : PySem.W.Frag} {H : Hp} {vs : List V} {ds : List D} (h : RpA K H vs ds) : RpA K H vs.reverse ds.reverse := by
  induction vs generalizing ds with
  | nil => cases h; exact .nil
  | cons v vs ih =>
    cases h with
    | cons h r => rw [List.reverse_cons, List.reverse_cons]; exact (ih r).append (.cons h .nil)

theorem RpA.set {K : PySem.W.Frag} {H : Hp} {v : V} {w : D} (q : Rp K H v w) : ∀ {vs : List V} {ds : List D} (n : Nat), RpA K H vs ds → RpA K H (vs.set n v) (ds.set n w)
  | _, _, _, .nil => .nil
  | _, _, 0, .cons _ r => .cons q r
  | _, _, n + 1, .cons h r => .cons h (RpA.set q n r)
theorem RpA.eraseIdx {K : PySem.W.Frag} {H : Hp} : ∀ {vs : List V} {ds : List D} (n : Nat), RpA K H vs ds → RpA K H (vs.eraseIdx n) (ds.eraseIdx n)
  | _, _, _, .nil => .nil
  | _, _, 0, .cons _ r => r
  | _, _, n + 1, .cons h r => .cons h (RpA.eraseIdx n r)
theorem RpA.insertIdx {K : PySem.W.Frag} {H : Hp} {v : V} {w : D} (q : Rp K H v w) : ∀ {vs : List V} {ds : List D} (n : Nat), RpA K H vs ds → RpA K H (vs.insertIdx n v) (ds.insertIdx n w)
  | _, _, 0, .nil => .cons q .nil
  | _, _, _ + 1, .nil => .nil
  | _, _, 0, .cons h r => .cons q (.cons h r)
  | _, _, n + 1, .cons h r => .cons h (RpA.insertIdx q n r)
theorem RpA.one {K : PySem.W.Frag} {H : Hp} {vs : List V} {w : D} (h : RpA K H vs [w]) : ∃ v, vs = [v] ∧ Rp K H v w := by
  cases h with
  | cons a t => cases t; exact ⟨_, rfl, a⟩
theorem RpA.two {K : PySem.W.Frag} {H : Hp} {vs : List V} {w w2 : D} (h : RpA K H vs [w, w2]) : ∃ v v2, vs = [v, v2] ∧ Rp K H v w ∧ Rp K H v2 w2 := by
  cases h with
  | cons a t =>
    obtain ⟨v2, rfl, r2⟩ := RpA.one t
    exact ⟨_, v2, rfl, a, r2⟩
theorem Rp.toRef {K : PySem.W.Frag} {H : Hp} {v : V} {a : Addr} (h : Rp K H v (.ref a)) : v = .ref a := by cases h; rfl
/-- fields -/
abbrev RF (K : PySem.W.Frag) (V0 : Hp) : List (Str × V) → List (Nat × D) → Prop := Paired fun (p : Str × V) (q : Nat × D) => p.1 = nm q.1 ∧ Rp K V0 p.2 q.2

/-- what an owned object holds -/
inductive OO where
  | lst (ws : List D)
  | ins (C : Addr) (fs : List (Nat × D))
  | dK (kvs : List (Key × D))
  | dT (kvs : List (List Key × D))
def RO (K : PySem.W.Frag) (V0 : Hp) (ho : HO) : OO → Prop
  | .lst ws => ∃ vs, ho = .lst vs ∧ RpA K V0 vs ws
  | .ins C fs => ∃ dx vf, ho = .ins C dx vf ∧ RF K V0 vf fs
  | .dK kvs => ∃ vs, ho = .dK vs ∧ RpK K V0 vs kvs
  | .dT kvs => ∃ vs, ho = .dT vs ∧ RpT K V0 vs kvs
theorem RO.mono {K : PySem.W.Frag} {H H' : Hp} (e : Same H H') {ho : HO} : ∀ {oo : OO}, RO K H ho oo → RO K H' ho oo
  | .lst _, ⟨vs, h, r⟩ => ⟨vs, h, r.mono e⟩
  | .ins _ _, ⟨dx, vf, h, r⟩ => ⟨dx, vf, h, Paired.mapP r fun _ _ z => ⟨z.1, z.2.mono e⟩⟩
  | .dK _, ⟨vs, h, r⟩ => ⟨vs, h, r.mono e⟩
  | .dT _, ⟨vs, h, r⟩ => ⟨vs, h, r.mono e⟩
abbrev Os := List (Addr × OO)

/-- H holds, apart from one another: the frame F, the data V0, the owned objects os -/
structure Rel (K : PySem.W.Frag) (F V0 : Hp) (os : Os) (H : Hp) : Prop where
  fr : Same F H
  vi : Same V0 H
  fv : ∀ a o, F a = some o → V0 a = none
  own : ∀ p ∈ os, F p.1 = none ∧ V0 p.1 = none ∧ ∃ ho, H p.1 = some ho ∧ RO K V0 ho p.2
  nd : (os.map (·.1)).Nodup
section
variable {K : PySem.W.Frag} {F V0 H : Hp} {os : Os} {p : Addr}
theorem none_of {H1 H2 : Hp} (e : Same H1 H2) {a : Addr} (h : H2 a = none) : H1 a = none := e.free h
theorem Rel.freshO (r : Rel K F V0 os H) (h : H p = none) : p ∉ os.map (·.1) := fun hm => by
  obtain ⟨q, hq, e⟩ := List.mem_map.mp hm
  obtain ⟨_, _, ho, eh, _⟩ := r.own q hq
  have e' : q.1 = p := e
  rw [e', h] at eh
  cases eh
theorem same_upd {H : Hp} {p : Addr} {o : HO} (h : H p = none) : Same H (upd H p o) := fun a u e => by
  rw [upd_ne (ne_of_none e h)]; exact e
/-- a new thing that never changes -/
theorem Rel.addV (r : Rel K F V0 os H) (h : H p = none) (o : HO) : Rel K F (upd V0 p o) os (upd H p o) := by
  have vp := r.vi.free h
  have fp := r.fr.free h
  have sv : Same V0 (upd V0 p o) := same_upd vp
  refine ⟨fun a u e => ?_, fun a u e => ?_, fun a u e => ?_, fun q hq => ?_, r.nd⟩
  · rw [upd_ne (ne_of_none e fp)]; exact r.fr a u e
  · by_cases ha : a = p
    · subst ha; rw [upd_same] at e ⊢; exact e
    · rw [upd_ne ha] at e ⊢; exact r.vi a u e
  · rw [upd_ne (ne_of_none e fp)]; exact r.fv a u e
  · obtain ⟨h1, h2, ho, h3, h4⟩ := r.own q hq
    have ne : q.1 ≠ p := ne_of_none h3 h
    exact ⟨h1, by rw [upd_ne ne]; exact h2, ho, by rw [upd_ne ne]; exact h3, h4.mono sv⟩
/-- a new owned thing -/
theorem Rel.addO (r : Rel K F V0 os H) (h : H p = none) {ho : HO} {oo : OO} (ro : RO K V0 ho oo) : Rel K F V0 ((p, oo) :: os) (upd H p ho) := by
  have sh : Same H (upd H p ho) := same_upd h
  refine ⟨r.fr.trans sh, r.vi.trans sh, r.fv, fun q hq => ?_, ?_⟩
  · rcases List.mem_cons.mp hq with e | hq
    · subst e; exact ⟨r.fr.free h, r.vi.free h, ho, upd_same, ro⟩
    · obtain ⟨h1, h2, ho', h3, h4⟩ := r.own q hq
      exact ⟨h1, h2, ho', sh _ _ h3, h4⟩
  · rw [List.map_cons, List.nodup_cons]; exact ⟨r.freshO h, r.nd⟩
theorem nd_fst {os : Os} (nd : (os.map (·.1)).Nodup) {i : Nat} {a : Addr} {oo : OO} (h : os[i]? = some (a, oo)) : ∀ p ∈ os, p.1 = a → p = (a, oo) := fun p hp e => by
  obtain ⟨j, hj⟩ := List.getElem?_of_mem hp
  have e1 : (os.map (·.1))[i]? = some a := by rw [List.getElem?_map, h]; rfl
  have e2 : (os.map (·.1))[j]? = some a := by rw [List.getElem?_map, hj]; exact congrArg some e
  have ij := nd_ix nd e1 e2
  subst ij
  rw [h] at hj
  exact (Option.some.inj hj).symm
/-- an owned thing changes -/
theorem Rel.mut (r : Rel K F V0 os H) {i : Nat} {a : Addr} {oo oo' : OO} (h : os[i]? = some (a, oo)) {ho : HO} (ro : RO K V0 ho oo') : Rel K F V0 (os.set i (a, oo')) (upd H a ho) := by
  obtain ⟨h1, h2, _, h3, _⟩ := r.own _ (List.mem_of_getElem? h)
  have hi : i < os.length := (List.getElem?_eq_some_iff.mp h).1
  have em : (os.set i (a, oo')).map (·.1) = os.map (·.1) := by
    rw [List.map_set]
    refine List.ext_getElem? fun j => ?_
    by_cases hj : i = j
    · subst hj
      rw [List.getElem?_set_self (by simpa using hi), List.getElem?_map, h]; rfl
    · rw [List.getElem?_set_ne hj]
  refine ⟨fun b u e => ?_, fun b u e => ?_, r.fv, fun q hq => ?_, by rw [em]; exact r.nd⟩
  · rw [upd_ne (ne_of_none e h1)]; exact r.fr b u e
  · rw [upd_ne (ne_of_none e h2)]; exact r.vi b u e
  · obtain ⟨j, hj⟩ := List.getElem?_of_mem hq
    by_cases hij : i = j
    · subst hij
      rw [List.getElem?_set_self hi] at hj
      have e := Option.some.inj hj
      subst e
      exact ⟨h1, h2, ho, upd_same, ro⟩
    · rw [List.getElem?_set_ne hij] at hj
      obtain ⟨k1, k2, ho', k3, k4⟩ := r.own q (List.mem_of_getElem? hj)
      have ne : q.1 ≠ a := fun e => by
        have e1 : (os.map (·.1))[i]? = some a := by rw [List.getElem?_map, h]; rfl
        have e2 : (os.map (·.1))[j]? = some a := by rw [List.getElem?_map, hj]; exact congrArg some e
        exact hij (nd_ix r.nd e1 e2)
      exact ⟨k1, k2, ho', by rw [upd_ne ne]; exact k3, k4⟩
theorem Rel.perm (r : Rel K F V0 os H) {os' : Os} (h : os.Perm os') : Rel K F V0 os' H :=
  ⟨r.fr, r.vi, r.fv, fun q hq => r.own q (h.mem_iff.mpr hq), (h.map _).nodup_iff.mp r.nd⟩
/-- fewer owned things are told -/
theorem Rel.drop (r : Rel K F V0 os H) {os' : Os} (h : os'.Sublist os) : Rel K F V0 os' H :=
  ⟨r.fr, r.vi, r.fv, fun q hq => r.own q (h.subset hq), r.nd.sublist (h.map _)⟩
/-- an owned list becomes data -/
theorem Rel.freeze (r : Rel K F V0 os H) {i : Nat} {a : Addr} {ds : List D} (h : os[i]? = some (a, .lst ds)) :
    ∃ V1, Same V0 V1 ∧ Rel K F V1 (os.eraseIdx i) H ∧ Rp K V1 (.ref a) (.lst ds) := by
  obtain ⟨h1, h2, ho, h3, vs, rfl, h4⟩ := r.own _ (List.mem_of_getElem? h)
  have sv : Same V0 (upd V0 a (.lst vs)) := same_upd h2
  refine ⟨upd V0 a (.lst vs), sv, ⟨r.fr, fun b u e => ?_, fun b u e => ?_, fun q hq => ?_, r.nd.sublist ((List.eraseIdx_sublist _ _).map _)⟩, .lst (.inl (.inl upd_same)) (RpA.mono sv h4)⟩
  · by_cases hb : b = a
    · subst hb; rw [upd_same] at e; cases e; exact h3
    · rw [upd_ne hb] at e; exact r.vi b u e
  · rw [upd_ne (ne_of_none e h1)]; exact r.fv b u e
  · obtain ⟨j, hj⟩ := List.getElem?_of_mem hq
    obtain ⟨k1, k2, ho', k3, k4⟩ := r.own q ((List.eraseIdx_sublist _ _).subset hq)
    have ne : q.1 ≠ a := fun e => by
      have e1 : (os.map (·.1))[i]? = some a := by rw [List.getElem?_map, h]; rfl
      rw [List.getElem?_eraseIdx] at hj
      split at hj
      · have e2 : (os.map (·.1))[j]? = some a := by rw [List.getElem?_map, hj]; exact congrArg some e
        have := nd_ix r.nd e1 e2
        omega
      · have e2 : (os.map (·.1))[j + 1]? = some a := by rw [List.getElem?_map, hj]; exact congrArg some e
        have := nd_ix r.nd e1 e2
        omega
    exact ⟨k1, by rw [upd_ne ne]; exact k2, ho', k3, k4.mono sv⟩
end

/-- a part of the owned things goes to the frame, and comes back -/
theorem Rel.frame {K : PySem.W.Frag} {F V0 H : Hp} {of or : Os} (r : Rel K F V0 (of ++ or) H) :
    ∃ F2 : Hp, Rel K F2 V0 of H ∧ ∀ (V1 : Hp) (os1 : Os) (H1 : Hp), Same V0 V1 → Rel K F2 V1 os1 H1 → Rel K F V1 (os1 ++ or) H1 := by
  have nd := r.nd
  rw [List.map_append, List.nodup_append] at nd
  obtain ⟨nd1, nd2, nd3⟩ := nd
  refine ⟨fun a => if a ∈ or.map (·.1) then H a else F a, ⟨fun a o e => ?_, r.vi, fun a o e => ?_, fun q hq => ?_, nd1⟩, fun V1 os1 H1 sv r1 => ?_⟩
  · (try dsimp only at e)
    split at e
    · exact e
    · exact r.fr a o e
  · (try dsimp only at e)
    split at e
    · rename_i hm
      obtain ⟨q, hq, rfl⟩ := List.mem_map.mp hm
      exact (r.own q (List.mem_append_right _ hq)).2.1
    · exact r.fv a o e
  · obtain ⟨h1, h2, h3⟩ := r.own q (List.mem_append_left _ hq)
    refine ⟨?_, h2, h3⟩
    (try dsimp only)
    rw [if_neg fun hm => nd3 q.1 (List.mem_map.mpr ⟨q, hq, rfl⟩) q.1 hm rfl]
    exact h1
  · have inF : ∀ q ∈ or, ∃ ho, H q.1 = some ho ∧ RO K V0 ho q.2 ∧ H1 q.1 = some ho ∧ V1 q.1 = none ∧ F q.1 = none := fun q hq => by
      obtain ⟨k1, k2, ho, k3, k4⟩ := r.own q (List.mem_append_right _ hq)
      have e : (if q.1 ∈ or.map (·.1) then H q.1 else F q.1) = some ho := by rw [if_pos (List.mem_map.mpr ⟨q, hq, rfl⟩)]; exact k3
      exact ⟨ho, k3, k4, r1.fr q.1 ho e, r1.fv q.1 ho e, k1⟩
    refine ⟨fun a o e => ?_, r1.vi, fun a o e => ?_, fun q hq => ?_, ?_⟩
    · by_cases hm : a ∈ or.map (·.1)
      · obtain ⟨q, hq, rfl⟩ := List.mem_map.mp hm
        obtain ⟨_, _, _, _, _, kf⟩ := inF q hq
        rw [kf] at e; cases e
      · exact r1.fr a o (by (try dsimp only); rw [if_neg hm]; exact e)
    · by_cases hm : a ∈ or.map (·.1)
      · obtain ⟨q, hq, rfl⟩ := List.mem_map.mp hm
        obtain ⟨_, _, _, _, kv, _⟩ := inF q hq
        exact kv
      · exact r1.fv a o (by (try dsimp only); rw [if_neg hm]; exact e)
    · rcases List.mem_append.mp hq with hq | hq
      · obtain ⟨k1, k2, k3⟩ := r1.own q hq
        refine ⟨?_, k2, k3⟩
        (try dsimp only at k1)
        split at k1
        · rename_i hm
          obtain ⟨q', hq', e⟩ := List.mem_map.mp hm
          obtain ⟨ho, e1, _⟩ := inF q' hq'
          rw [e, k1] at e1; cases e1
        · exact k1
      · obtain ⟨ho, k3, k4, k5, k6, k7⟩ := inF q hq
        exact ⟨k7, k6, ho, k5, k4.mono sv⟩
    · rw [List.map_append, List.nodup_append]
      refine ⟨r1.nd, nd2, fun a ha b hb e => ?_⟩
      subst e
      obtain ⟨q, hq, rfl⟩ := List.mem_map.mp ha
      obtain ⟨k1, _⟩ := r1.own q hq
      obtain ⟨q', hq', e⟩ := List.mem_map.mp hb
      obtain ⟨ho, e1, _⟩ := inF q' hq'
      (try dsimp only at k1)
      rw [if_pos hb] at k1
      rw [e, k1] at e1; cases e1
/-- the frame's slots -/
abbrev DEnv := List (Option D)
def SR (K : PySem.W.Frag) (V0 : Hp) (σ : L2.St) (env : DEnv) : Prop := σ.length = env.length ∧ ∀ (i : Nat) (w : D), env[i]? = some (some w) → ∃ v : V, σ[i]? = some (some v) ∧ Rp K V0 v w
theorem SR.mono {K : PySem.W.Frag} {V0 V1 : Hp} (e : Same V0 V1) {σ : L2.St} {env : DEnv} (h : SR K V0 σ env) : SR K V1 σ env :=
  ⟨h.1, fun i w q => let ⟨v, a, b⟩ := h.2 i w q; ⟨v, a, b.mono e⟩⟩
theorem SR.set {K : PySem.W.Frag} {V0 : Hp} {σ : L2.St} {env : DEnv} (h : SR K V0 σ env) {v : V} {w : D} (r : Rp K V0 v w) (i : Nat) : SR K V0 (σ.set i (some v)) (env.set i (some w)) := by
  refine ⟨by rw [List.length_set, List.length_set]; exact h.1, fun j u q => ?_⟩
  by_cases e : i = j
  · subst e
    have hi : i < env.length := by
      have := (List.getElem?_eq_some_iff.mp q).1
      rw [List.length_set] at this; exact this
    rw [List.getElem?_set_self hi] at q
    cases q
    exact ⟨v, by rw [List.getElem?_set_self (by rw [h.1]; exact hi)], r⟩
  · rw [List.getElem?_set_ne e] at q ⊢
    exact h.2 j u q

/-! ### canonical readings -/
@[irreducible] def wE (X : Cx) (e : Expr) : TE := fun σ H Q => ∀ (pins : List (Addr × Obj)) (s : Shared), Inv X pins σ H s → wpAny (model X.prog X.w) X.A (eval e X.env) (EP X pins σ Q) X.xe s
theorem wE_mk {X : Cx} {e : Expr} {σ : L2.St} {H : Hp} {Q : VK} (h : ∀ (pins : List (Addr × Obj)) (s : Shared), Inv X pins σ H s → wpAny (model X.prog X.w) X.A (eval e X.env) (EP X pins σ Q) X.xe s) : wE X e σ H Q := by unfold wE; exact h
theorem wE_run {X : Cx} {e : Expr} {σ : L2.St} {H : Hp} {Q : VK} (h : wE X e σ H Q) : ∀ (pins : List (Addr × Obj)) (s : Shared), Inv X pins σ H s → wpAny (model X.prog X.w) X.A (eval e X.env) (EP X pins σ Q) X.xe s := by unfold wE at h; exact h
theorem wE_pe {X : Cx} {e : Expr} : PE X e (wE X e) := by unfold wE; exact ⟨fun pins s _ _ _ I h => h pins s I⟩
theorem wE_of {X : Cx} {e : Expr} {t : TE} (h : PE X e t) {σ : L2.St} {H : Hp} {Q : VK} (q : t σ H Q) : wE X e σ H Q := by unfold wE; exact fun pins s I => h.run pins s σ H Q I q
@[irreducible] def wTt (X : Cx) (e : Expr) : TT := fun σ H Q => ∀ (pins : List (Addr × Obj)) (s : Shared), Inv X pins σ H s → wpAny (model X.prog X.w) X.A (isTrue e X.env (eval e X.env)) (TP X pins σ Q) X.xe s
theorem wTt_pt {X : Cx} {e : Expr} : PT X e (wTt X e) := by unfold wTt; exact ⟨fun pins s _ _ _ I h => h pins s I⟩
theorem wTt_of {X : Cx} {e : Expr} {t : TT} (h : PT X e t) {σ : L2.St} {H : Hp} {Q : Bool → Hp → Prop} (q : t σ H Q) : wTt X e σ H Q := by unfold wTt; exact fun pins s I => h.run pins s σ H Q I q
@[irreducible] def wPW (X : Cx) (e : Expr) : TT := fun σ H Q => ∀ (whole : Sem Value) (pins : List (Addr × Obj)) (s : Shared), Inv X pins σ H s → wpAny (model X.prog X.w) X.A (isTrue e X.env whole) (TP X pins σ Q) X.xe s
theorem wPW_pw {X : Cx} {e : Expr} : PW X e (wPW X e) := by unfold wPW; exact ⟨fun wh pins s _ _ _ I h => h wh pins s I⟩
theorem wPW_of {X : Cx} {e : Expr} {t : TT} (h : PW X e t) {σ : L2.St} {H : Hp} {Q : Bool → Hp → Prop} (q : t σ H Q) : wPW X e σ H Q := by unfold wPW; exact fun wh pins s I => h.run wh pins s σ H Q I q
@[irreducible] def wA (X : Cx) (es : List Expr) : TA := fun σ H Q => ∀ (pos : Pos) (pins : List (Addr × Obj)) (s : Shared), Inv X pins σ H s → wpAny (model X.prog X.w) X.A (spliced (backTo pos (starEach es X.env))) (AP X pins σ Q) X.xe s
theorem wA_pa {X : Cx} {es : List Expr} : PA X es (wA X es) := by unfold wA; exact ⟨fun pos pins s _ _ _ I h => h pos pins s I⟩
theorem wA_of {X : Cx} {es : List Expr} {t : TA} (h : PA X es t) {σ : L2.St} {H : Hp} {Q : List V → Hp → Prop} (q : t σ H Q) : wA X es σ H Q := by unfold wA; exact fun pos pins s I => h.run pos pins s σ H Q I q
@[irreducible] def wS1 (X : Cx) (st : Stmt) : TS := fun D σ H => ∀ (pins : List (Addr × Obj)) (s : Shared), Inv X pins σ H s → wpAny (model X.prog X.w) X.A (exec st X.env) (SP X pins D) X.xe s
theorem wS1_ps {X : Cx} {st : Stmt} : PS X st (wS1 X st) := by unfold wS1; exact ⟨fun pins s _ _ _ I h => h pins s I⟩
theorem wS1_of {X : Cx} {st : Stmt} {t : TS} (h : PS X st t) {σ : L2.St} {H : Hp} {D : Ends} (q : t D σ H) : wS1 X st D σ H := by unfold wS1; exact fun pins s I => h.run pins s σ H D I q
@[irreducible] def wSs (X : Cx) (sts : List Stmt) : TS := fun D σ H => ∀ (pins : List (Addr × Obj)) (s : Shared), Inv X pins σ H s → wpAny (model X.prog X.w) X.A (execs sts X.env) (SP X pins D) X.xe s
theorem wSs_pss {X : Cx} {sts : List Stmt} : PSs X sts (wSs X sts) := by unfold wSs; exact ⟨fun pins s _ _ _ I h => h pins s I⟩
theorem wSs_of {X : Cx} {sts : List Stmt} {t : TS} (h : PSs X sts t) {σ : L2.St} {H : Hp} {D : Ends} (q : t D σ H) : wSs X sts D σ H := by unfold wSs; exact fun pins s I => h.run pins s σ H D I q
@[irreducible] def wG (X : Cx) (tg : Expr) : TG := fun v σ H Q => ∀ (pins : List (Addr × Obj)) (s : Shared) (u : Value), Inv X pins σ H s → RelV v u → wpAny (model X.prog X.w) X.A (assign tg X.env u) (fun _ s' => ∃ σ' H', Inv X pins σ' H' s' ∧ Q σ' H') X.xe s
theorem wG_pg {X : Cx} {tg : Expr} : PG X tg (wG X tg) := by unfold wG; exact ⟨fun pins s _ _ _ u _ I r h => h pins s u I r⟩
theorem wG_of {X : Cx} {tg : Expr} {t : TG} (h : PG X tg t) {σ : L2.St} {H : Hp} {v : V} {Q : L2.St → Hp → Prop} (q : t v σ H Q) : wG X tg v σ H Q := by unfold wG; exact fun pins s u I r => h.run pins s σ H v u Q I r q
@[irreducible] def wGs (X : Cx) (tgs : List Expr) : TGs := fun vs σ H Q => ∀ (pins : List (Addr × Obj)) (s : Shared) (us : List Value), Inv X pins σ H s → Vals vs us → wpAny (model X.prog X.w) X.A (assignInOrder ((assignEach tgs X.env).map (·.2)) us) (fun _ s' => ∃ σ' H', Inv X pins σ' H' s' ∧ Q σ' H') X.xe s
theorem wGs_pgs {X : Cx} {tgs : List Expr} : PGs X tgs (wGs X tgs) := by unfold wGs; exact ⟨fun pins s _ _ _ us _ I r h => h pins s us I r⟩
theorem wGs_of {X : Cx} {tgs : List Expr} {t : TGs} (h : PGs X tgs t) {σ : L2.St} {H : Hp} {vs : List V} {Q : L2.St → Hp → Prop} (q : t vs σ H Q) : wGs X tgs vs σ H Q := by unfold wGs; exact fun pins s us I r => h.run pins s σ H vs us Q I r q
/-- a two-place operation on values -/
@[irreducible] def wO (X : Cx) (f : Value → Value → Sem Value) : R2 := fun x y H Q => ∀ (pins : List (Addr × Obj)) (s : Shared) (σ : L2.St) (v u : Value), Inv X pins σ H s → RelV x v → RelV y u → wpAny (model X.prog X.w) X.A (f v u) (EP X pins σ Q) X.xe s
theorem wO_mk {X : Cx} {f : Value → Value → Sem Value} {x y : V} {H : Hp} {Q : VK} (h : ∀ (pins : List (Addr × Obj)) (s : Shared) (σ : L2.St) (v u : Value), Inv X pins σ H s → RelV x v → RelV y u → wpAny (model X.prog X.w) X.A (f v u) (EP X pins σ Q) X.xe s) : wO X f x y H Q := by unfold wO; exact h
theorem wO_op {X : Cx} {f : Value → Value → Sem Value} : OpR X f (wO X f) := by unfold wO; exact fun pins s σ _ _ _ v u _ I r1 r2 h => h pins s σ v u I r1 r2
theorem wO_of {X : Cx} {f : Value → Value → Sem Value} {r : R2} (h : OpR X f r) {x y : V} {H : Hp} {Q : VK} (q : r x y H Q) : wO X f x y H Q := by unfold wO; exact fun pins s σ v u I r1 r2 => h pins s σ H x y v u Q I r1 r2 q
end EV

set_option Elab.async false
set_option linter.all false
set_option maxRecDepth 100000
/-! E2: judgements over plain values, and what an expression does as a transformer. -/
namespace EV
open PySem PySem.Spec PyProof.Rows L2

/-- an exception in the air: its class, its fields -/
structure Exn where
  C : Addr
  fs : List (Nat × D)
def ExnR (K : PySem.W.Frag) (V1 : Hp) (cls : Value) (d : Option Addr) (x : Exn) : Prop := cls = .ref x.C ∧ ∃ (dx : Addr) (vf : List (Str × V)), d = some dx ∧ V1 dx = some (.xd vf) ∧ RF K V1 vf x.fs
theorem ExnR.mono {K : PySem.W.Frag} {V1 V2 : Hp} {cls : Value} {d : Option Addr} {x : Exn} (s : Same V1 V2) (h : ExnR K V1 cls d x) : ExnR K V2 cls d x :=
  let ⟨e, dx, vf, e1, e2, r⟩ := h
  ⟨e, dx, vf, e1, s _ _ e2, Paired.mapP r fun _ _ z => ⟨z.1, z.2.mono s⟩⟩
abbrev Kx := Exn → Os → Prop
structure XkOk (X : Cx) (F V0 : Hp) (σ : L2.St) (kx : Kx) (W : WX) : Prop where
  tk : Takes X W
  ex : ∀ (V1 : Hp) (os1 : Os) (H1 : Hp) (cls : Value) (d : Option Addr) (x : Exn), Same V0 V1 → Rel X.K F V1 os1 H1 → ExnR X.K V1 cls d x → kx x os1 → W cls d σ H1
theorem XkOk.mono {X : Cx} {F V0 V1 : Hp} {σ : L2.St} {kx : Kx} {W : WX} (h : XkOk X F V0 σ kx W) (s : Same V0 V1) : XkOk X F V1 σ kx W :=
  ⟨h.tk, fun V2 os1 H1 cls d x s2 => h.ex V2 os1 H1 cls d x (s.trans s2)⟩
theorem XkOk.none {X : Cx} {F V0 : Hp} {σ : L2.St} : XkOk X F V0 σ (fun _ _ => False) (fun _ _ _ _ => False) := ⟨takes0, fun _ _ _ _ _ _ _ _ _ z => z⟩

def JE (X : Cx) (kx : Kx) (e : Expr) (env : DEnv) (os : Os) (k : D → Os → Prop) : Prop :=
  ∀ (F V0 H : Hp) (σ : L2.St) (Q : VK) (W : WX), Rel X.K F V0 os H → SR X.K V0 σ env → XkOk X F V0 σ kx W →
    (∀ (V1 : Hp) (os1 : Os) (H1 : Hp) (v : V) (w : D), Same V0 V1 → Rel X.K F V1 os1 H1 → Rp X.K V1 v w → k w os1 → Q v H1) → wE X e σ H Q
def JT (X : Cx) (kx : Kx) (e : Expr) (env : DEnv) (os : Os) (k : Bool → Os → Prop) : Prop :=
  ∀ (F V0 H : Hp) (σ : L2.St) (Q : Bool → Hp → Prop) (W : WX), Rel X.K F V0 os H → SR X.K V0 σ env → XkOk X F V0 σ kx W →
    (∀ (V1 : Hp) (os1 : Os) (H1 : Hp) (b : Bool), Same V0 V1 → Rel X.K F V1 os1 H1 → k b os1 → Q b H1) → wTt X e σ H Q
def JPW (X : Cx) (kx : Kx) (e : Expr) (env : DEnv) (os : Os) (k : Bool → Os → Prop) : Prop :=
  ∀ (F V0 H : Hp) (σ : L2.St) (Q : Bool → Hp → Prop) (W : WX), Rel X.K F V0 os H → SR X.K V0 σ env → XkOk X F V0 σ kx W →
    (∀ (V1 : Hp) (os1 : Os) (H1 : Hp) (b : Bool), Same V0 V1 → Rel X.K F V1 os1 H1 → k b os1 → Q b H1) → wPW X e σ H Q
def JA (X : Cx) (kx : Kx) (es : List Expr) (env : DEnv) (os : Os) (k : List D → Os → Prop) : Prop :=
  ∀ (F V0 H : Hp) (σ : L2.St) (Q : List V → Hp → Prop) (W : WX), Rel X.K F V0 os H → SR X.K V0 σ env → XkOk X F V0 σ kx W →
    (∀ (V1 : Hp) (os1 : Os) (H1 : Hp) (vs : List V) (ws : List D), Same V0 V1 → Rel X.K F V1 os1 H1 → RpA X.K V1 vs ws → k ws os1 → Q vs H1) → wA X es σ H Q
/-- a two-place operation by values -/
def JO (X : Cx) (f : Value → Value → Sem Value) (x y : D) (os : Os) (k : D → Os → Prop) : Prop :=
  ∀ (F V0 H : Hp) (v u : V) (Q : VK), Rel X.K F V0 os H → Rp X.K V0 v x → Rp X.K V0 u y →
    (∀ (V1 : Hp) (os1 : Os) (H1 : Hp) (z : V) (w : D), Same V0 V1 → Rel X.K F V1 os1 H1 → Rp X.K V1 z w → k w os1 → Q z H1) → wO X f v u H Q
theorem JE.mono {X : Cx} {kx : Kx} {e : Expr} {env : DEnv} {os : Os} {k k' : D → Os → Prop} (h : JE X kx e env os k) (hk : ∀ w o, k w o → k' w o) : JE X kx e env os k' :=
  fun F V0 H σ Q W r sr ek c => h F V0 H σ Q W r sr ek fun V1 o1 H1 v w a b d q => c V1 o1 H1 v w a b d (hk _ _ q)
theorem JE.drop {X : Cx} {kx : Kx} {e : Expr} {env : DEnv} {os os' : Os} {k : D → Os → Prop} (s : os'.Sublist os) (h : JE X kx e env os' k) : JE X kx e env os k := fun F V0 H σ Q W r => h F V0 H σ Q W (r.drop s)

/-! ### transformers -/
abbrev TrE := Kx → DEnv → Os → (D → Os → Prop) → Prop
abbrev TrT := Kx → DEnv → Os → (Bool → Os → Prop) → Prop
abbrev TrA := Kx → DEnv → Os → (List D → Os → Prop) → Prop
abbrev TrO := D → D → Os → (D → Os → Prop) → Prop
def Cm (X : Cx) (e : Expr) (t : TrE) : Prop := ∀ kx env os k, t kx env os k → JE X kx e env os k
def CmT (X : Cx) (e : Expr) (t : TrT) : Prop := ∀ kx env os k, t kx env os k → JT X kx e env os k
def CmPW (X : Cx) (e : Expr) (t : TrT) : Prop := ∀ kx env os k, t kx env os k → JPW X kx e env os k
def CmA (X : Cx) (es : List Expr) (t : TrA) (n : Nat) : Prop := es.length = n ∧ ∀ kx env os k, t kx env os k → JA X kx es env os fun ws os1 => ws.length = n ∧ k ws os1
def CmO (X : Cx) (f : Value → Value → Sem Value) (t : TrO) : Prop := ∀ x y os k, t x y os k → JO X f x y os k

/-- slots -/
def getE : DEnv → Nat → Option D
  | [], _ => none
  | x :: _, 0 => x
  | _ :: r, n + 1 => getE r n
def setE : DEnv → Nat → Option D → DEnv
  | [], _, _ => []
  | _ :: r, 0, y => y :: r
  | x :: r, n + 1, y => x :: setE r n y
theorem getE_eq : ∀ (env : DEnv) (i : Nat) (w : D), getE env i = some w → env[i]? = some (some w)
  | [], _, _, h => by cases h
  | x :: _, 0, w, h => by
    have h : x = some w := h
    rw [h]; rfl
  | _ :: r, n + 1, w, h => getE_eq r n w h
theorem setE_eq : ∀ (env : DEnv) (i : Nat) (y : Option D), setE env i y = env.set i y
  | [], _, _ => rfl
  | _ :: _, 0, _ => rfl
  | _ :: r, n + 1, y => congrArg (_ :: ·) (setE_eq r n y)

theorem rwI {K : PySem.W.Frag} {H : Hp} {i : Int} : Rp K H (.int i) (.int i) := .int i
theorem rwB {K : PySem.W.Frag} {H : Hp} {i : Bool} : Rp K H (.bl i) (.bl i) := .bl i
theorem rwS {K : PySem.W.Frag} {H : Hp} {i : Str} : Rp K H (.str i) (.str i) := .str i
theorem rwN {K : PySem.W.Frag} {H : Hp} : Rp K H .non .non := .non

section
variable {X : Cx} {kx : Kx} {env : DEnv} {os : Os} {k : D → Os → Prop} {kb : Bool → Os → Prop} {pos : Pos} {a b c e : Expr} {ta tb te : TrE}
theorem je_pure {t : TE} {w : D} (h : PE X e t) (hr : ∀ (F V0 H : Hp) (σ : L2.St) (Q : VK), Rel X.K F V0 os H → SR X.K V0 σ env → (∀ v, Rp X.K V0 v w → Q v H) → t σ H Q) (q : k w os) : JE X kx e env os k :=
  fun F V0 H σ Q W r sr ek c => wE_of h (hr F V0 H σ Q r sr fun v rv => c V0 os H v w (Same.refl _) r rv q)
def eV (i : Nat) : TrE := fun _ env os k => match getE env i with
  | some w => k w os
  | none => False
theorem cm_v {i : Nat} {x : Str} (hN : X.N[i]? = some x) (hv : Vis X.env.scope x) (hd : (x == ("__debug__" : Str)) = false) (hcd : (x == ("__classdict__" : Str)) = false) : Cm X (.Name x pos) (eV i) := by
  intro kx env os k h
  unfold eV at h
  split at h
  · rename_i w he
    refine je_pure (w := w) (pe_var hN hv hd hcd) (fun F V0 H σ Q r sr c => ?_) h
    obtain ⟨v, e1, r1⟩ := sr.2 i w (getE_eq _ _ _ he)
    exact ⟨v, e1, c v r1⟩
  · exact h.elim
/-- a value known beforehand -/
def eC (d : D) : TrE := fun _ _ os k => k d os
theorem cm_int {i : Int} {j} : Cm X (.Constant (.int i) j pos) (eC (.int i)) := fun _ _ _ _ q => je_pure (w := .int i) pe_int (fun _ _ _ _ _ _ _ c => c _ rwI) q
theorem cm_str {x : Str} {j} : Cm X (.Constant (.str x) j pos) (eC (.str x)) := fun _ _ _ _ q => je_pure (w := .str x) pe_str (fun _ _ _ _ _ _ _ c => c _ rwS) q
theorem cm_bl {x : Bool} {j} : Cm X (.Constant (.bool x) j pos) (eC (.bl x)) := fun _ _ _ _ q => je_pure (w := .bl x) pe_bl (fun _ _ _ _ _ _ _ c => c _ rwB) q
theorem cm_non {j} : Cm X (.Constant .none j pos) (eC .non) := fun _ _ _ _ q => je_pure (w := .non) pe_non (fun _ _ _ _ _ _ _ c => c _ rwN) q
/-- a constant of the module -/
structure Glb (K : PySem.W.Frag) (mg : Str → Option Value) (x : Str) (d : D) : Prop where
  ex : ∃ (v : V) (u : Value), mg x = some u ∧ RelV v u ∧ ∀ V0 : Hp, Rp K V0 v d
theorem cm_glob {x : Str} {d : D} (g : Glb X.K X.mg x d) (hg : Gl X x) (hd : (x == ("__debug__" : Str)) = false) : Cm X (.Name x pos) (eC d) := fun _ _ _ _ q => by
  obtain ⟨v, u, h1, h2, h3⟩ := g.ex
  exact je_pure (w := d) (pe_glob hg h1 h2 hd) (fun _ V0 _ _ _ _ _ c => c _ (h3 V0)) q
/-- a built-in class as a value -/
theorem cm_ty {x : Str} {n : String} (hv : bootBuiltins x = some (.type n)) (hm : X.mg x = none) (hg : Gl X x) (hn : x ≠ "__name__") (hd : (x == ("__debug__" : Str)) = false) : Cm X (.Name x pos) (eC (.ty n)) := fun _ _ _ _ q =>
  je_pure (w := .ty n) (pe_bltn hg hm hv (v := .ty n) rfl hn hd) (fun _ _ _ _ _ _ _ c => c _ (Rp.ty n)) q

/-! ### operators -/
def eBin (o : TrO) (ta tb : TrE) : TrE := fun kx env os k => ta kx env os fun x os1 => tb kx env os1 fun y os2 => o x y os2 k
theorem cm_bin {op : Operator} {o : TrO} (ho : CmO X (binaryOp op) o) (ha : Cm X a ta) (hb : Cm X b tb) : Cm X (.BinOp a op b pos) (eBin o ta tb) := by
  intro kx env os k h F V0 H σ Q W r sr ek c
  refine wE_of (pe_op (r := wO X (binaryOp op)) wO_op wE_pe wE_pe) ?_
  refine ha _ _ _ _ h F V0 H σ _ W r sr ek fun V1 os1 H1 v x s1 r1 rx hx => ?_
  refine hb _ _ _ _ hx F V1 H1 σ _ W r1 (sr.mono s1) (ek.mono s1) fun V2 os2 H2 u y s2 r2 ry hy => ?_
  exact ho _ _ _ _ hy F V2 H2 v u Q r2 (rx.mono s2) ry fun V3 os3 H3 z w s3 r3 rw' q => c V3 os3 H3 z w ((s1.trans s2).trans s3) r3 rw' q
theorem cm_cmp {op : CmpOp} {o : TrO} (ho : CmO X (compareOp op) o) (ha : Cm X a ta) (hb : Cm X b tb) (hm : behindInMarks op b = false) : Cm X (.Compare a [op] [b] pos) (eBin o ta tb) := by
  intro kx env os k h F V0 H σ Q W r sr ek c
  refine wE_of (pe_cmpR (r := wO X (compareOp op)) wO_op wE_pe wE_pe hm) ?_
  refine ha _ _ _ _ h F V0 H σ _ W r sr ek fun V1 os1 H1 v x s1 r1 rx hx => ?_
  refine hb _ _ _ _ hx F V1 H1 σ _ W r1 (sr.mono s1) (ek.mono s1) fun V2 os2 H2 u y s2 r2 ry hy => ?_
  exact ho _ _ _ _ hy F V2 H2 v u Q r2 (rx.mono s2) ry fun V3 os3 H3 z w s3 r3 rw' q => c V3 os3 H3 z w ((s1.trans s2).trans s3) r3 rw' q
/-- the answer of a test among values -/
def onB (kb : Bool → Os → Prop) (w : D) (os : Os) : Prop := match w with
  | .bl b => kb b os
  | _ => False
def tCmp (o : TrO) (ta tb : TrE) : TrT := fun kx env os kb => ta kx env os fun x os1 => tb kx env os1 fun y os2 => o x y os2 (onB kb)
theorem onB_bl {kb : Bool → Os → Prop} {w : D} {os : Os} (h : onB kb w os) : ∃ b, w = .bl b ∧ kb b os := by
  unfold onB at h
  split at h
  · exact ⟨_, rfl, h⟩
  · exact h.elim
theorem ct_cmp {op : CmpOp} {o : TrO} (ho : CmO X (compareOp op) o) (ha : Cm X a ta) (hb : Cm X b tb) (hm : behindInMarks op b = false) : CmT X (.Compare a [op] [b] pos) (tCmp o ta tb) := by
  intro kx env os k h F V0 H σ Q W r sr ek c
  refine wTt_of (pt_cmpR (r := wO X (compareOp op)) wO_op wE_pe wE_pe hm) ?_
  refine ha _ _ _ _ h F V0 H σ _ W r sr ek fun V1 os1 H1 v x s1 r1 rx hx => ?_
  refine hb _ _ _ _ hx F V1 H1 σ _ W r1 (sr.mono s1) (ek.mono s1) fun V2 os2 H2 u y s2 r2 ry hy => ?_
  refine ho _ _ _ _ hy F V2 H2 v u _ r2 (rx.mono s2) ry fun V3 os3 H3 z w s3 r3 rw' q => ?_
  obtain ⟨bo, e, q⟩ := onB_bl q
  subst e
  cases rw'
  exact ⟨bo, rfl, c V3 os3 H3 bo ((s1.trans s2).trans s3) r3 q⟩
/-- a op1 b op2 c as a test -/
def tChain (o o' : TrO) (ta tb tc : TrE) : TrT := fun kx env os kb => ta kx env os fun x os1 => tb kx env os1 fun y os2 => o x y os2 fun w os3 => onB (fun b1 os3 =>
  (b1 = true → tc kx env os3 fun z os4 => o' y z os4 (onB kb)) ∧ (b1 = false → kb false os3)) w os3
theorem ct_chain {op op' : CmpOp} {o o' : TrO} {tc : TrE} (ho : CmO X (compareOp op) o) (ho' : CmO X (compareOp op') o') (ha : Cm X a ta) (hb : Cm X b tb) (hc : Cm X c tc)
    (hm : lastMarks [op, op'] [b, c] = false) : CmT X (.Compare a [op, op'] [b, c] pos) (tChain o o' ta tb tc) := by
  intro kx env os k h F V0 H σ Q W r sr ek cc
  refine wTt_of (pt_chain (r := wO X (compareOp op)) (r' := wO X (compareOp op')) wO_op wO_op wE_pe wE_pe wE_pe hm) ?_
  refine ha _ _ _ _ h F V0 H σ _ W r sr ek fun V1 os1 H1 v x s1 r1 rx hx => ?_
  refine hb _ _ _ _ hx F V1 H1 σ _ W r1 (sr.mono s1) (ek.mono s1) fun V2 os2 H2 u y s2 r2 ry hy => ?_
  refine ho _ _ _ _ hy F V2 H2 v u _ r2 (rx.mono s2) ry fun V3 os3 H3 z w s3 r3 rw' q => ?_
  obtain ⟨bo, e, q1, q2⟩ := onB_bl q
  subst e
  cases rw'
  refine ⟨bo, rfl, ?_⟩
  cases bo with
  | false => exact iteF ⟨false, rfl, cc V3 os3 H3 false ((s1.trans s2).trans s3) r3 (q2 rfl)⟩
  | true =>
    refine iteT ?_
    refine hc _ _ _ _ (q1 rfl) F V3 H3 σ _ W r3 (sr.mono ((s1.trans s2).trans s3)) (ek.mono ((s1.trans s2).trans s3)) fun V4 os4 H4 v4 z4 s4 r4 rz hz => ?_
    refine ho' _ _ _ _ hz F V4 H4 u v4 _ r4 (ry.mono (s3.trans s4)) rz fun V5 os5 H5 z5 w5 s5 r5 rw5 q => ?_
    obtain ⟨bo2, e2, q3⟩ := onB_bl q
    subst e2
    cases rw5
    exact ⟨bo2, rfl, cc V5 os5 H5 bo2 ((((s1.trans s2).trans s3).trans s4).trans s5) r5 q3⟩

theorem JO.mk {f : Value → Value → Sem Value} {r : R2} {x y : D} (hf : OpR X f r)
    (h : ∀ (F V0 H : Hp) (v u : V) (Q : VK), Rel X.K F V0 os H → Rp X.K V0 v x → Rp X.K V0 u y →
      (∀ (V1 : Hp) (os1 : Os) (H1 : Hp) (z : V) (w : D), Same V0 V1 → Rel X.K F V1 os1 H1 → Rp X.K V1 z w → k w os1 → Q z H1) → r v u H Q) : JO X f x y os k :=
  fun F V0 H v u Q r1 rx ry c => wO_of hf (h F V0 H v u Q r1 rx ry c)
theorem jo_rI {f : Value → Value → Sem Value} {C : Int → Int → Prop} {g : Int → Int → Int} {i j : Int} (hf : OpR X f (rI C fun i j => .int (g i j))) (hc : C i j) (q : k (.int (g i j)) os) : JO X f (.int i) (.int j) os k :=
  JO.mk hf fun F V0 H v u Q r rx ry c => by
    cases rx; cases ry
    exact ⟨i, j, rfl, rfl, hc, c V0 os H _ _ (Same.refl _) r rwI q⟩
theorem jo_rI0 {f : Value → Value → Sem Value} {g : Int → Int → Int} {i j : Int} (hf : OpR X f (rI0 fun i j => .int (g i j))) (q : k (.int (g i j)) os) : JO X f (.int i) (.int j) os k :=
  JO.mk hf fun F V0 H v u Q r rx ry c => by
    cases rx; cases ry
    exact ⟨i, j, rfl, rfl, c V0 os H _ _ (Same.refl _) r rwI q⟩
theorem jo_rB0 {f : Value → Value → Sem Value} {g : Int → Int → Bool} {i j : Int} (hf : OpR X f (rI0 fun i j => .bl (g i j))) (q : k (.bl (g i j)) os) : JO X f (.int i) (.int j) os k :=
  JO.mk hf fun F V0 H v u Q r rx ry c => by
    cases rx; cases ry
    exact ⟨i, j, rfl, rfl, c V0 os H _ _ (Same.refl _) r rwB q⟩
/-- an operation on two ints with a condition -/
def oI (C : Int → Int → Prop) (g : Int → Int → Int) : TrO := fun x y os k => match x, y with
  | .int i, .int j => C i j ∧ k (.int (g i j)) os
  | _, _ => False
def oI0 (g : Int → Int → Int) : TrO := fun x y os k => match x, y with
  | .int i, .int j => k (.int (g i j)) os
  | _, _ => False
def oB0 (g : Int → Int → Bool) : TrO := fun x y os k => match x, y with
  | .int i, .int j => k (.bl (g i j)) os
  | _, _ => False
theorem cmo_I {f : Value → Value → Sem Value} {C C' : Int → Int → Prop} {g : Int → Int → Int} (hf : OpR X f (rI C fun i j => .int (g i j))) (hc : ∀ i j, C' i j → C i j) : CmO X f (oI C' g) := by
  intro x y os k h
  unfold oI at h
  split at h
  · exact jo_rI hf (hc _ _ h.1) h.2
  · exact h.elim
theorem cmo_I0 {f : Value → Value → Sem Value} {g : Int → Int → Int} (hf : OpR X f (rI0 fun i j => .int (g i j))) : CmO X f (oI0 g) := by
  intro x y os k h
  unfold oI0 at h
  split at h
  · exact jo_rI0 hf h
  · exact h.elim
theorem cmo_B0 {f : Value → Value → Sem Value} {g : Int → Int → Bool} (hf : OpR X f (rI0 fun i j => .bl (g i j))) : CmO X f (oB0 g) := by
  intro x y os k h
  unfold oB0 at h
  split at h
  · exact jo_rB0 hf h
  · exact h.elim
def MulOk (i j : Int) : Prop := (-18446744073709551616 < i ∧ i < 18446744073709551616) ∨ (-18446744073709551616 < j ∧ j < 18446744073709551616) ∨ CMulW i j
def DivOk (_ j : Int) : Prop := 0 < j ∧ j < 340282366920938463463374607431768211456
def ModOk (_ j : Int) : Prop := 0 < j
def PowOk (i j : Int) : Prop := 0 ≤ j ∧ j ≤ 1000000 ∧ -18446744073709551616 < i ∧ i < 18446744073709551616
def ShrOk (_ j : Int) : Prop := 0 ≤ j
def oSub : TrO := fun x y os k => match x, y with
  | .int i, .int j => k (.int (i - j)) os
  | _, _ => False
def oMul : TrO := fun x y os k => match x, y with
  | .int i, .int j => MulOk i j ∧ k (.int (i * j)) os
  | _, _ => False
def oDiv : TrO := fun x y os k => match x, y with
  | .int i, .int j => DivOk i j ∧ k (.int (i / j)) os
  | _, _ => False
def oMod : TrO := fun x y os k => match x, y with
  | .int i, .int j => ModOk i j ∧ k (.int (i % j)) os
  | _, _ => False
def oPow : TrO := fun x y os k => match x, y with
  | .int i, .int j => PowOk i j ∧ k (.int (i ^ j.toNat)) os
  | _, _ => False
def oShl : TrO := fun x y os k => match x, y with
  | .int i, .int j => PowOk i j ∧ k (.int (i * 2 ^ j.toNat)) os
  | _, _ => False
def oShr : TrO := fun x y os k => match x, y with
  | .int i, .int j => ShrOk i j ∧ k (.int (i / 2 ^ j.toNat)) os
  | _, _ => False
def oBand : TrO := fun x y os k => match x, y with
  | .int i, .int j => k (.int (Builtin.bitAnd i j)) os
  | _, _ => False
def oBor : TrO := fun x y os k => match x, y with
  | .int i, .int j => k (.int (Builtin.bitOr i j)) os
  | _, _ => False
def oBxor : TrO := fun x y os k => match x, y with
  | .int i, .int j => k (.int (Builtin.bitXor i j)) os
  | _, _ => False
def oLt : TrO := fun x y os k => match x, y with
  | .int i, .int j => k (.bl (decide (i < j))) os
  | _, _ => False
def oLe : TrO := fun x y os k => match x, y with
  | .int i, .int j => k (.bl (decide (i ≤ j))) os
  | _, _ => False
def oGt : TrO := fun x y os k => match x, y with
  | .int i, .int j => k (.bl (decide (j < i))) os
  | _, _ => False
def oGe : TrO := fun x y os k => match x, y with
  | .int i, .int j => k (.bl (decide (j ≤ i))) os
  | _, _ => False
theorem cmo_sub : CmO X (binaryOp .Sub) oSub := cmo_I0 op_sub
theorem pow64 : (2 : Nat) ^ 64 = 18446744073709551616 := by decide
theorem cmo_mul : CmO X (binaryOp .Mult) oMul := by
  intro x y os k h
  unfold oMul at h
  split at h
  · obtain ⟨hc | hc | hc, q⟩ := h
    · exact jo_rI op_mul (.inl hc) q
    · exact jo_rI op_mul (.inr hc) q
    · exact jo_rI op_mulW hc q
  · exact h.elim
theorem cmo_div : CmO X (binaryOp .FloorDiv) oDiv := cmo_I op_fdivW fun i j h => wide_div (b := 128) h.1 (by rw [show (2 : Nat) ^ 128 = 340282366920938463463374607431768211456 from by decide]; have := h.1; have := h.2; omega) (by decide) (by decide)
theorem cmo_mod : CmO X (binaryOp .Mod) oMod := cmo_I op_mod fun _ _ h => h
theorem cmo_pow : CmO X (binaryOp .Pow) oPow := cmo_I op_pow fun i j h => ⟨h.1, h.2.1, by rw [pow64]; have := h.2.2; omega⟩
theorem cmo_shl : CmO X (binaryOp .LShift) oShl := cmo_I op_shl fun i j h => ⟨h.1, h.2.1, by rw [pow64]; have := h.2.2; omega⟩
theorem cmo_shr : CmO X (binaryOp .RShift) oShr := cmo_I op_shr fun _ _ h => h
theorem cmo_band : CmO X (binaryOp .BitAnd) oBand := cmo_I0 op_and
theorem cmo_bor : CmO X (binaryOp .BitOr) oBor := cmo_I0 op_or
theorem cmo_bxor : CmO X (binaryOp .BitXor) oBxor := cmo_I0 op_xor
theorem cmo_lt : CmO X (compareOp .Lt) oLt := cmo_B0 op_lt
theorem cmo_le : CmO X (compareOp .LtE) oLe := cmo_B0 op_le
theorem cmo_gt : CmO X (compareOp .Gt) oGt := cmo_B0 op_gt
theorem cmo_ge : CmO X (compareOp .GtE) oGe := cmo_B0 op_ge
/-- the list behind an address or in data -/
theorem rp_lst {K : PySem.W.Frag} {V0 : Hp} {v : V} {ds : List D} (h : Rp K V0 v (.lst ds)) : ∃ a xs, v = .ref a ∧ SqL K V0 a xs ∧ RpA K V0 xs ds := by
  cases h with
  | lst h1 h2 => exact ⟨_, _, rfl, h1, h2⟩
theorem rp_tup {K : PySem.W.Frag} {V0 : Hp} {v : V} {ds : List D} (h : Rp K V0 v (.tup ds)) : ∃ a xs, v = .ref a ∧ SqT K V0 a xs ∧ RpA K V0 xs ds := by
  cases h with
  | tup h1 h2 => exact ⟨_, _, rfl, h1, h2⟩
/-- w is a list of ds: data, or owned -/
def LstOf (os : Os) (w : D) (ds : List D) : Prop := match w with
  | .lst es => ds = es
  | .ref p => ∃ n : Nat, os[n]? = some (p, .lst ds)
  | _ => False
theorem lstOf_of {K : PySem.W.Frag} {F V0 H : Hp} {v : V} {w : D} {ds : List D} (r : Rel K F V0 os H) (rv : Rp K V0 v w) (h : LstOf os w ds) : ∃ a vs, v = .ref a ∧ SqL K H a vs ∧ RpA K V0 vs ds := by
  unfold LstOf at h
  split at h
  · subst h
    obtain ⟨a, xs, rfl, h1, h2⟩ := rp_lst rv
    exact ⟨a, xs, rfl, r.vi.seq h1, h2⟩
  · obtain ⟨n, ho⟩ := h
    obtain rfl := rv.toRef
    obtain ⟨_, _, ho', h3, vs, rfl, h4⟩ := r.own _ (List.mem_of_getElem? ho)
    exact ⟨_, vs, rfl, SqL.of h3, h4⟩
  · exact h.elim
/-- a new tuple, a new list, of data -/
theorem rel_newT {K : PySem.W.Frag} {F V0 H : Hp} {p : Addr} {vs : List V} {ds : List D} (r : Rel K F V0 os H) (hp : H p = none) (rs : RpA K V0 vs ds) :
    Same V0 (upd V0 p (.tup vs)) ∧ Rel K F (upd V0 p (.tup vs)) os (upd H p (.tup vs)) ∧ Rp K (upd V0 p (.tup vs)) (.ref p) (.tup ds) :=
  have s := same_upd (o := .tup vs) (r.vi.free hp)
  ⟨s, r.addV hp _, .tup (.inl (.inl upd_same)) (RpA.mono s rs)⟩
theorem rel_newL {K : PySem.W.Frag} {F V0 H : Hp} {p : Addr} {vs : List V} {ds : List D} (r : Rel K F V0 os H) (hp : H p = none) (rs : RpA K V0 vs ds) :
    Same V0 (upd V0 p (.lst vs)) ∧ Rel K F (upd V0 p (.lst vs)) os (upd H p (.lst vs)) ∧ Rp K (upd V0 p (.lst vs)) (.ref p) (.lst ds) :=
  have s := same_upd (o := .lst vs) (r.vi.free hp)
  ⟨s, r.addV hp _, .lst (.inl (.inl upd_same)) (RpA.mono s rs)⟩
/-- list + list -/
def rCatS (K : PySem.W.Frag) : R2 := fun x y H Q => ∃ a b xs ys, x = .ref a ∧ y = .ref b ∧ SqL K H a xs ∧ SqL K H b ys ∧ xs.length + ys.length ≤ sizeLine ∧ ∀ l, H l = none → Q (.ref l) (upd H l (.lst (xs ++ ys)))
end
end EV

set_option Elab.async false
set_option linter.all false
set_option maxRecDepth 100000
/-! E3: +, ==, in, is; tests; displays; subscripts; slices. -/
namespace EV
open PySem PySem.Spec PyProof.Rows L2
section
variable {X : Cx} {os : Os} {k : D → Os → Prop} {env : DEnv}
theorem op_catS : OpR X (binaryOp .Add) (rCatS X.K) := by
  intro pins s σ H x y v u Q I rx ry h
  obtain ⟨a, b, xs, ys, rfl, rfl, h1, h2, hz, q⟩ := h
  cases rx
  cases ry
  obtain ⟨us, r1, ⟨⟨cls, dd, data, sl⟩, n, ho, hc, hn, hd⟩, _⟩ := I.list h1
  obtain ⟨ws, r2, ⟨⟨cls2, dd2, data2, sl2⟩, n2, ho2, hc2, hn2, hd2⟩, _⟩ := I.list h2
  simp only at hc hd hc2 hd2
  subst hc hd hc2 hd2
  have hl : (us ++ ws).length ≤ sizeLine := by rw [List.length_append, ← r1.length, ← r2.length]; exact hz
  have ee : us.toArray ++ ws.toArray = (us ++ ws).toArray := by simp
  have kk := list_addW a b us.toArray ws.toArray n n2 dd dd2 sl sl2 (by rw [List.length_append] at hl; simpa using hl)
  refine concat_meets ⟨_, ho, rfl⟩ ⟨_, ho2, rfl⟩ noFill_list_add seq_list_add PySem.F.slot_list_add PySem.F.entry_list_add (PySem.F.args_list_add_2 _ _) kk ⟨ho, ho2, ?_⟩
  rw [ee]
  exact ⟨.ref _, _, I.lnew (t' := s.toks) (r1.append r2) (by rw [(r1.append r2).length]; exact hl), rfl, q _ I.fresh⟩
theorem jo_cat {x y : D} {ds es : List D} (hx : LstOf os x ds) (hy : LstOf os y es) (hl : ds.length + es.length ≤ sizeLine) (q : k (.lst (ds ++ es)) os) : JO X (binaryOp .Add) x y os k :=
  JO.mk op_catS fun F V0 H v u Q r rx ry c => by
    obtain ⟨a, xs, rfl, h1, r1⟩ := lstOf_of r rx hx
    obtain ⟨b, ys, rfl, h2, r2⟩ := lstOf_of r ry hy
    refine ⟨a, b, xs, ys, rfl, rfl, h1, h2, by rw [r1.length, r2.length]; exact hl, fun p hp => ?_⟩
    obtain ⟨s2, r3, rp⟩ := rel_newL r hp (r1.append r2)
    exact c _ os _ _ (.lst (ds ++ es)) s2 r3 rp q
theorem jo_catO {x y : D} {ds es : List D} (hx : LstOf os x ds) (hy : LstOf os y es) (hl : ds.length + es.length ≤ sizeLine) (q : ∀ p, k (.ref p) ((p, .lst (ds ++ es)) :: os)) : JO X (binaryOp .Add) x y os k :=
  JO.mk op_catS fun F V0 H v u Q r rx ry c => by
    obtain ⟨a, xs, rfl, h1, r1⟩ := lstOf_of r rx hx
    obtain ⟨b, ys, rfl, h2, r2⟩ := lstOf_of r ry hy
    refine ⟨a, b, xs, ys, rfl, rfl, h1, h2, by rw [r1.length, r2.length]; exact hl, fun p hp => ?_⟩
    exact c V0 _ _ _ (.ref p) (Same.refl _) (r.addO hp (oo := .lst (ds ++ es)) ⟨_, rfl, r1.append r2⟩) (.ref p) (q p)
theorem jo_addS {x y : Str} (h : x.length + y.length ≤ sizeLine) (q : k (.str (x ++ y)) os) : JO X (binaryOp .Add) (.str x) (.str y) os k :=
  JO.mk op_add_str fun F V0 H v u Q r rx ry c => by
    cases rx; cases ry
    exact ⟨x, y, rfl, rfl, h, c V0 os H _ _ (Same.refl _) r rwS q⟩
def catL (x y : D) (os : Os) (k : D → Os → Prop) : Prop := ∃ ds es, LstOf os x ds ∧ LstOf os y es ∧ ds.length + es.length ≤ sizeLine ∧ k (.lst (ds ++ es)) os
def oAdd : TrO := fun x y os k => match x with
  | .int i => (match y with
    | .int j => k (.int (i + j)) os
    | _ => False)
  | .str a => (match y with
    | .str b => a.length + b.length ≤ sizeLine ∧ k (.str (a ++ b)) os
    | _ => False)
  | .lst ds => (match y with
    | .lst es => ds.length + es.length ≤ sizeLine ∧ k (.lst (ds ++ es)) os
    | y => catL (.lst ds) y os k)
  | x => catL x y os k
theorem cmo_add : CmO X (binaryOp .Add) oAdd := by
  intro x y os k h
  have gen : ∀ x y, catL x y os k → JO X (binaryOp .Add) x y os k := fun x y ⟨ds, es, h1, h2, h3, q⟩ => jo_cat h1 h2 h3 q
  unfold oAdd at h
  split at h
  · split at h
    · exact jo_rI0 op_add h
    · exact h.elim
  · split at h
    · exact jo_addS h.1 h.2
    · exact h.elim
  · split at h
    · exact jo_cat (ds := _) (es := _) rfl rfl h.1 h.2
    · exact gen _ _ h
  · exact gen _ _ h
/-- list + list, the new one owned -/
def oAddO : TrO := fun x y os k => ∃ ds es, LstOf os x ds ∧ LstOf os y es ∧ ds.length + es.length ≤ sizeLine ∧ ∀ p, k (.ref p) ((p, .lst (ds ++ es)) :: os)
theorem cmo_addO : CmO X (binaryOp .Add) oAddO := fun x y os k ⟨ds, es, h1, h2, h3, q⟩ => jo_catO h1 h2 h3 q
end

/-! ### == -/
mutual
def toP : D → PyData
  | .non => .none
  | .bl b => .bool b
  | .int i => .int i
  | .str x => .str x
  | .ty _ => .none
  | .tup ds => .tuple (toPs ds)
  | .lst ds => .list (toPs ds)
  | .dK _ => .none
  | .dT _ => .none
  | .exn .. => .none
  | .ref _ => .none
def toPs : List D → List PyData
  | [] => []
  | d :: ds => toP d :: toPs ds
end
mutual
/-- no types inside, not too deep, texts that can be held -/
def shp : D → Nat → Bool
  | .non, _ => true
  | .bl _, _ => true
  | .int _, _ => true
  | .str x, _ => PyData.canLay0 (.str x)
  | .ty _, _ => false
  | .tup ds, n => decide (0 < n) && shpA ds (n - 1)
  | .lst ds, n => decide (0 < n) && shpA ds (n - 1)
  | .dK _, _ => false
  | .dT _, _ => false
  | .exn .., _ => false
  | .ref _, _ => false
def shpA : List D → Nat → Bool
  | [], _ => true
  | d :: ds, n => shp d n && shpA ds n
end
theorem toPs_map (ds : List D) : toPs ds = ds.map toP := by
  induction ds with
  | nil => rfl
  | cons d ds ih => rw [toPs, ih, List.map_cons]
theorem shpA_all {ds : List D} {n : Nat} : shpA ds n = true ↔ ∀ d ∈ ds, shp d n = true := by
  induction ds with
  | nil => simp [shpA]
  | cons d ds ih => rw [shpA, Bool.and_eq_true, ih]; simp
mutual
theorem shp_lay : ∀ {d : D} {n : Nat}, shp d n = true → (toP d).canLay0 = true ∧ (toP d).depth ≤ n + 1
  | .non, n, _ => by simp [toP, PyData.canLay0, PyData.depth]
  | .bl b, n, _ => by simp [toP, PyData.canLay0, PyData.depth]
  | .int i, n, _ => by simp [toP, PyData.canLay0, PyData.depth]
  | .str x, n, h => ⟨h, by simp [toP, PyData.depth]⟩
  | .tup ds, n, h => by
    rw [shp, Bool.and_eq_true, decide_eq_true_iff] at h
    obtain ⟨h1, h2⟩ := shpA_lay h.2
    simp only [toP, PyData.canLay0, PyData.depth]
    exact ⟨h1, by omega⟩
  | .lst ds, n, h => by
    rw [shp, Bool.and_eq_true, decide_eq_true_iff] at h
    obtain ⟨h1, h2⟩ := shpA_lay h.2
    simp only [toP, PyData.canLay0, PyData.depth]
    exact ⟨h1, by omega⟩
theorem shpA_lay : ∀ {ds : List D} {n : Nat}, shpA ds n = true → PyData.canLayAll0 (toPs ds) = true ∧ PyData.depthAll (toPs ds) ≤ n + 1
  | [], n, _ => by simp [toPs, PyData.canLayAll0, PyData.depthAll]
  | d :: ds, n, h => by
    rw [shpA, Bool.and_eq_true] at h
    obtain ⟨h1, h2⟩ := shp_lay h.1
    obtain ⟨h3, h4⟩ := shpA_lay h.2
    simp only [toPs, PyData.canLayAll0, PyData.depthAll, Bool.and_eq_true]
    exact ⟨⟨h1, h3⟩, by omega⟩
end
theorem shp_shaped {d : D} (h : shp d 60 = true) : SeqAt.shaped (toP d) = true := by
  obtain ⟨h1, h2⟩ := shp_lay h
  show (PyData.canLay0 (toP d) && decide ((toP d).depth ≤ 64)) = true
  rw [h1, Bool.true_and, decide_eq_true_iff]
  omega
mutual
/-- w is the data d: owned lists inside are read -/
inductive AsD (os : Os) : D → D → Prop
  | same (d : D) : AsD os d d
  | tup {ws ds : List D} : AsDs os ws ds → AsD os (.tup ws) (.tup ds)
  | lst {ws ds : List D} : AsDs os ws ds → AsD os (.lst ws) (.lst ds)
  | own {p : Addr} {n : Nat} {ws ds : List D} : os[n]? = some (p, .lst ws) → AsDs os ws ds → AsD os (.ref p) (.lst ds)
inductive AsDs (os : Os) : List D → List D → Prop
  | same (ds : List D) : AsDs os ds ds
  | nil : AsDs os [] []
  | cons {w d : D} {ws ds : List D} : AsD os w d → AsDs os ws ds → AsDs os (w :: ws) (d :: ds)
end
theorem AsD.own1 {os : Os} {p : Addr} {n : Nat} {ws : List D} (h : os[n]? = some (p, .lst ws)) : AsD os (.ref p) (.lst ws) := .own h (.same ws)
mutual
theorem dp_of {K : PySem.W.Frag} {H : Hp} : ∀ {d : D} {v : V} {n : Nat}, shp d n = true → Rp K H v d → Dp K H v (toP d)
  | .non, _, _, _, h => by cases h; exact .non
  | .bl b, _, _, _, h => by cases h; exact .bl b
  | .int b, _, _, _, h => by cases h; exact .int b
  | .str b, _, _, _, h => by cases h; exact .str b
  | .tup ds, _, n, s, h => by
    rw [shp, Bool.and_eq_true] at s
    cases h with
    | tup h1 h2 => exact .tup h1 (dpA_of s.2 h2)
  | .lst ds, _, n, s, h => by
    rw [shp, Bool.and_eq_true] at s
    cases h with
    | lst h1 h2 => exact .lst h1 (dpA_of s.2 h2)
theorem dpA_of {K : PySem.W.Frag} {H : Hp} : ∀ {ds : List D} {vs : List V} {n : Nat}, shpA ds n = true → RpA K H vs ds → DpAll K H vs (toPs ds)
  | [], _, _, _, h => by cases h; exact .nil
  | d :: ds, _, n, s, h => by
    rw [shpA, Bool.and_eq_true] at s
    cases h with
    | cons h1 h2 => exact .cons (dp_of s.1 h1) (dpA_of s.2 h2)
end
mutual
theorem asD_dp {K : PySem.W.Frag} {F V0 H : Hp} {os : Os} (r : Rel K F V0 os H) : ∀ {w d : D} {v : V} {n : Nat}, AsD os w d → shp d n = true → Rp K V0 v w → Dp K H v (toP d)
  | _, _, _, _, .same d, s, rv => dp_of s (Rp.mono r.vi rv)
  | _, _, _, n, .tup h, s, rv => by
    rw [shp, Bool.and_eq_true] at s
    cases rv with
    | tup h1 h2 => exact .tup (same_sqT r.vi h1) (asDs_dp r h s.2 h2)
  | _, _, _, n, .lst h, s, rv => by
    rw [shp, Bool.and_eq_true] at s
    cases rv with
    | lst h1 h2 => exact .lst (r.vi.seq h1) (asDs_dp r h s.2 h2)
  | _, _, _, n, .own ho h, s, rv => by
    rw [shp, Bool.and_eq_true] at s
    obtain rfl := rv.toRef
    obtain ⟨_, _, ho', h3, vs, rfl, h4⟩ := r.own _ (List.mem_of_getElem? ho)
    exact .lst (SqL.of h3) (asDs_dp r h s.2 h4)
theorem asDs_dp {K : PySem.W.Frag} {F V0 H : Hp} {os : Os} (r : Rel K F V0 os H) : ∀ {ws ds : List D} {vs : List V} {n : Nat}, AsDs os ws ds → shpA ds n = true → RpA K V0 vs ws → DpAll K H vs (toPs ds)
  | _, _, _, _, .same d, s, rv => dpA_of s (RpA.mono r.vi rv)
  | _, _, _, _, .nil, s, rv => by cases rv; exact .nil
  | _, _, _, _, .cons h1 h2, s, rv => by
    rw [shpA, Bool.and_eq_true] at s
    cases rv with
    | cons a b => exact .cons (asD_dp r h1 s.1 a) (asDs_dp r h2 s.2 b)
end
def eqD (d e : D) : Bool := PyData.eqv (toP d) (toP e)
def genEq (x y : D) (os : Os) (k : Bool → Prop) : Prop := ∃ d e, AsD os x d ∧ AsD os y e ∧ shp d 60 = true ∧ shp e 60 = true ∧ k (eqD d e)
/-- data that == tells apart by their value -/
def scalD : D → V
  | .non => .non | .bl b => .bl b | .int i => .int i | .str x => .str x | .ty n => .ty n | _ => .flt 0
def isScal : D → Bool
  | .non => true | .bl _ => true | .int _ => true | .str _ => true | _ => false
theorem rp_scal {K : PySem.W.Frag} {V0 : Hp} {v : V} : ∀ {d : D}, isScal d = true → Rp K V0 v d → v = scalD d
  | .non, _, h => by cases h; rfl
  | .bl _, _, h => by cases h; rfl
  | .int _, _, h => by cases h; rfl
  | .str _, _, h => by cases h; rfl
def oEq : TrO := fun x y os k => match x with
  | .int i => (match y with
    | .int j => k (.bl (decide (i = j))) os
    | y => genEq (.int i) y os fun b => k (.bl b) os)
  | .str i => (match y with
    | .str j => k (.bl (decide (i = j))) os
    | y => genEq (.str i) y os fun b => k (.bl b) os)
  | .bl i => (match y with
    | .bl j => k (.bl (decide (i = j))) os
    | y => genEq (.bl i) y os fun b => k (.bl b) os)
  | x => genEq x y os fun b => k (.bl b) os
def oNe : TrO := fun x y os k => match x with
  | .int i => (match y with
    | .int j => k (.bl (!decide (i = j))) os
    | y => genEq (.int i) y os fun b => k (.bl (!b)) os)
  | .str i => (match y with
    | .str j => k (.bl (!decide (i = j))) os
    | y => genEq (.str i) y os fun b => k (.bl (!b)) os)
  | .bl i => (match y with
    | .bl j => k (.bl (!decide (i = j))) os
    | y => genEq (.bl i) y os fun b => k (.bl (!b)) os)
  | x => genEq x y os fun b => k (.bl (!b)) os
section
variable {X : Cx} {os : Os} {k : D → Os → Prop} {env : DEnv} {kb : Bool → Os → Prop}
theorem jo_gen {lvl : Nat} {x y : D} (hr : Room lvl X.A) (h : genEq x y os fun b => k (.bl b) os) : JO X (compareOp .Eq) x y os k := by
  obtain ⟨d, e, h1, h2, s1, s2, q⟩ := h
  exact JO.mk (op_eqD hr.units) fun F V0 H v u Q r rx ry c => ⟨_, _, asD_dp r h1 s1 rx, asD_dp r h2 s2 ry, shp_shaped s1, shp_shaped s2, c V0 os H _ _ (Same.refl _) r rwB q⟩
theorem jo_genN {lvl : Nat} {x y : D} (hr : Room lvl X.A) (h : genEq x y os fun b => k (.bl (!b)) os) : JO X (compareOp .NotEq) x y os k := by
  obtain ⟨d, e, h1, h2, s1, s2, q⟩ := h
  exact JO.mk (op_neD hr.units) fun F V0 H v u Q r rx ry c => ⟨_, _, asD_dp r h1 s1 rx, asD_dp r h2 s2 ry, shp_shaped s1, shp_shaped s2, c V0 os H _ _ (Same.refl _) r rwB q⟩
theorem jo_eqS {d1 d2 : D} (h1 : isScal d1 = true) (h2 : isScal d2 = true) (h : scal (scalD d1) (scalD d2) = true) (q : k (.bl (decide (scalD d1 = scalD d2))) os) : JO X (compareOp .Eq) d1 d2 os k :=
  JO.mk op_eq fun F V0 H v u Q r rx ry c => by
    have e1 := rp_scal h1 rx
    have e2 := rp_scal h2 ry
    subst e1 e2
    exact ⟨h, c V0 os H _ _ (Same.refl _) r rwB q⟩
theorem jo_neS {d1 d2 : D} (h1 : isScal d1 = true) (h2 : isScal d2 = true) (h : scal (scalD d1) (scalD d2) = true) (q : k (.bl (!decide (scalD d1 = scalD d2))) os) : JO X (compareOp .NotEq) d1 d2 os k :=
  JO.mk op_ne fun F V0 H v u Q r rx ry c => by
    have e1 := rp_scal h1 rx
    have e2 := rp_scal h2 ry
    subst e1 e2
    exact ⟨h, c V0 os H _ _ (Same.refl _) r rwB q⟩
theorem cmo_eq {lvl : Nat} (hr : Room lvl X.A) : CmO X (compareOp .Eq) oEq := by
  intro x y os k h
  unfold oEq at h
  split at h
  · rename_i i
    split at h
    · rename_i j
      refine jo_eqS rfl rfl rfl ?_
      rw [show decide (scalD (.int i) = scalD (.int j)) = decide (i = j) from decide_eq_decide.mpr ⟨fun h => V.int.inj h, fun h => congrArg V.int h⟩]; exact h
    · exact jo_gen hr h
  · rename_i i
    split at h
    · rename_i j
      refine jo_eqS rfl rfl rfl ?_
      rw [show decide (scalD (.str i) = scalD (.str j)) = decide (i = j) from decide_eq_decide.mpr ⟨fun h => V.str.inj h, fun h => congrArg V.str h⟩]; exact h
    · exact jo_gen hr h
  · rename_i i
    split at h
    · rename_i j
      refine jo_gen hr ⟨_, _, .same _, .same _, rfl, rfl, ?_⟩
      rw [show eqD (.bl i) (.bl j) = decide (i = j) from by cases i <;> cases j <;> rfl]
      exact h
    · exact jo_gen hr h
  · exact jo_gen hr h
theorem cmo_ne {lvl : Nat} (hr : Room lvl X.A) : CmO X (compareOp .NotEq) oNe := by
  intro x y os k h
  unfold oNe at h
  split at h
  · rename_i i
    split at h
    · rename_i j
      refine jo_neS rfl rfl rfl ?_
      rw [show decide (scalD (.int i) = scalD (.int j)) = decide (i = j) from decide_eq_decide.mpr ⟨fun h => V.int.inj h, fun h => congrArg V.int h⟩]; exact h
    · exact jo_genN hr h
  · rename_i i
    split at h
    · rename_i j
      refine jo_neS rfl rfl rfl ?_
      rw [show decide (scalD (.str i) = scalD (.str j)) = decide (i = j) from decide_eq_decide.mpr ⟨fun h => V.str.inj h, fun h => congrArg V.str h⟩]; exact h
    · exact jo_genN hr h
  · rename_i i
    split at h
    · rename_i j
      refine jo_genN hr ⟨_, _, .same _, .same _, rfl, rfl, ?_⟩
      rw [show eqD (.bl i) (.bl j) = decide (i = j) from by cases i <;> cases j <;> rfl]
      exact h
    · exact jo_genN hr h
  · exact jo_genN hr h
/-- is None -/
def isNonD : D → Bool
  | .non => true | _ => false
theorem rw_non {K : PySem.W.Frag} {V0 : Hp} {v : V} : ∀ {w : D}, Rp K V0 v w → decide (v = .non) = isNonD w
  | .non, h => by cases h; rfl
  | .bl _, h => by cases h; rfl
  | .int _, h => by cases h; rfl
  | .str _, h => by cases h; rfl
  | .ty _, h => by cases h; rfl
  | .tup _, h => by cases h; rfl
  | .lst _, h => by cases h; rfl
  | .dK _, h => by cases h; rfl
  | .dT _, h => by cases h; rfl
  | .exn .., h => by cases h; rfl
  | .ref _, h => by cases h; rfl
def oIsN : TrO := fun x y os k => match y with
  | .non => k (.bl (isNonD x)) os
  | .bl b => (match x with
    | .bl a => k (.bl (decide (a = b))) os
    | _ => False)
  | _ => False
def oNotN : TrO := fun x y os k => match y with
  | .non => k (.bl (!isNonD x)) os
  | .bl b => (match x with
    | .bl a => k (.bl (!decide (a = b))) os
    | _ => False)
  | _ => False
theorem cmo_isN : CmO X (compareOp .Is) oIsN := by
  intro x y os k h
  unfold oIsN at h
  split at h
  · exact JO.mk op_isN fun F V0 H v u Q r rx ry c => by
      cases ry
      exact ⟨rfl, by rw [rw_non rx]; exact c V0 os H _ _ (Same.refl _) r rwB h⟩
  · split at h
    · exact JO.mk op_is_bl fun F V0 H v u Q r rx ry c => by
        cases ry
        cases rx
        exact ⟨_, _, rfl, rfl, c V0 os H _ _ (Same.refl _) r rwB h⟩
    · exact h.elim
  · exact h.elim
theorem cmo_notN : CmO X (compareOp .IsNot) oNotN := by
  intro x y os k h
  unfold oNotN at h
  split at h
  · exact JO.mk op_notN fun F V0 H v u Q r rx ry c => by
      cases ry
      exact ⟨rfl, by rw [rw_non rx]; exact c V0 os H _ _ (Same.refl _) r rwB h⟩
  · split at h
    · exact JO.mk op_isnot_bl fun F V0 H v u Q r rx ry c => by
        cases ry
        cases rx
        exact ⟨_, _, rfl, rfl, c V0 os H _ _ (Same.refl _) r rwB h⟩
    · exact h.elim
  · exact h.elim
/-- the items of a list or tuple at hand -/
def SeqOf (os : Os) (w : D) (ds : List D) : Prop := match w with
  | .lst es => ds = es
  | .tup es => ds = es
  | .ref p => ∃ n : Nat, os[n]? = some (p, .lst ds)
  | _ => False
theorem seqOf_of {K : PySem.W.Frag} {F V0 H : Hp} {v : V} {w : D} {ds : List D} (r : Rel K F V0 os H) (rv : Rp K V0 v w) (h : SeqOf os w ds) : ∃ a vs, v = .ref a ∧ (SqL K H a vs ∨ SqT K H a vs) ∧ RpA K V0 vs ds := by
  unfold SeqOf at h
  split at h
  · subst h
    obtain ⟨a, xs, rfl, h1, h2⟩ := rp_lst rv
    exact ⟨a, xs, rfl, .inl (r.vi.seq h1), h2⟩
  · subst h
    obtain ⟨a, xs, rfl, h1, h2⟩ := rp_tup rv
    exact ⟨a, xs, rfl, .inr (same_sqT r.vi h1), h2⟩
  · obtain ⟨n, ho⟩ := h
    obtain rfl := rv.toRef
    obtain ⟨_, _, ho', h3, vs, rfl, h4⟩ := r.own _ (List.mem_of_getElem? ho)
    exact ⟨_, vs, rfl, .inl (SqL.of h3), h4⟩
  · exact h.elim
theorem rpA_scal {K : PySem.W.Frag} {V0 : Hp} : ∀ {ds : List D} {vs : List V}, ds.all isScal = true → RpA K V0 vs ds → vs = ds.map scalD
  | [], _, _, h => by cases h; rfl
  | d :: ds, _, s, h => by
    rw [List.all_cons, Bool.and_eq_true] at s
    cases h with
    | cons a b => rw [rp_scal s.1 a, rpA_scal s.2 b]; rfl
def inD (x : D) (ds : List D) : Bool := inV (scalD x) (ds.map scalD)
theorem flat_scal : ∀ {d : D}, isScal d = true → flatV (scalD d) = true
  | .non, _ => rfl
  | .bl _, _ => rfl
  | .int _, _ => rfl
  | .str _, _ => rfl
theorem flat_all {ds : List D} (h : ds.all isScal = true) : (ds.map scalD).all flatV = true := by
  rw [List.all_map, List.all_eq_true]
  rw [List.all_eq_true] at h
  exact fun d hd => flat_scal (h d hd)
def oIn : TrO := fun x w os k => isScal x = true ∧ ∃ ds, SeqOf os w ds ∧ ds.all isScal = true ∧ k (.bl (inD x ds)) os
def oNotIn : TrO := fun x w os k => isScal x = true ∧ ∃ ds, SeqOf os w ds ∧ ds.all isScal = true ∧ k (.bl (!inD x ds)) os
theorem cmo_in : CmO X (compareOp .In) oIn := fun x w os k ⟨hx, ds, hs, hd, q⟩ =>
  JO.mk op_in_seq fun F V0 H v u Q r rx ry c => by
    have e := rp_scal hx rx
    subst e
    obtain ⟨a, vs, rfl, h1, ra⟩ := seqOf_of r ry hs
    have e := rpA_scal hd ra
    subst e
    refine ⟨a, _, rfl, h1, flat_scal hx, flat_all hd, c V0 os H _ _ (Same.refl _) r ?_ q⟩
    rw [if_neg (by decide)]
    exact rwB
theorem cmo_notIn : CmO X (compareOp .NotIn) oNotIn := fun x w os k ⟨hx, ds, hs, hd, q⟩ =>
  JO.mk op_notIn_seq fun F V0 H v u Q r rx ry c => by
    have e := rp_scal hx rx
    subst e
    obtain ⟨a, vs, rfl, h1, ra⟩ := seqOf_of r ry hs
    have e := rpA_scal hd ra
    subst e
    refine ⟨a, _, rfl, h1, flat_scal hx, flat_all hd, c V0 os H _ _ (Same.refl _) r ?_ q⟩
    rw [if_pos rfl]
    exact rwB

/-! ### tests -/
/-- truth of any value -/
def truD : D → Option Bool
  | .non => some false | .bl b => some b | .int i => some (i != 0) | .str x => if x.length ≤ sizeLine then some ((x.length : Int) != 0) else none
  | .lst ds => some (!ds.isEmpty) | .tup ds => some (!ds.isEmpty) | _ => none
def truW (os : Os) (w : D) (b : Bool) : Prop := match w with
  | .ref a => ∃ (n : Nat) (ws : List D), os[n]? = some (a, OO.lst ws) ∧ b = !ws.isEmpty
  | d => truD d = some b
theorem isE {α β : Type} {xs : List α} {ys : List β} (h : xs.length = ys.length) : (!xs.isEmpty) = !ys.isEmpty := by
  cases xs <;> cases ys <;> simp_all
theorem truV_of {K : PySem.W.Frag} {F V0 H : Hp} {v : V} {w : D} {b : Bool} (r : Rel K F V0 os H) (rv : Rp K V0 v w) (t : truW os w b) : TruV K v H b := by
  cases w with
  | non => cases rv; exact (Option.some.inj (show some false = some b from t)).symm
  | bl _ => cases rv; exact (Option.some.inj (show some _ = some b from t)).symm
  | int _ => cases rv; exact (Option.some.inj (show some _ = some b from t)).symm
  | str z =>
    cases rv
    have t : (if z.length ≤ sizeLine then some ((z.length : Int) != 0) else none) = some b := t
    by_cases hz : z.length ≤ sizeLine
    · rw [if_pos hz] at t; exact ⟨hz, (Option.some.inj t).symm⟩
    · rw [if_neg hz] at t; cases t
  | ty _ => cases (show none = some b from t)
  | dK _ => cases (show none = some b from t)
  | dT _ => cases (show none = some b from t)
  | exn _ _ _ _ _ => cases (show none = some b from t)
  | tup ds =>
    have t : some (!ds.isEmpty) = some b := t
    obtain ⟨p, xs, rfl, h1, h2⟩ := rp_tup rv
    exact .inr (.inl ⟨xs, same_sqT r.vi h1, by rw [isE h2.length]; exact (Option.some.inj t).symm⟩)
  | lst ds =>
    have t : some (!ds.isEmpty) = some b := t
    obtain ⟨p, xs, rfl, h1, h2⟩ := rp_lst rv
    exact .inl ⟨xs, r.vi.seq h1, by rw [isE h2.length]; exact (Option.some.inj t).symm⟩
  | ref p =>
    obtain rfl := rv.toRef
    obtain ⟨n, ws, ho, e⟩ := t
    obtain ⟨_, _, ho', h3, vs, rfl, h4⟩ := r.own _ (List.mem_of_getElem? ho)
    exact .inl ⟨vs, SqL.of h3, by rw [isE h4.length]; exact e⟩
def tV (te : TrE) : TrT := fun kx env os kb => te kx env os fun w os1 => match w with
  | .bl b => kb b os1
  | w => ∃ b, truW os1 w b ∧ kb b os1
variable {a b c e : Expr} {ta tb te : TrE} {pos : Pos} {tc td : TrT}
theorem ct_v (h : Cm X e te) (he : ∀ whole, isTrue e X.env whole = (do let v ← whole; standAt e.pos; holding [v] (truthy v)) := by intro _; rfl) : CmT X e (tV te) := by
  intro kx env os kb q F V0 H σ Q W r sr ek c
  refine wTt_of (pt_truth wE_pe he) ?_
  refine h _ _ _ _ q F V0 H σ _ W r sr ek fun V1 os1 H1 v x s1 r1 rx q1 => ?_
  have key : ∃ b, truW os1 x b ∧ kb b os1 := by
    split at q1
    · exact ⟨_, rfl, q1⟩
    · exact q1
  obtain ⟨b, e1, q2⟩ := key
  exact ⟨b, truV_of r1 rx e1, c V1 os1 H1 b s1 r1 q2⟩
def tNot (t : TrT) : TrT := fun kx env os kb => t kx env os fun b os1 => kb (!b) os1
theorem ct_not (h : CmT X a tc) : CmT X (.UnaryOp .Not a pos) (tNot tc) := by
  intro kx env os kb q F V0 H σ Q W r sr ek c
  refine wTt_of (pt_not wTt_pt) ?_
  exact h _ _ _ _ q F V0 H σ _ W r sr ek fun V1 os1 H1 b s1 r1 q => c V1 os1 H1 (!b) s1 r1 q
def tAnd (t u : TrT) : TrT := fun kx env os kb => t kx env os fun b os1 => (b = true → u kx env os1 kb) ∧ (b = false → kb false os1)
def tOr (t u : TrT) : TrT := fun kx env os kb => t kx env os fun b os1 => (b = false → u kx env os1 kb) ∧ (b = true → kb true os1)
theorem ct_pw (h : CmPW X e tc) : CmT X e tc := fun kx env os kb q F V0 H σ Q W r sr ek c => wTt_of wPW_pw.pt (h _ _ _ _ q F V0 H σ Q W r sr ek c)
theorem cpw_and1 (h : CmT X a tc) : CmPW X (.BoolOp .And [a] pos) tc := fun kx env os kb q F V0 H σ Q W r sr ek c => wPW_of (pw_and1 wTt_pt) (h _ _ _ _ q F V0 H σ Q W r sr ek c)
theorem cpw_or1 (h : CmT X a tc) : CmPW X (.BoolOp .Or [a] pos) tc := fun kx env os kb q F V0 H σ Q W r sr ek c => wPW_of (pw_or1 wTt_pt) (h _ _ _ _ q F V0 H σ Q W r sr ek c)
theorem cpw_and {rest : List Expr} (h : CmT X a tc) (h2 : CmPW X (.BoolOp .And (b :: rest) pos) td) : CmPW X (.BoolOp .And (a :: b :: rest) pos) (tAnd tc td) := by
  intro kx env os kb q F V0 H σ Q W r sr ek c
  refine wPW_of (pw_and wTt_pt wPW_pw) ?_
  refine h _ _ _ _ q F V0 H σ _ W r sr ek fun V1 os1 H1 b1 s1 r1 q => ?_
  cases b1 with
  | false => exact iteF (c V1 os1 H1 false s1 r1 (q.2 rfl))
  | true => exact iteT (h2 _ _ _ _ (q.1 rfl) F V1 H1 σ Q W r1 (sr.mono s1) (ek.mono s1) fun V2 os2 H2 b2 s2 r2 q2 => c V2 os2 H2 b2 (s1.trans s2) r2 q2)
theorem cpw_or {rest : List Expr} (h : CmT X a tc) (h2 : CmPW X (.BoolOp .Or (b :: rest) pos) td) : CmPW X (.BoolOp .Or (a :: b :: rest) pos) (tOr tc td) := by
  intro kx env os kb q F V0 H σ Q W r sr ek c
  refine wPW_of (pw_or wTt_pt wPW_pw) ?_
  refine h _ _ _ _ q F V0 H σ _ W r sr ek fun V1 os1 H1 b1 s1 r1 q => ?_
  cases b1 with
  | true => exact iteT (c V1 os1 H1 true s1 r1 (q.2 rfl))
  | false => exact iteF (h2 _ _ _ _ (q.1 rfl) F V1 H1 σ Q W r1 (sr.mono s1) (ek.mono s1) fun V2 os2 H2 b2 s2 r2 q2 => c V2 os2 H2 b2 (s1.trans s2) r2 q2)
/-- bools as values -/
def eAnd (ta tb : TrE) : TrE := fun kx env os k => ta kx env os fun w os1 => onB (fun b1 os1 => (b1 = true → tb kx env os1 k) ∧ (b1 = false → k (.bl false) os1)) w os1
def eOr (ta tb : TrE) : TrE := fun kx env os k => ta kx env os fun w os1 => onB (fun b1 os1 => (b1 = false → tb kx env os1 k) ∧ (b1 = true → k (.bl true) os1)) w os1
def eNot (ta : TrE) : TrE := fun kx env os k => ta kx env os fun w os1 => onB (fun b1 os1 => k (.bl (!b1)) os1) w os1
theorem cm_one {op} (h : Cm X a ta) : Cm X (.BoolOp op [a] pos) ta := fun kx env os k q F V0 H σ Q W r sr ek c => wE_of (pe_one wE_pe) (h _ _ _ _ q F V0 H σ Q W r sr ek c)
theorem cm_and {rest : List Expr} (h : Cm X a ta) (h2 : Cm X (.BoolOp .And (b :: rest) pos) tb) : Cm X (.BoolOp .And (a :: b :: rest) pos) (eAnd ta tb) := by
  intro kx env os k q F V0 H σ Q W r sr ek c
  refine wE_of (pe_and wE_pe wE_pe) ?_
  refine h _ _ _ _ q F V0 H σ _ W r sr ek fun V1 os1 H1 v w s1 r1 rv q => ?_
  obtain ⟨b1, e, q⟩ := onB_bl q
  subst e
  cases rv
  refine ⟨b1, rfl, ?_⟩
  cases b1 with
  | false => exact iteF (c V1 os1 H1 _ _ s1 r1 rwB (q.2 rfl))
  | true => exact iteT (h2 _ _ _ _ (q.1 rfl) F V1 H1 σ Q W r1 (sr.mono s1) (ek.mono s1) fun V2 os2 H2 z w s2 r2 rz q2 => c V2 os2 H2 z w (s1.trans s2) r2 rz q2)
theorem cm_or {rest : List Expr} (h : Cm X a ta) (h2 : Cm X (.BoolOp .Or (b :: rest) pos) tb) : Cm X (.BoolOp .Or (a :: b :: rest) pos) (eOr ta tb) := by
  intro kx env os k q F V0 H σ Q W r sr ek c
  refine wE_of (pe_or wE_pe wE_pe) ?_
  refine h _ _ _ _ q F V0 H σ _ W r sr ek fun V1 os1 H1 v w s1 r1 rv q => ?_
  obtain ⟨b1, e, q⟩ := onB_bl q
  subst e
  cases rv
  refine ⟨b1, rfl, ?_⟩
  cases b1 with
  | true => exact iteT (c V1 os1 H1 _ _ s1 r1 rwB (q.2 rfl))
  | false => exact iteF (h2 _ _ _ _ (q.1 rfl) F V1 H1 σ Q W r1 (sr.mono s1) (ek.mono s1) fun V2 os2 H2 z w s2 r2 rz q2 => c V2 os2 H2 z w (s1.trans s2) r2 rz q2)
theorem cm_not (h : Cm X a ta) : Cm X (.UnaryOp .Not a pos) (eNot ta) := by
  intro kx env os k q F V0 H σ Q W r sr ek c
  refine wE_of (pe_not wE_pe) ?_
  refine h _ _ _ _ q F V0 H σ _ W r sr ek fun V1 os1 H1 v w s1 r1 rv q => ?_
  obtain ⟨b1, e, q⟩ := onB_bl q
  subst e
  cases rv
  exact ⟨b1, rfl, c V1 os1 H1 _ _ s1 r1 rwB q⟩
def eIf (t : TrT) (ta tb : TrE) : TrE := fun kx env os k => t kx env os fun b1 os1 => (b1 = true → ta kx env os1 k) ∧ (b1 = false → tb kx env os1 k)
theorem cm_if (h : CmT X c tc) (h1 : Cm X a ta) (h2 : Cm X b tb) : Cm X (.IfExp c a b pos) (eIf tc ta tb) := by
  intro kx env os k q F V0 H σ Q W r sr ek cc
  refine wE_of (pe_ifExp wTt_pt wE_pe wE_pe) ?_
  refine h _ _ _ _ q F V0 H σ _ W r sr ek fun V1 os1 H1 b1 s1 r1 q => ?_
  cases b1 with
  | true => exact iteT (h1 _ _ _ _ (q.1 rfl) F V1 H1 σ Q W r1 (sr.mono s1) (ek.mono s1) fun V2 os2 H2 z w s2 r2 rz q2 => cc V2 os2 H2 z w (s1.trans s2) r2 rz q2)
  | false => exact iteF (h2 _ _ _ _ (q.2 rfl) F V1 H1 σ Q W r1 (sr.mono s1) (ek.mono s1) fun V2 os2 H2 z w s2 r2 rz q2 => cc V2 os2 H2 z w (s1.trans s2) r2 rz q2)
/-- a test as a value: a bool -/
def eNeg (ta : TrE) : TrE := fun kx env os k => ta kx env os fun w os1 => match w with
  | .int i => k (.int (-i)) os1
  | _ => False
theorem cm_neg (h : Cm X a ta) : Cm X (.UnaryOp .USub a pos) (eNeg ta) := by
  intro kx env os k q F V0 H σ Q W r sr ek c
  refine wE_of (pe_un un_neg wE_pe) ?_
  refine h _ _ _ _ q F V0 H σ _ W r sr ek fun V1 os1 H1 v x s1 r1 rx q => ?_
  split at q
  · cases rx
    exact ⟨_, rfl, c V1 os1 H1 _ _ s1 r1 rwI q⟩
  · exact q.elim

/-! ### arguments, displays -/
variable {es : List Expr} {n : Nat} {tl : TrA}
def aN : TrA := fun _ _ os k => k [] os
def aC (t : TrE) (ts : TrA) : TrA := fun kx env os k => t kx env os fun w os1 => ts kx env os1 fun ws os2 => k (w :: ws) os2
theorem ca_nil : CmA X [] aN 0 := ⟨rfl, fun kx env os kl q F V0 H σ Q W r sr ek c => wA_of pa_nil (c V0 os H [] [] (Same.refl _) r .nil ⟨rfl, q⟩)⟩
theorem ca_cons (h : Cm X e te) (h2 : CmA X es tl n) (hs : starEach (e :: es) X.env = (false, eval e X.env) :: starEach es X.env) : CmA X (e :: es) (aC te tl) (n + 1) := by
  refine ⟨congrArg (· + 1) h2.1, ?_⟩
  intro kx env os kl q F V0 H σ Q W r sr ek c
  refine wA_of (pa_cons wE_pe wA_pa hs) ?_
  refine h _ _ _ _ q F V0 H σ _ W r sr ek fun V1 os1 H1 v w s1 r1 rv q => ?_
  exact h2.2 _ _ _ _ q F V1 H1 σ _ W r1 (sr.mono s1) (ek.mono s1) fun V2 os2 H2 vs ws s2 r2 rs ⟨hl, q2⟩ => c V2 os2 H2 (v :: vs) (w :: ws) (s1.trans s2) r2 (.cons (rv.mono s2) rs) ⟨congrArg (· + 1) hl, q2⟩
def eTup (tl : TrA) : TrE := fun kx env os k => tl kx env os fun ws os1 => k (.tup ws) os1
def eLst (tl : TrA) : TrE := fun kx env os k => tl kx env os fun ws os1 => k (.lst ws) os1
def eLstO (tl : TrA) : TrE := fun kx env os k => tl kx env os fun ws os1 => ∀ p, k (.ref p) ((p, .lst ws) :: os1)
theorem cm_tup {x1} (h : CmA X es tl n) (hn : n ≤ 1000) : Cm X (.Tuple es x1 pos) (eTup tl) := by
  intro kx env os k q F V0 H σ Q W r sr ek c
  refine wE_of (pe_tup wA_pa) ?_
  refine h.2 _ _ _ _ q F V0 H σ _ W r sr ek fun V1 os1 H1 vs ws s1 r1 rs ⟨hl, q⟩ => ?_
  refine ⟨by rw [rs.length, hl]; exact Nat.le_of_lt (small1000 hn), fun p hp => ?_⟩
  obtain ⟨s2, r2, rp⟩ := rel_newT r1 hp rs
  exact c _ os1 _ _ (.tup ws) (s1.trans s2) r2 rp q
theorem cm_lst (h : CmA X es tl n) (hn : n ≤ 1000) : Cm X (.List es pos) (eLst tl) := by
  intro kx env os k q F V0 H σ Q W r sr ek c
  refine wE_of (pe_lst wA_pa) ?_
  refine h.2 _ _ _ _ q F V0 H σ _ W r sr ek fun V1 os1 H1 vs ws s1 r1 rs ⟨hl, q⟩ => ?_
  refine ⟨by rw [rs.length, hl]; exact Nat.le_of_lt (small1000 hn), fun p hp => ?_⟩
  obtain ⟨s2, r2, rp⟩ := rel_newL r1 hp rs
  exact c _ os1 _ _ (.lst ws) (s1.trans s2) r2 rp q
theorem cm_lstO (h : CmA X es tl n) (hn : n ≤ 1000) : Cm X (.List es pos) (eLstO tl) := by
  intro kx env os k q F V0 H σ Q W r sr ek c
  refine wE_of (pe_lst wA_pa) ?_
  refine h.2 _ _ _ _ q F V0 H σ _ W r sr ek fun V1 os1 H1 vs ws s1 r1 rs ⟨hl, q⟩ => ?_
  refine ⟨by rw [rs.length, hl]; exact Nat.le_of_lt (small1000 hn), fun p hp => ?_⟩
  exact c V1 _ _ _ (.ref p) s1 (r1.addO hp (oo := .lst ws) ⟨vs, rfl, rs⟩) (.ref p) (q p)
/-- an owned list becomes data -/
def frzK (w : D) (os : Os) (k : D → Os → Prop) : Prop := match w with
  | .ref a => ∃ (n : Nat) (ds : List D), os[n]? = some (a, OO.lst ds) ∧ k (.lst ds) (os.eraseIdx n)
  | w => k w os
def eFrz (t : TrE) : TrE := fun kx env os k => t kx env os fun w os1 => frzK w os1 k
theorem frzK_of {K : PySem.W.Frag} {F V0 H : Hp} {v : V} {w : D} (r : Rel K F V0 os H) (rv : Rp K V0 v w) (h : frzK w os k) : ∃ V1 os1 w1, Same V0 V1 ∧ Rel K F V1 os1 H ∧ Rp K V1 v w1 ∧ k w1 os1 := by
  unfold frzK at h
  split at h
  · obtain ⟨n, ds, ho, q⟩ := h
    obtain rfl := rv.toRef
    obtain ⟨V1, s1, r1, rp⟩ := r.freeze ho
    exact ⟨V1, _, _, s1, r1, rp, q⟩
  · exact ⟨V0, os, w, Same.refl _, r, rv, h⟩
theorem cm_frz (h : Cm X e te) : Cm X e (eFrz te) := by
  intro kx env os k q F V0 H σ Q W r sr ek c
  refine h _ _ _ _ q F V0 H σ _ W r sr ek fun V1 os1 H1 v w s1 r1 rv q => ?_
  obtain ⟨V2, os2, w2, s2, r2, rp, q2⟩ := frzK_of r1 rv q
  exact c V2 os2 H1 v w2 (s1.trans s2) r2 rp q2

/-! ### subscripts -/
@[irreducible] def wIx (X : Cx) : R2 := fun x y H Q => ∀ (value slice : Expr) (pins : List (Addr × Obj)) (s : Shared) (σ : L2.St) (v u : Value), Inv X pins σ H s → RelV x v → RelV y u →
  subscripted slice false v u = operate [v, u] (getItem v u) → wpAny (model X.prog X.w) X.A (subscriptTail value slice v u) (EP X pins σ Q) X.xe s
theorem wIx_ix : IxR X (wIx X) := by unfold wIx; exact fun value slice pins s σ _ _ _ v u _ I rx ry h hs => h value slice pins s σ v u I rx ry hs
theorem wIx_of {r : R2} (h : IxR X r) {x y : V} {H : Hp} {Q : VK} (q : r x y H Q) : wIx X x y H Q := by unfold wIx; exact fun value slice pins s σ v u I rx ry hs => h value slice pins s σ H x y v u Q I rx ry q hs
theorem atI_map {α β : Type} {xs : List α} {ys : List β} (hl : xs.length = ys.length) {i : Int} {y : β} (h : atI ys i = some y) : ∃ j, ixN xs.length i = some j ∧ ys[j]? = some y := by
  unfold atI at h
  rw [← hl] at h
  cases e : ixN xs.length i with
  | none => rw [e] at h; cases h
  | some j => rw [e] at h; exact ⟨j, rfl, h⟩
theorem atI_of {α : Type} {xs : List α} {i : Int} {j : Nat} {x : α} (h1 : ixN xs.length i = some j) (h2 : xs[j]? = some x) : atI xs i = some x := by
  unfold atI
  rw [h1]; exact h2
/-- w[i] -/
def oIx : TrO := fun x y os k => match y with
  | .int i => (match x with
    | .lst ds => ∃ d, atI ds i = some d ∧ k d os
    | .tup ds => ∃ d, atI ds i = some d ∧ k d os
    | .ref p => ∃ (n : Nat) (ws : List D) (w : D), os[n]? = some (p, .lst ws) ∧ atI ws i = some w ∧ k w os
    | .str x => x.length ≤ sizeLine ∧ ∃ n, atI x.cps.toList i = some n ∧ k (.str ⟨#[n]⟩) os
    | _ => False)
  | _ => False
def eIx (o : TrO) (ta tb : TrE) : TrE := fun kx env os k => ta kx env os fun x os1 => tb kx env os1 fun y os2 => o x y os2 k
def CmIx (X : Cx) (o : TrO) : Prop := ∀ x y os k, o x y os k → ∀ (F V0 H : Hp) (v u : V) (Q : VK), Rel X.K F V0 os H → Rp X.K V0 v x → Rp X.K V0 u y →
    (∀ (V1 : Hp) (os1 : Os) (H1 : Hp) (z : V) (w : D), Same V0 V1 → Rel X.K F V1 os1 H1 → Rp X.K V1 z w → k w os1 → Q z H1) → wIx X v u H Q
theorem cmi_ix : CmIx X oIx := by
  intro x y os k h F V0 H v u Q r rx ry c
  unfold oIx at h
  split at h
  · split at h
    · obtain ⟨d, h, q⟩ := h
      obtain ⟨p, xs, rfl, h1, h2⟩ := rp_lst rx
      cases ry
      obtain ⟨j, e1, e2⟩ := atI_map h2.length h
      obtain ⟨z, e3, rz⟩ := h2.get e2
      exact wIx_of ix_list ⟨p, xs, _, z, rfl, rfl, r.vi.seq h1, atI_of e1 e3, c V0 os H z d (Same.refl _) r rz q⟩
    · obtain ⟨d, h, q⟩ := h
      obtain ⟨p, xs, rfl, h1, h2⟩ := rp_tup rx
      cases ry
      obtain ⟨j, e1, e2⟩ := atI_map h2.length h
      obtain ⟨z, e3, rz⟩ := h2.get e2
      exact wIx_of ix_tup ⟨p, xs, _, z, rfl, rfl, same_sqT r.vi h1, atI_of e1 e3, c V0 os H z d (Same.refl _) r rz q⟩
    · obtain ⟨n, ws, w, ho, h, q⟩ := h
      obtain rfl := rx.toRef
      cases ry
      obtain ⟨_, _, ho', h3, vs, rfl, h4⟩ := r.own _ (List.mem_of_getElem? ho)
      obtain ⟨j, e1, e2⟩ := atI_map h4.length h
      obtain ⟨z, e3, rz⟩ := h4.get e2
      exact wIx_of ix_list ⟨_, vs, _, z, rfl, rfl, SqL.of h3, atI_of e1 e3, c V0 os H z w (Same.refl _) r rz q⟩
    · obtain ⟨hx, n, h, q⟩ := h
      cases rx; cases ry
      exact wIx_of ix_str ⟨_, _, n, rfl, rfl, hx, h, c V0 os H _ _ (Same.refl _) r rwS q⟩
    · exact h.elim
  · exact h.elim
theorem cm_ix {o : TrO} (ho : CmIx X o) (ha : Cm X a ta) (hb : Cm X b tb) (hs : PlainIx b) : Cm X (.Subscript a b pos) (eIx o ta tb) := by
  intro kx env os k h F V0 H σ Q W r sr ek c
  refine wE_of (pe_ix (r := wIx X) wIx_ix wE_pe wE_pe hs) ?_
  refine ha _ _ _ _ h F V0 H σ _ W r sr ek fun V1 os1 H1 v x s1 r1 rx hx => ?_
  refine hb _ _ _ _ hx F V1 H1 σ _ W r1 (sr.mono s1) (ek.mono s1) fun V2 os2 H2 u y s2 r2 ry hy => ?_
  exact ho _ _ _ _ hy F V2 H2 v u Q r2 (rx.mono s2) ry fun V3 os3 H3 z w s3 r3 rw' q => c V3 os3 H3 z w ((s1.trans s2).trans s3) r3 rw' q

/-! ### slices -/
def cutA {α : Type} (xs : List α) (lo hi : Option Int) : List α := (xs.drop (HT.sIx xs.length 0 lo)).take (HT.sIx xs.length xs.length hi - HT.sIx xs.length 0 lo)
@[irreducible] def wPO (X : Cx) (e : Option Expr) : TO := fun σ H Q => ∀ (pins : List (Addr × Obj)) (s : Shared), Inv X pins σ H s → wpAny (model X.prog X.w) X.A (evalPart e X.env) (fun u s' => ∃ o H', Inv X pins σ H' s' ∧ IsPart u o ∧ Q o H') X.xe s
theorem wPO_po {e : Option Expr} : PO X e (wPO X e) := by unfold wPO; exact ⟨fun pins s _ _ _ I h => h pins s I⟩
theorem wPO_of {e : Option Expr} {t : TO} (h : PO X e t) {σ : L2.St} {H : Hp} {Q : Option Int → Hp → Prop} (q : t σ H Q) : wPO X e σ H Q := by unfold wPO; exact fun pins s I => h.run pins s σ H Q I q
abbrev TrPO := Kx → DEnv → Os → (Option Int → Os → Prop) → Prop
def CmPO (X : Cx) (e : Option Expr) (t : TrPO) : Prop := ∀ kx env os ko, t kx env os ko → ∀ (F V0 H : Hp) (σ : L2.St) (Q : Option Int → Hp → Prop) (W : WX), Rel X.K F V0 os H → SR X.K V0 σ env → XkOk X F V0 σ kx W →
    (∀ (V1 : Hp) (os1 : Os) (H1 : Hp) (o : Option Int), Same V0 V1 → Rel X.K F V1 os1 H1 → ko o os1 → Q o H1) → wPO X e σ H Q
def pN : TrPO := fun _ _ os k => k none os
def pS (t : TrE) : TrPO := fun kx env os k => t kx env os fun w os1 => match w with
  | .int i => k (some i) os1
  | _ => False
theorem cp_none : CmPO X none pN := fun kx env os ko q F V0 H σ Q W r sr ek c => wPO_of po_none (c V0 os H none (Same.refl _) r q)
theorem cp_some (h : Cm X e te) : CmPO X (some e) (pS te) := by
  intro kx env os ko q F V0 H σ Q W r sr ek c
  refine wPO_of (po_some wE_pe) ?_
  refine h _ _ _ _ q F V0 H σ _ W r sr ek fun V1 os1 H1 v w s1 r1 rv q => ?_
  split at q
  · cases rv
    exact ⟨_, rfl, c V1 os1 H1 _ s1 r1 q⟩
  · exact q.elim
/-- what a slice of a value gives -/
def slW (w : D) (os : Os) (lo hi : Option Int) (k : D → Os → Prop) : Prop := match w with
  | .lst ds => k (.lst (cutA ds lo hi)) os
  | .tup ds => (cutA ds lo hi).length < ds.length ∧ k (.tup (cutA ds lo hi)) os
  | .str x => x.length ≤ sizeLine ∧ k (.str (cutS x lo hi)) os
  | .ref p => ∃ (n : Nat) (ds : List D), os[n]? = some (p, OO.lst ds) ∧ k (.lst (cutA ds lo hi)) os
  | _ => False
def slO (w : D) (os : Os) (lo hi : Option Int) (k : D → Os → Prop) : Prop := ∃ ds, LstOf os w ds ∧ ∀ p, k (.ref p) ((p, .lst (cutA ds lo hi)) :: os)
theorem RpA.cut {K : PySem.W.Frag} {H : Hp} {vs : List V} {ds : List D} (h : RpA K H vs ds) (lo hi : Option Int) : RpA K H (cutV vs lo hi) (cutA ds lo hi) := by
  unfold cutV cutA
  rw [h.length]
  exact (h.drop _).take _
variable {lo hi : Option Expr} {p2 : Pos} {tlo thi : TrPO}
theorem cut_len {α : Type} (xs : List α) (lo hi : Option Int) : (cutA xs lo hi).length ≤ xs.length := by
  unfold cutA
  rw [List.length_take, List.length_drop]
  omega
def wSl (X : Cx) : V → Option Int → Option Int → Hp → VK → Prop := fun x l u H Q => rSlL X.K x l u H Q ∨ rSlT X.K x l u H Q ∨ rSlS x l u H Q
theorem wSl_sl : SlR X (wSl X) := sl_list.or (sl_tup.or sl_str)
def eSl (t : TrE) (tlo thi : TrPO) : TrE := fun kx env os k => t kx env os fun w os1 => tlo kx env os1 fun l os2 => thi kx env os2 fun u os3 => slW w os3 l u k
def eSlO (t : TrE) (tlo thi : TrPO) : TrE := fun kx env os k => t kx env os fun w os1 => tlo kx env os1 fun l os2 => thi kx env os2 fun u os3 => slO w os3 l u k
theorem slW_of {F V0 H : Hp} {v : V} {w : D} {l u : Option Int} {Q : VK} (r3 : Rel X.K F V0 os H) (rv3 : Rp X.K V0 v w) (q : slW w os l u k)
    (c : ∀ (V1 : Hp) (os1 : Os) (H1 : Hp) (v : V) (w : D), Same V0 V1 → Rel X.K F V1 os1 H1 → Rp X.K V1 v w → k w os1 → Q v H1) : wSl X v l u H Q := by
  unfold slW at q
  split at q
  · rename_i ds
    obtain ⟨p, xs, rfl, h1, h2⟩ := rp_lst rv3
    refine .inl ⟨p, xs, rfl, r3.vi.seq h1, fun p' hp' => ?_⟩
    obtain ⟨s4, r4, rp⟩ := rel_newL r3 hp' (h2.cut l u)
    exact c _ os _ _ (.lst _) s4 r4 rp q
  · rename_i ds
    obtain ⟨hlt, q⟩ := q
    obtain ⟨p, xs, rfl, h1, h2⟩ := rp_tup rv3
    have hl : (cutV xs l u).length < xs.length := by
      rw [(h2.cut l u).length, h2.length]; exact hlt
    refine .inr (.inl ⟨p, xs, rfl, same_sqT r3.vi h1, ?_⟩)
    first
      | (refine ⟨hl, fun p' hp' => ?_⟩
         obtain ⟨s4, r4, rp⟩ := rel_newT r3 hp' (h2.cut l u)
         exact c _ os _ _ (.tup _) s4 r4 rp q)
      | (refine ⟨fun e => ?_, fun p' hp' => ?_⟩
         · exact absurd hl (by unfold cutV; simp_all)
         · obtain ⟨s4, r4, rp⟩ := rel_newT r3 hp' (h2.cut l u)
           exact c _ os _ _ (.tup _) s4 r4 rp q)
      | skip
  · obtain ⟨hl, q⟩ := q
    cases rv3
    exact .inr (.inr ⟨_, rfl, hl, c V0 os H _ _ (Same.refl _) r3 rwS q⟩)
  · obtain ⟨n, ds, ho, q⟩ := q
    obtain rfl := rv3.toRef
    obtain ⟨_, _, ho', h3, vs, rfl, h4⟩ := r3.own _ (List.mem_of_getElem? ho)
    refine .inl ⟨_, vs, rfl, SqL.of h3, fun p' hp' => ?_⟩
    obtain ⟨s4, r4, rp⟩ := rel_newL r3 hp' (h4.cut l u)
    exact c _ os _ _ (.lst _) s4 r4 rp q
  · exact q.elim
theorem cm_sl (h : Cm X e te) (hlo : CmPO X lo tlo) (hhi : CmPO X hi thi) : Cm X (.Subscript e (.Slice lo hi none p2) pos) (eSl te tlo thi) := by
  intro kx env os k q F V0 H σ Q W r sr ek c
  refine wE_of (pe_slice (r := wSl X) wSl_sl wE_pe wPO_po wPO_po) ?_
  refine h _ _ _ _ q F V0 H σ _ W r sr ek fun V1 os1 H1 v w s1 r1 rv q => ?_
  refine hlo _ _ _ _ q F V1 H1 σ _ W r1 (sr.mono s1) (ek.mono s1) fun V2 os2 H2 l s2 r2 q => ?_
  refine hhi _ _ _ _ q F V2 H2 σ _ W r2 (sr.mono (s1.trans s2)) (ek.mono (s1.trans s2)) fun V3 os3 H3 u s3 r3 q => ?_
  exact slW_of r3 (rv.mono (s2.trans s3)) q fun V4 os4 H4 v4 w4 s4 r4 rp q => c V4 os4 H4 v4 w4 (((s1.trans s2).trans s3).trans s4) r4 rp q
theorem cm_slO (h : Cm X e te) (hlo : CmPO X lo tlo) (hhi : CmPO X hi thi) : Cm X (.Subscript e (.Slice lo hi none p2) pos) (eSlO te tlo thi) := by
  intro kx env os k q F V0 H σ Q W r sr ek c
  refine wE_of (pe_slice (r := wSl X) wSl_sl wE_pe wPO_po wPO_po) ?_
  refine h _ _ _ _ q F V0 H σ _ W r sr ek fun V1 os1 H1 v w s1 r1 rv q => ?_
  refine hlo _ _ _ _ q F V1 H1 σ _ W r1 (sr.mono s1) (ek.mono s1) fun V2 os2 H2 l s2 r2 q => ?_
  refine hhi _ _ _ _ q F V2 H2 σ _ W r2 (sr.mono (s1.trans s2)) (ek.mono (s1.trans s2)) fun V3 os3 H3 u s3 r3 q => ?_
  obtain ⟨ds, hl, q⟩ := q
  obtain ⟨a, vs, rfl, h1, ra⟩ := lstOf_of r3 (rv.mono (s2.trans s3)) hl
  refine .inl ⟨a, vs, rfl, h1, fun p' hp' => ?_⟩
  exact c V3 _ _ _ (.ref p') ((s1.trans s2).trans s3) (r3.addO hp' (oo := .lst (cutA ds l u)) ⟨_, rfl, ra.cut l u⟩) (.ref p') (q p')
end
end EV

set_option Elab.async false
set_option linter.all false
set_option maxRecDepth 100000
/-! E4: calls of built-ins, methods of lists, statements, loops. -/
namespace EV
open PySem PySem.Spec PyProof.Rows L2

/-! ### calls of built-ins -/
/-- a call of a known built-in by values -/
def JC (X : Cx) (f : Value) (ws : List D) (os : Os) (k : D → Os → Prop) : Prop :=
  ∀ (F V0 H : Hp) (vs : List V) (Q : VK), Rel X.K F V0 os H → RpA X.K V0 vs ws →
    (∀ (V1 : Hp) (os1 : Os) (H1 : Hp) (z : V) (w : D), Same V0 V1 → Rel X.K F V1 os1 H1 → Rp X.K V1 z w → k w os1 → Q z H1) →
    ∀ (pins : List (Addr × Obj)) (s : Shared) (σ : L2.St) (us : List Value), Inv X pins σ H s → Vals vs us → wpAny (model X.prog X.w) X.A (call f us) (EP X pins σ Q) X.xe s
abbrev TrC := List D → Os → (D → Os → Prop) → Prop
def CmC (X : Cx) (f : Value) (c : TrC) : Prop := ∀ ws os k, c ws os k → JC X f ws os k
theorem JC.mk {X : Cx} {os : Os} {k : D → Os → Prop} {f : Value} {r : List V → Hp → VK → Prop} {ws : List D} (hf : CallR X f r)
    (h : ∀ (F V0 H : Hp) (vs : List V) (Q : VK), Rel X.K F V0 os H → RpA X.K V0 vs ws →
      (∀ (V1 : Hp) (os1 : Os) (H1 : Hp) (z : V) (w : D), Same V0 V1 → Rel X.K F V1 os1 H1 → Rp X.K V1 z w → k w os1 → Q z H1) → r vs H Q) : JC X f ws os k :=
  fun F V0 H vs Q r1 rs c pins s σ us I rv => hf pins s σ H vs us Q I rv (h F V0 H vs Q r1 rs c)
def eCB (c : TrC) (tl : TrA) : TrE := fun kx env os k => tl kx env os fun ws os1 => c ws os1 k
section
variable {X : Cx} {os : Os} {k : D → Os → Prop} {env : DEnv} {pos p : Pos} {a b e : Expr} {es : List Expr} {x : Str} {tl : TrA} {n : Nat} {te : TrE}
theorem cm_callB {id : String} {c : TrC} (hc : CmC X (.builtin id) c) (hv : bootBuiltins x = some (.builtin id)) (hm : X.mg x = none) (hg : Gl X x) (h : CmA X (e :: es) tl n) (hn : x ≠ "__name__") (hdb : (x == ("__debug__" : Str)) = false)
    (he : starEach (e :: es) X.env = (false, eval e X.env) :: starEach es X.env) (hpl : (backTo pos (starEach es X.env)).any (·.1) = false) : Cm X (.Call (.Name x p) (e :: es) [] pos) (eCB c tl) := by
  intro kx env os k q F V0 H σ Q W r sr ek cc
  refine wE_of (pe_callB (id := id) (r := fun vs H Q => ∀ (pins : List (Addr × Obj)) (s : Shared) (σ : L2.St) (us : List Value), Inv X pins σ H s → Vals vs us → wpAny (model X.prog X.w) X.A (call (.builtin id) us) (EP X pins σ Q) X.xe s)
    (fun pins s σ H vs us Q I rv h => h pins s σ us I rv) hg hm hv wA_pa hn hdb he hpl) ?_
  refine h.2 _ _ _ _ q F V0 H σ _ W r sr ek fun V1 os1 H1 vs ws s1 r1 rs ⟨_, q⟩ => ?_
  exact hc _ _ _ q F V1 H1 vs Q r1 rs fun V2 os2 H2 z w s2 r2 rz q2 => cc V2 os2 H2 z w (s1.trans s2) r2 rz q2
theorem cm_callTy {id : String} {c : TrC} (hc : CmC X (.type id) c) (hv : bootBuiltins x = some (.type id)) (hm : X.mg x = none) (hg : Gl X x) (h : CmA X (e :: es) tl n) (hn : x ≠ "__name__") (hdb : (x == ("__debug__" : Str)) = false)
    (he : starEach (e :: es) X.env = (false, eval e X.env) :: starEach es X.env) (hpl : (backTo pos (starEach es X.env)).any (·.1) = false) : Cm X (.Call (.Name x p) (e :: es) [] pos) (eCB c tl) := by
  intro kx env os k q F V0 H σ Q W r sr ek cc
  refine wE_of (pe_callTy (T := id) (r := fun vs H Q => ∀ (pins : List (Addr × Obj)) (s : Shared) (σ : L2.St) (us : List Value), Inv X pins σ H s → Vals vs us → wpAny (model X.prog X.w) X.A (call (.type id) us) (EP X pins σ Q) X.xe s)
    (fun pins s σ H vs us Q I rv h => h pins s σ us I rv) hg hm hv wA_pa hn hdb he hpl) ?_
  refine h.2 _ _ _ _ q F V0 H σ _ W r sr ek fun V1 os1 H1 vs ws s1 r1 rs ⟨_, q⟩ => ?_
  exact hc _ _ _ q F V1 H1 vs Q r1 rs fun V2 os2 H2 z w s2 r2 rz q2 => cc V2 os2 H2 z w (s1.trans s2) r2 rz q2
/-- len -/
def lenK (w : D) (os : Os) (k : D → Os → Prop) : Prop := match w with
  | .lst ds => k (.int ds.length) os
  | .tup ds => k (.int ds.length) os
  | .str x => x.length ≤ sizeLine ∧ k (.int x.length) os
  | .ref p => ∃ (n : Nat) (ws : List D), os[n]? = some (p, .lst ws) ∧ k (.int ws.length) os
  | _ => False
def cLen : TrC := fun ws os k => match ws with
  | [w] => lenK w os k
  | _ => False
theorem cmc_len : CmC X (.builtin "len") cLen := by
  intro ws os k h
  unfold cLen at h
  split at h
  · refine JC.mk call_len fun F V0 H vs Q r rs c => ?_
    obtain ⟨v, rfl, rv⟩ := rs.one
    unfold lenK at h
    split at h
    · obtain ⟨p, xs, rfl, h1, h2⟩ := rp_lst rv
      exact ⟨_, _, rfl, .inl ⟨xs, r.vi.seq h1, h2.length.symm⟩, c V0 os H _ _ (Same.refl _) r rwI h⟩
    · obtain ⟨p, xs, rfl, h1, h2⟩ := rp_tup rv
      exact ⟨_, _, rfl, .inr ⟨xs, same_sqT r.vi h1, h2.length.symm⟩, c V0 os H _ _ (Same.refl _) r rwI h⟩
    · cases rv
      exact ⟨_, _, rfl, ⟨h.1, rfl⟩, c V0 os H _ _ (Same.refl _) r rwI h.2⟩
    · obtain ⟨n, ws, ho, q⟩ := h
      obtain rfl := rv.toRef
      obtain ⟨_, _, ho', h3, vs, rfl, h4⟩ := r.own _ (List.mem_of_getElem? ho)
      exact ⟨_, _, rfl, .inl ⟨vs, SqL.of h3, h4.length.symm⟩, c V0 os H _ _ (Same.refl _) r rwI q⟩
    · exact h.elim
  · exact h.elim
def cInt : TrC := fun ws os k => match ws with
  | [.int i] => k (.int i) os
  | [.bl b] => k (.int (if b then 1 else 0)) os
  | _ => False
theorem cmc_int : CmC X (.type "int") cInt := by
  intro ws os k h
  unfold cInt at h
  split at h
  · exact JC.mk call_int1 fun F V0 H vs Q r rs c => by
      obtain ⟨v, rfl, rv⟩ := rs.one
      cases rv
      exact .inl ⟨_, rfl, c V0 os H _ _ (Same.refl _) r rwI h⟩
  · exact JC.mk call_int1 fun F V0 H vs Q r rs c => by
      obtain ⟨v, rfl, rv⟩ := rs.one
      cases rv
      exact .inr ⟨_, rfl, c V0 os H _ _ (Same.refl _) r rwI h⟩
  · exact h.elim
def cAbs : TrC := fun ws os k => match ws with
  | [.int i] => k (.int (if i < 0 then -i else i)) os
  | _ => False
theorem cmc_abs : CmC X (.builtin "abs") cAbs := by
  intro ws os k h
  unfold cAbs at h
  split at h
  · exact JC.mk call_abs fun F V0 H vs Q r rs c => by
      obtain ⟨v, rfl, rv⟩ := rs.one
      cases rv
      exact ⟨_, rfl, c V0 os H _ _ (Same.refl _) r rwI h⟩
  · exact h.elim
def cStrI : TrC := fun ws os k => match ws with
  | [.int i] => i.natAbs.log2 < 1920 ∧ k (.str (toString i)) os
  | _ => False
theorem cmc_strI : CmC X (.type "str") cStrI := by
  intro ws os k h
  unfold cStrI at h
  split at h
  · exact JC.mk call_str_int fun F V0 H vs Q r rs c => by
      obtain ⟨v, rfl, rv⟩ := rs.one
      cases rv
      exact ⟨_, rfl, h.1, c V0 os H _ _ (Same.refl _) r rwS h.2⟩
  · exact h.elim
theorem rpA_int {K : PySem.W.Frag} {H : Hp} : ∀ {ns : List Int} {vs : List V}, RpA K H vs (ns.map D.int) → vs = ns.map V.int
  | [], _, h => by cases h; rfl
  | n :: ns, _, h => by
    cases h with
    | cons a b => cases a; rw [rpA_int b]; rfl
theorem rpA_ints {K : PySem.W.Frag} {H : Hp} : ∀ ns : List Int, RpA K H (ns.map V.int) (ns.map D.int)
  | [] => .nil
  | n :: ns => .cons (.int n) (rpA_ints ns)
/-- max, min: of two ints, of a list of ints -/
def cMax : TrC := fun ws os k => match ws with
  | [.int i, .int j] => k (.int (if j > i then j else i)) os
  | [w] => ∃ ns : List Int, LstOf os w (ns.map D.int) ∧ 0 < ns.length ∧ ∀ m, m ∈ ns → (∀ y, y ∈ ns → y ≤ m) → k (.int m) os
  | _ => False
def cMin : TrC := fun ws os k => match ws with
  | [.int i, .int j] => k (.int (if j < i then j else i)) os
  | [w] => ∃ ns : List Int, LstOf os w (ns.map D.int) ∧ 0 < ns.length ∧ ∀ m, m ∈ ns → (∀ y, y ∈ ns → m ≤ y) → k (.int m) os
  | _ => False
theorem cmc_max (hc : X.calm = true) : CmC X (.builtin "max") cMax := by
  intro ws os k h
  unfold cMax at h
  split at h
  · exact JC.mk (call_max2 hc) fun F V0 H vs Q r rs c => by
      obtain ⟨v, v2, rfl, rv, rv2⟩ := rs.two
      cases rv; cases rv2
      exact ⟨_, _, rfl, c V0 os H _ _ (Same.refl _) r rwI h⟩
  · obtain ⟨ns, h1, hn, q⟩ := h
    exact JC.mk (cr_max hc) fun F V0 H vs Q r rs c => by
      obtain ⟨v, rfl, rv⟩ := rs.one
      obtain ⟨a, xs, rfl, hs, ra⟩ := lstOf_of r rv h1
      have e := rpA_int ra
      subst e
      exact ⟨a, ns, rfl, hs, hn, fun m h1 h2 => c V0 os H _ _ (Same.refl _) r rwI (q m h1 h2)⟩
  · exact h.elim
theorem cmc_min (hc : X.calm = true) : CmC X (.builtin "min") cMin := by
  intro ws os k h
  unfold cMin at h
  split at h
  · exact JC.mk (call_min2 hc) fun F V0 H vs Q r rs c => by
      obtain ⟨v, v2, rfl, rv, rv2⟩ := rs.two
      cases rv; cases rv2
      exact ⟨_, _, rfl, c V0 os H _ _ (Same.refl _) r rwI h⟩
  · obtain ⟨ns, h1, hn, q⟩ := h
    exact JC.mk (cr_min hc) fun F V0 H vs Q r rs c => by
      obtain ⟨v, rfl, rv⟩ := rs.one
      obtain ⟨a, xs, rfl, hs, ra⟩ := lstOf_of r rv h1
      have e := rpA_int ra
      subst e
      exact ⟨a, ns, rfl, hs, hn, fun m h1 h2 => c V0 os H _ _ (Same.refl _) r rwI (q m h1 h2)⟩
  · exact h.elim
def cSum : TrC := fun ws os k => match ws with
  | [w] => ∃ ns : List Int, LstOf os w (ns.map D.int) ∧ k (.int ns.sum) os
  | _ => False
theorem cmc_sum (hc : X.calm = true) : CmC X (.builtin "sum") cSum := by
  intro ws os k h
  unfold cSum at h
  split at h
  · obtain ⟨ns, h1, q⟩ := h
    exact JC.mk (cr_sum hc) fun F V0 H vs Q r rs c => by
      obtain ⟨v, rfl, rv⟩ := rs.one
      obtain ⟨a, xs, rfl, hs, ra⟩ := lstOf_of r rv h1
      have e := rpA_int ra
      subst e
      exact ⟨a, ns, rfl, hs, c V0 os H _ _ (Same.refl _) r rwI q⟩
  · exact h.elim
/-- sorted of ints -/
def cSortI : TrC := fun ws os k => match ws with
  | [w] => ∃ ns : List Int, LstOf os w (ns.map D.int) ∧ ∀ ms : List Int, ms.Perm ns → ms.Pairwise (· ≤ ·) → k (.lst (ms.map D.int)) os
  | _ => False
theorem cmc_sortI : CmC X (.builtin "sorted") cSortI := by
  intro ws os k h
  unfold cSortI at h
  split at h
  · obtain ⟨ns, h1, q⟩ := h
    exact JC.mk cr_sortedI fun F V0 H vs Q r rs c => by
      obtain ⟨v, rfl, rv⟩ := rs.one
      obtain ⟨a, xs, rfl, hs, ra⟩ := lstOf_of r rv h1
      have e := rpA_int ra
      subst e
      refine ⟨a, ns, rfl, hs, fun ms p h1 h2 hp => ?_⟩
      obtain ⟨s2, r2, rp⟩ := rel_newL r hp (rpA_ints (K := X.K) (H := V0) ms)
      exact c _ os _ _ (.lst (ms.map D.int)) s2 r2 rp (q ms h1 h2)
  · exact h.elim
/-- list(x) -/
def seqK (w : D) (os : Os) (k : List D → Prop) : Prop := match w with
  | .lst ds => k ds
  | .tup ds => k ds
  | .ref p => ∃ (n : Nat) (ws : List D), os[n]? = some (p, .lst ws) ∧ k ws
  | _ => False
theorem seqK_of {w : D} {kk : List D → Prop} (h : seqK w os kk) : ∃ ds, SeqOf os w ds ∧ kk ds := by
  unfold seqK at h
  split at h
  · exact ⟨_, rfl, h⟩
  · exact ⟨_, rfl, h⟩
  · obtain ⟨n, ws, ho, q⟩ := h
    exact ⟨ws, ⟨n, ho⟩, q⟩
  · exact h.elim
def cList : TrC := fun ws os k => match ws with
  | [w] => seqK w os fun ds => k (.lst ds) os
  | _ => False
def cListO : TrC := fun ws os k => match ws with
  | [w] => seqK w os fun ds => ∀ p, k (.ref p) ((p, .lst ds) :: os)
  | _ => False
theorem cmc_list : CmC X (.type "list") cList := by
  intro ws os k h
  unfold cList at h
  split at h
  · obtain ⟨ds, hs, q⟩ := seqK_of h
    exact JC.mk call_list_of fun F V0 H vs Q r rs c => by
      obtain ⟨v, rfl, rv⟩ := rs.one
      obtain ⟨a, xs, rfl, hs, ra⟩ := seqOf_of r rv hs
      refine ⟨a, xs, rfl, hs, fun l hl => ?_⟩
      obtain ⟨s2, r2, rp⟩ := rel_newL r hl ra
      exact c _ os _ _ (.lst ds) s2 r2 rp q
  · exact h.elim
theorem cmc_listO : CmC X (.type "list") cListO := by
  intro ws os k h
  unfold cListO at h
  split at h
  · obtain ⟨ds, hs, q⟩ := seqK_of h
    exact JC.mk call_list_of fun F V0 H vs Q r rs c => by
      obtain ⟨v, rfl, rv⟩ := rs.one
      obtain ⟨a, xs, rfl, hs, ra⟩ := seqOf_of r rv hs
      refine ⟨a, xs, rfl, hs, fun l hl => ?_⟩
      exact c V0 _ _ _ (.ref l) (Same.refl _) (r.addO hl (oo := .lst ds) ⟨xs, rfl, ra⟩) (.ref l) (q l)
  · exact h.elim
/-- isinstance(x, T) of a built-in class -/
def tyD : D → Option String
  | .non => some "NoneType" | .bl _ => some "bool" | .int _ => some "int" | .str _ => some "str" | .tup _ => some "tuple" | .lst _ => some "list" | _ => none
theorem tyX_of {K : PySem.W.Frag} {V0 H : Hp} {v : V} {n : String} (vi : Same V0 H) : ∀ {w : D}, Rp K V0 v w → tyD w = some n → TyX K H v (.type n)
  | .non, rv, t => by cases rv; cases t; exact .base .non
  | .bl _, rv, t => by cases rv; cases t; exact .base (.bl _)
  | .int _, rv, t => by cases rv; cases t; exact .base (.int _)
  | .str _, rv, t => by cases rv; cases t; exact .base (.str _)
  | .tup ds, rv, t => by
      cases t
      obtain ⟨p, xs, rfl, h1, h2⟩ := rp_tup rv
      rcases h1 with (h1 | ⟨o, h1⟩) | ⟨o, its, m, h1, h3, _⟩
      · exact .base (.tup (vi _ _ h1))
      · exact .fTuple (vi _ _ h1)
      · exact .kTuple h1 h3
  | .lst ds, rv, t => by
      cases t
      obtain ⟨p, xs, rfl, h1, h2⟩ := rp_lst rv
      rcases h1 with (h1 | ⟨o, h1⟩) | ⟨o, its, m, h1, h3, _⟩
      · exact .base (.lst (vi _ _ h1))
      · exact .base (.frz (vi _ _ h1))
      · exact .kList h1 h3
/-- the answers, by a table that reduces -/
def kitN (n m : String) : Option Bool :=
  match n with
  | "NoneType" => some false
  | "bool" => some (match m with | "bool" => true | "int" => true | _ => false)
  | _ => some (decide (n = m))
def isiD (w : D) (m : String) : Option Bool := match w with
  | .non => kitB "NoneType" m | .bl _ => kitB "bool" m | .int _ => kitB "int" m | .str _ => kitB "str" m | .tup _ => kitB "tuple" m | .lst _ => kitB "list" m | _ => none
def isiK (w : D) (m : String) (os : Os) (k : D → Os → Prop) : Prop := match w with
  | .ref p => ∃ (n : Nat) (ws : List D), os[n]? = some (p, .lst ws) ∧ ∃ b, kitB "list" m = some b ∧ k (.bl b) os
  | w => ∃ b, isiD w m = some b ∧ k (.bl b) os
def cIsi : TrC := fun ws os k => match ws with
  | [w, .ty m] => isiK w m os k
  | _ => False
theorem cmc_isi : CmC X (.builtin "isinstance") cIsi := by
  intro ws os k h
  unfold cIsi at h
  split at h
  · rename_i w m
    refine JC.mk call_isi fun F V0 H vs Q r rs c => ?_
    obtain ⟨v, v2, rfl, rv, rv2⟩ := rs.two
    cases rv2
    have key : ∃ n b, TyX X.K H v (.type n) ∧ kitB n m = some b ∧ k (.bl b) os := by
      unfold isiK at h
      split at h
      · obtain ⟨n, ws, ho, b, hb, q⟩ := h
        obtain rfl := rv.toRef
        obtain ⟨_, _, ho', h3, vs, rfl, h4⟩ := r.own _ (List.mem_of_getElem? ho)
        exact ⟨"list", b, .base (.lst h3), hb, q⟩
      · obtain ⟨b, hb, q⟩ := h
        unfold isiD at hb
        split at hb
        · exact ⟨_, b, tyX_of r.vi rv rfl, hb, q⟩
        · exact ⟨_, b, tyX_of r.vi rv rfl, hb, q⟩
        · exact ⟨_, b, tyX_of r.vi rv rfl, hb, q⟩
        · exact ⟨_, b, tyX_of r.vi rv rfl, hb, q⟩
        · exact ⟨_, b, tyX_of r.vi rv rfl, hb, q⟩
        · exact ⟨_, b, tyX_of r.vi rv rfl, hb, q⟩
        · cases hb
    obtain ⟨n, b, t, hb, q⟩ := key
    exact ⟨v, .ty m, _, _, b, rfl, .ty m, t, kit_ty hb, c V0 os H _ _ (Same.refl _) r rwB q⟩
  · exact h.elim

/-! ### methods of lists -/
theorem own_ty {K : PySem.W.Frag} {F V0 H : Hp} {p : Addr} {ws : List D} {n : Nat} (r : Rel K F V0 os H) (ho : os[n]? = some (p, .lst ws)) : ∃ vs, H p = some (.lst vs) ∧ RpA K V0 vs ws ∧ tyV K "list" (.ref p) H := by
  obtain ⟨_, _, ho', h3, vs, rfl, h4⟩ := r.own _ (List.mem_of_getElem? ho)
  exact ⟨vs, h3, h4, .inl ⟨rfl, vs, SqL.of h3⟩⟩
variable {o : Expr} {apos cpos : Pos} {to : TrE}
/-- an owned list at hand -/
def onL (w : D) (os : Os) (k : Addr → Prop) : Prop := match w with
  | .ref p => (∃ (n : Nat) (ws : List D), os[n]? = some (p, OO.lst ws)) ∧ k p
  | _ => False
theorem onL_ref {w : D} {kk : Addr → Prop} (h : onL w os kk) : ∃ (p : Addr) (n : Nat) (ws : List D), w = .ref p ∧ os[n]? = some (p, OO.lst ws) ∧ kk p := by
  unfold onL at h
  split at h
  · obtain ⟨⟨n, ws, ho⟩, q⟩ := h
    exact ⟨_, n, ws, rfl, ho, q⟩
  · exact h.elim
/-- xs.append(e): the receiver first, then the item -/
def eApp (to te : TrE) : TrE := fun kx env os k => to kx env os fun w os1 => onL w os1 fun p => te kx env os1 fun y os2 => ∃ (m : Nat) (us : List D), os2[m]? = some (p, .lst us) ∧ us.length < sizeLine ∧ k .non (os2.set m (p, .lst (us ++ [y])))
theorem cm_app (h : Cm X o to) (h2 : Cm X e te) (hbase : attributeBase o "append" X.env (eval o X.env) = eval o X.env)
    (hfew : ((backTo cpos (starEach [e] X.env)).all (fun x => !x.1) && (backToKw cpos (keywordEach [] X.env)).all (fun x => x.1.isSome)
      && decide ([e].length + ([] : List Keyword).length + (if ([] : List Keyword).isEmpty then 0 else 1) < 30)) = true)
    (hline : (apos.endLine == cpos.line) = true) (hs : starEach [e] X.env = (false, eval e X.env) :: starEach [] X.env) :
    Cm X (.Call (.Attribute o "append" apos) [e] [] cpos) (eApp to te) := by
  intro kx env os k q F V0 H σ Q W r sr ek c
  refine wE_of (pe_bm PySem.F.plainAttrs_list PySem.F.slot_list_append PySem.F.type_list_append mt_append wE_pe (pa_cons wE_pe pa_nil hs) hbase hfew hline hs) ?_
  refine h _ _ _ _ q F V0 H σ _ W r sr ek fun V1 os1 H1 v w s1 r1 rv q => ?_
  obtain ⟨pl, n, ws, rfl, ho, q⟩ := onL_ref q
  obtain rfl := rv.toRef
  obtain ⟨vs, h3, h4, ty⟩ := own_ty r1 ho
  refine ⟨ty, ?_⟩
  refine h2 _ _ _ _ q F V1 H1 σ _ W r1 (sr.mono s1) (ek.mono s1) fun V2 os2 H2 u y s2 r2 ru ⟨m, us, ho2, hl, q⟩ => ?_
  obtain ⟨vs2, h5, h6, _⟩ := own_ty r2 ho2
  refine ⟨pl, vs2, u, rfl, rfl, h5, by rw [h6.length]; exact hl, ?_⟩
  exact c V2 _ _ _ .non (s1.trans s2) (r2.mut ho2 (oo' := .lst (us ++ [y])) ⟨vs2 ++ [u], rfl, h6.append (.cons ru .nil)⟩) rwN q
/-- xs.pop(i) -/
def ePopAt (to te : TrE) : TrE := fun kx env os k => to kx env os fun w os1 => onL w os1 fun p => te kx env os1 fun y os2 => match y with
  | .int i => ∃ (m : Nat) (us : List D) (j : Nat) (z : D), os2[m]? = some (p, .lst us) ∧ -(2 ^ 63) ≤ i ∧ i < 2 ^ 63 ∧ seqIndex? i us.length = some j ∧ us[j]? = some z ∧ k z (os2.set m (p, .lst (us.eraseIdx j)))
  | _ => False
theorem cm_popAt (h : Cm X o to) (h2 : Cm X e te) (hbase : attributeBase o "pop" X.env (eval o X.env) = eval o X.env)
    (hfew : ((backTo cpos (starEach [e] X.env)).all (fun x => !x.1) && (backToKw cpos (keywordEach [] X.env)).all (fun x => x.1.isSome)
      && decide ([e].length + ([] : List Keyword).length + (if ([] : List Keyword).isEmpty then 0 else 1) < 30)) = true)
    (hline : (apos.endLine == cpos.line) = true) (hs : starEach [e] X.env = (false, eval e X.env) :: starEach [] X.env) :
    Cm X (.Call (.Attribute o "pop" apos) [e] [] cpos) (ePopAt to te) := by
  intro kx env os k q F V0 H σ Q W r sr ek c
  refine wE_of (pe_bm PySem.F.plainAttrs_list PySem.F.slot_list_pop PySem.F.type_list_pop mt_popAt wE_pe (pa_cons wE_pe pa_nil hs) hbase hfew hline hs) ?_
  refine h _ _ _ _ q F V0 H σ _ W r sr ek fun V1 os1 H1 v w s1 r1 rv q => ?_
  obtain ⟨pl, n, ws, rfl, ho, q⟩ := onL_ref q
  obtain rfl := rv.toRef
  obtain ⟨vs, h3, h4, ty⟩ := own_ty r1 ho
  refine ⟨ty, ?_⟩
  refine h2 _ _ _ _ q F V1 H1 σ _ W r1 (sr.mono s1) (ek.mono s1) fun V2 os2 H2 u y s2 r2 ru q => ?_
  split at q
  · obtain ⟨m, us, j, z, ho2, b1, b2, hj, hz, q⟩ := q
    cases ru
    obtain ⟨vs2, h5, h6, _⟩ := own_ty r2 ho2
    obtain ⟨zv, ez, rz⟩ := h6.get hz
    refine ⟨pl, vs2, _, j, zv, rfl, rfl, h5, b1, b2, by rw [h6.length]; exact hj, ez, ?_⟩
    exact c V2 _ _ _ z (s1.trans s2) (r2.mut ho2 (oo' := .lst (us.eraseIdx j)) ⟨vs2.eraseIdx j, rfl, h6.eraseIdx j⟩) rz q
  · exact q.elim
/-- xs.pop() -/
def ePop (to : TrE) : TrE := fun kx env os k => to kx env os fun w os1 => match w with
  | .ref p => ∃ (n : Nat) (ws : List D) (z : D), os1[n]? = some (p, .lst ws) ∧ ws[ws.length - 1]? = some z ∧ k z (os1.set n (p, .lst ws.dropLast))
  | _ => False
theorem cm_pop (h : Cm X o to) (hbase : attributeBase o "pop" X.env (eval o X.env) = eval o X.env) (hline : (apos.endLine == cpos.line) = true) :
    Cm X (.Call (.Attribute o "pop" apos) [] [] cpos) (ePop to) := by
  intro kx env os k q F V0 H σ Q W r sr ek c
  refine wE_of (pe_bm0 PySem.F.plainAttrs_list PySem.F.slot_list_pop PySem.F.type_list_pop mt_pop wE_pe hbase hline) ?_
  refine h _ _ _ _ q F V0 H σ _ W r sr ek fun V1 os1 H1 v w s1 r1 rv q => ?_
  split at q
  · obtain ⟨n, ws, z, ho, hz, q⟩ := q
    obtain rfl := rv.toRef
    obtain ⟨vs, h3, h4, ty⟩ := own_ty r1 ho
    refine ⟨ty, ?_⟩
    obtain ⟨zv, ez, rz⟩ := h4.get (i := ws.length - 1) hz
    refine ⟨_, vs, zv, rfl, rfl, h3, by rw [h4.length]; exact ez, ?_⟩
    refine c V1 _ _ _ z s1 (r1.mut ho (oo' := .lst ws.dropLast) ⟨vs.dropLast, rfl, ?_⟩) rz q
    rw [List.dropLast_eq_take, List.dropLast_eq_take, h4.length]
    exact h4.take _
  · exact q.elim
theorem rpA_rep {K : PySem.W.Frag} {H : Hp} {vs : List V} {ws : List D} (h : RpA K H vs ws) : ∀ n : Nat, RpA K H (List.replicate n vs).flatten (List.replicate n ws).flatten
  | 0 => .nil
  | n + 1 => by
    rw [List.replicate_succ, List.replicate_succ, List.flatten_cons, List.flatten_cons]
    exact h.append (rpA_rep h n)
/-- [e] * n: a new list of n times the one item: data or owned -/
def repK (own : Bool) (es : List D) (y : D) (os : Os) (k : D → Os → Prop) : Prop := match y with
  | .int j => -(2 ^ 63) ≤ j ∧ j < 2 ^ 63 ∧ es.length * j.toNat ≤ sizeLine ∧ (if own then ∀ a, k (.ref a) ((a, .lst (List.replicate j.toNat es).flatten) :: os) else k (.lst (List.replicate j.toNat es).flatten) os)
  | _ => False
def eRep (own : Bool) (tl : TrA) (tb : TrE) : TrE := fun kx env os k => tl kx env os fun es os1 => tb kx env os1 fun y os2 => repK own es y os2 k
theorem cm_rep {own : Bool} {p1 : Pos} (h : CmA X es tl n) (hn : n ≤ 1000) (h2 : Cm X b te) : Cm X (.BinOp (.List es p1) .Mult b pos) (eRep own tl te) := by
  intro kx env os k q F V0 H σ Q W r sr ek c
  refine wE_of (pe_op (r := wO X (binaryOp .Mult)) wO_op wE_pe wE_pe) ?_
  refine wE_of (pe_lst wA_pa) ?_
  refine h.2 _ _ _ _ q F V0 H σ _ W r sr ek fun V1 os1 H1 vs ws s1 r1 rs ⟨hl, q⟩ => ?_
  refine ⟨by rw [rs.length, hl]; exact Nat.le_of_lt (small1000 hn), fun p hp => ?_⟩
  obtain ⟨s1', r1', rp⟩ := rel_newL r1 hp rs
  refine h2 _ _ _ _ q F _ _ σ _ W r1' (sr.mono (s1.trans s1')) (ek.mono (s1.trans s1')) fun V2 os2 H2 u y s2 r2 ru q => ?_
  obtain ⟨a0, xs, e0, h3, h4⟩ := rp_lst (Rp.mono s2 rp)
  cases e0
  have s12 := (s1.trans s1').trans s2
  unfold repK at q
  split at q
  · obtain ⟨b1, b2, hsz, q⟩ := q
    cases ru
    refine wO_of op_rep ?_
    have hH : H2 p = some (.lst vs) := r2.vi _ _ (s2 _ _ upd_same)
    have h4' : RpA X.K V2 vs ws := RpA.mono (s1'.trans s2) rs
    refine ⟨p, _, vs, rfl, rfl, hH, b1, b2, by rw [h4'.length]; exact hsz, fun a ha => ?_⟩
    split at q
    · exact c V2 _ _ _ (.ref a) s12 (r2.addO ha (oo := .lst _) ⟨_, rfl, rpA_rep h4' _⟩) (.ref a) (q a)
    · obtain ⟨s3, r3, rp3⟩ := rel_newL r2 ha (rpA_rep h4' _)
      exact c _ os2 _ _ (.lst _) (s12.trans s3) r3 rp3 q
  · exact q.elim
end

/-! ### statements -/
structure KR where
  rt : D → Os → Prop
  bk : DEnv → Os → Prop := fun _ _ => False
  ct : DEnv → Os → Prop := fun _ _ => False
  ex : Exn → DEnv → Os → Prop := fun _ _ _ => False
structure KS where
  nx : DEnv → Os → Prop
  r : KR
abbrev KS.rt (K : KS) := K.r.rt
abbrev KS.bk (K : KS) := K.r.bk
abbrev KS.ct (K : KS) := K.r.ct
abbrev KS.ex (K : KS) := K.r.ex
structure EndsOk (X : Cx) (F V0 : Hp) (K : KS) (D : Ends) (W : WX) : Prop where
  nx : ∀ (V1 : Hp) (os1 : Os) (H1 : Hp) (σ1 : L2.St) (env1 : DEnv), Same V0 V1 → Rel X.K F V1 os1 H1 → SR X.K V1 σ1 env1 → K.nx env1 os1 → D.nx σ1 H1
  rt : ∀ (V1 : Hp) (os1 : Os) (H1 : Hp) (v : V) (w : EV.D), Same V0 V1 → Rel X.K F V1 os1 H1 → Rp X.K V1 v w → K.rt w os1 → D.rt v H1
  bk : ∀ (V1 : Hp) (os1 : Os) (H1 : Hp) (σ1 : L2.St) (env1 : DEnv), Same V0 V1 → Rel X.K F V1 os1 H1 → SR X.K V1 σ1 env1 → K.bk env1 os1 → D.bk σ1 H1
  ct : ∀ (V1 : Hp) (os1 : Os) (H1 : Hp) (σ1 : L2.St) (env1 : DEnv), Same V0 V1 → Rel X.K F V1 os1 H1 → SR X.K V1 σ1 env1 → K.ct env1 os1 → D.ct σ1 H1
  tk : Takes X W
  ex : ∀ (V1 : Hp) (os1 : Os) (H1 : Hp) (σ1 : L2.St) (env1 : DEnv) (cls : Value) (d : Option Addr) (x : Exn), Same V0 V1 → Rel X.K F V1 os1 H1 → SR X.K V1 σ1 env1 → ExnR X.K V1 cls d x → K.ex x env1 os1 → W cls d σ1 H1
theorem EndsOk.mono {X : Cx} {F V0 V1 : Hp} {K : KS} {D : Ends} {W : WX} (h : EndsOk X F V0 K D W) (s : Same V0 V1) : EndsOk X F V1 K D W :=
  ⟨fun V2 o H σ e s2 => h.nx V2 o H σ e (s.trans s2), fun V2 o H v w s2 => h.rt V2 o H v w (s.trans s2), fun V2 o H σ e s2 => h.bk V2 o H σ e (s.trans s2), fun V2 o H σ e s2 => h.ct V2 o H σ e (s.trans s2), h.tk,
    fun V2 o H σ e c d x s2 => h.ex V2 o H σ e c d x (s.trans s2)⟩
theorem EndsOk.xk {X : Cx} {F V0 : Hp} {K : KS} {D : Ends} {W : WX} (h : EndsOk X F V0 K D W) {σ : L2.St} {env : DEnv} (sr : SR X.K V0 σ env) : XkOk X F V0 σ (fun x os => K.ex x env os) W :=
  ⟨h.tk, fun V1 os1 H1 cls d x s r e q => h.ex V1 os1 H1 σ env cls d x s r (sr.mono s) e q⟩
def JS1 (X : Cx) (st : Stmt) (env : DEnv) (os : Os) (K : KS) : Prop :=
  ∀ (F V0 H : Hp) (σ : L2.St) (D : Ends) (W : WX), Rel X.K F V0 os H → SR X.K V0 σ env → EndsOk X F V0 K D W → wS1 X st D σ H
def JSs (X : Cx) (sts : List Stmt) (env : DEnv) (os : Os) (K : KS) : Prop :=
  ∀ (F V0 H : Hp) (σ : L2.St) (D : Ends) (W : WX), Rel X.K F V0 os H → SR X.K V0 σ env → EndsOk X F V0 K D W → wSs X sts D σ H
def JG (X : Cx) (tg : Expr) (w : D) (env : DEnv) (os : Os) (kg : DEnv → Os → Prop) : Prop :=
  ∀ (F V0 H : Hp) (σ : L2.St) (v : V) (Q : L2.St → Hp → Prop) (W : WX), Rel X.K F V0 os H → SR X.K V0 σ env → Rp X.K V0 v w → Takes X W →
    (∀ (V1 : Hp) (os1 : Os) (H1 : Hp) (σ1 : L2.St) (env1 : DEnv), Same V0 V1 → Rel X.K F V1 os1 H1 → SR X.K V1 σ1 env1 → kg env1 os1 → Q σ1 H1) → wG X tg v σ H Q
abbrev TrS := (DEnv → Os → Prop) → KR → DEnv → Os → Prop
abbrev TrG := D → DEnv → Os → (DEnv → Os → Prop) → Prop
def CmS (X : Cx) (st : Stmt) (t : TrS) : Prop := ∀ N R env os, t N R env os → JS1 X st env os ⟨N, R⟩
def CmSs (X : Cx) (sts : List Stmt) (t : TrS) : Prop := ∀ N R env os, t N R env os → JSs X sts env os ⟨N, R⟩
def CmG (X : Cx) (tg : Expr) (t : TrG) : Prop := ∀ w env os kg, t w env os kg → JG X tg w env os kg
theorem XkOk.no {X : Cx} {F V0 : Hp} {σ : L2.St} {W : WX} (t : Takes X W) : XkOk X F V0 σ (fun _ _ => False) W := ⟨t, fun _ _ _ _ _ _ _ _ _ z => z.elim⟩
/-- what is raised within a statement -/
abbrev KR.xk (R : KR) (env : DEnv) : Kx := fun x os => R.ex x env os
/-- a block -/
def sNo : TrS := fun N _ env os => N env os
def sCo (t u : TrS) : TrS := fun N R env os => t (fun e o => u N R e o) R env os
section
variable {X : Cx} {pos : Pos} {e : Expr} {st : Stmt} {sts : List Stmt} {te to : TrE} {t : TrS} {ts : List TrS}
theorem cs_nil : CmSs X [] sNo := fun N R env os q F V0 H σ D W r sr ek => wSs_of pss_nil (ek.nx V0 os H σ env (Same.refl _) r sr q)
theorem cs_one (h : CmS X st t) : CmSs X [st] t := fun N R env os q F V0 H σ D W r sr ek => wSs_of (pss_one wS1_ps) (h _ _ _ _ q F V0 H σ D W r sr ek)
theorem cs_cons {u : TrS} (h : CmS X st t) (h2 : CmSs X sts u) : CmSs X (st :: sts) (sCo t u) := by
  intro N R env os q F V0 H σ D W r sr ek
  refine wSs_of (pss_cons wS1_ps wSs_pss) ?_
  refine h _ _ _ _ q F V0 H σ { D with nx := wSs X sts D } W r sr ⟨fun V1 os1 H1 σ1 env1 s1 r1 sr1 q => ?_, ek.rt, ek.bk, ek.ct, ek.tk, ek.ex⟩
  exact h2 _ _ _ _ q F V1 H1 σ1 D W r1 sr1 (ek.mono s1)
def sPass : TrS := fun N R env os => N env os
def sBrk : TrS := fun N R env os => R.bk env os
def sCnt : TrS := fun N R env os => R.ct env os
theorem c1_pass : CmS X (.Pass pos) sPass := fun N R env os q F V0 H σ D W r sr ek => wS1_of ps_pass (ek.nx V0 os H σ env (Same.refl _) r sr q)
theorem c1_brk : CmS X (.Break pos) sBrk := fun N R env os q F V0 H σ D W r sr ek => wS1_of ps_break (ek.bk V0 os H σ env (Same.refl _) r sr q)
theorem c1_cnt : CmS X (.Continue pos) sCnt := fun N R env os q F V0 H σ D W r sr ek => wS1_of ps_continue (ek.ct V0 os H σ env (Same.refl _) r sr q)
def sRet (te : TrE) : TrS := fun N R env os => te (R.xk env) env os fun w os1 => R.rt w os1
def sRetN : TrS := fun N R _ os => R.rt .non os
theorem c1_ret (h : Cm X e te) : CmS X (.Return (some e) pos) (sRet te) := by
  intro N R env os q F V0 H σ D W r sr ek
  refine wS1_of (ps_ret wE_pe) ?_
  exact h _ _ _ _ q F V0 H σ _ W r sr (ek.xk sr) fun V1 os1 H1 v w s1 r1 rv q => ek.rt V1 os1 H1 v w s1 r1 rv q
theorem c1_retN : CmS X (.Return none pos) sRetN := fun N R env os q F V0 H σ D W r sr ek => wS1_of ps_retN (ek.rt V0 os H .non .non (Same.refl _) r rwN q)
def sExpr (te : TrE) : TrS := fun N R env os => te (R.xk env) env os fun _ os1 => N env os1
theorem c1_expr (h : Cm X e te) (hs : swapsWith e none pos.line X.env = pure false) : CmS X (.Expr e pos) (sExpr te) := by
  intro N R env os q F V0 H σ D W r sr ek
  refine wS1_of (ps_expr wE_pe hs) ?_
  exact h _ _ _ _ q F V0 H σ _ W r sr (ek.xk sr) fun V1 os1 H1 v w s1 r1 rv q => ek.nx V1 os1 H1 σ env s1 r1 (sr.mono s1) q
def sIf (c : TrT) (p q : TrS) : TrS := fun N R env os => c (R.xk env) env os fun b os1 => (b = true → p N R env os1) ∧ (b = false → q N R env os1)
/-- both ways meet in J -/
def sIfJ (c : TrT) (p q : TrS) : TrS := fun N R env os => ∃ J : DEnv → Os → Prop, (c (R.xk env) env os fun b os1 => (b = true → p J R env os1) ∧ (b = false → q J R env os1)) ∧ ∀ e o, J e o → N e o
theorem c1_if {c : Expr} {p q : List Stmt} {tc : TrT} {tp tq : TrS} (h : CmT X c tc) (h1 : CmSs X p tp) (h2 : CmSs X q tq) : CmS X (.If c p q pos) (sIf tc tp tq) := by
  intro N R env os q F V0 H σ D W r sr ek
  refine wS1_of (ps_if wTt_pt wSs_pss wSs_pss) ?_
  refine h _ _ _ _ q F V0 H σ _ W r sr (ek.xk sr) fun V1 os1 H1 b s1 r1 q => ?_
  cases b with
  | true => exact iteT (h1 _ _ _ _ (q.1 rfl) F V1 H1 σ D W r1 (sr.mono s1) (ek.mono s1))
  | false => exact iteF (h2 _ _ _ _ (q.2 rfl) F V1 H1 σ D W r1 (sr.mono s1) (ek.mono s1))
theorem c1_ifJ {c : Expr} {p q : List Stmt} {tc : TrT} {tp tq : TrS} (h : CmT X c tc) (h1 : CmSs X p tp) (h2 : CmSs X q tq) : CmS X (.If c p q pos) (sIfJ tc tp tq) := by
  intro N R env os ⟨J, q, hJ⟩ F V0 H σ D W r sr ek
  exact c1_if h h1 h2 J R env os q F V0 H σ D W r sr ⟨fun V1 o1 H1 σ1 e1 a b c z => ek.nx V1 o1 H1 σ1 e1 a b c (hJ _ _ z), ek.rt, ek.bk, ek.ct, ek.tk, ek.ex⟩
/-- name = e -/
def sSet (i : Nat) (te : TrE) : TrS := fun N R env os => te (R.xk env) env os fun w os1 => N (setE env i (some w)) os1
theorem sr_setE {K : PySem.W.Frag} {V0 : Hp} {σ : L2.St} {env : DEnv} (h : SR K V0 σ env) {v : V} {w : D} (r : Rp K V0 v w) (i : Nat) : SR K V0 (σ.set i (some v)) (setE env i (some w)) := by
  rw [setE_eq]; exact h.set r i
theorem c1_set {i : Nat} {x : Str} {pos' : Pos} (hN : X.N.Nodup) (hi : X.N[i]? = some x) (hx : Loc X.env.scope x) (h : Cm X e te) (hs : swapsWith e (some (.Name x pos')) pos.line X.env = pure false)
    (hf : X.fn x = true ∨ X.env.scope.names.lookup x = some .local) : CmS X (.Assign [.Name x pos'] e pos) (sSet i te) := by
  intro N R env os q F V0 H σ D W r sr ek
  refine wS1_of (ps_set hN hi hx wE_pe hs hf) ?_
  exact h _ _ _ _ q F V0 H σ _ W r sr (ek.xk sr) fun V1 os1 H1 v w s1 r1 rv q => ek.nx V1 os1 H1 _ _ s1 r1 (sr_setE (sr.mono s1) rv i) q
/-- name op= e -/
def sAug (i : Nat) (o : TrO) (te : TrE) : TrS := fun N R env os => match getE env i with
  | some x => te (R.xk env) env os fun y os1 => o x y os1 fun z os2 => N (setE env i (some z)) os2
  | none => False

/-! ### targets -/
variable {tg : TrG}
def gName (i : Nat) : TrG := fun w env os kg => kg (setE env i (some w)) os
theorem cg_name {i : Nat} {x : Str} (hN : X.N.Nodup) (hi : X.N[i]? = some x) (hx : Loc X.env.scope x) (hf : X.fn x = true ∨ X.env.scope.names.lookup x = some .local) : CmG X (.Name x pos) (gName i) :=
  fun w env os kg q F V0 H σ v Q W r sr rv tk c => wG_of (pg_name hN hi hx hf) (c V0 os H _ _ (Same.refl _) r (sr_setE sr rv i) q)
def JGs (X : Cx) (tgs : List Expr) (ws : List D) (env : DEnv) (os : Os) (kg : DEnv → Os → Prop) : Prop :=
  ∀ (F V0 H : Hp) (σ : L2.St) (vs : List V) (Q : L2.St → Hp → Prop) (W : WX), Rel X.K F V0 os H → SR X.K V0 σ env → RpA X.K V0 vs ws → Takes X W →
    (∀ (V1 : Hp) (os1 : Os) (H1 : Hp) (σ1 : L2.St) (env1 : DEnv), Same V0 V1 → Rel X.K F V1 os1 H1 → SR X.K V1 σ1 env1 → kg env1 os1 → Q σ1 H1) → wGs X tgs vs σ H Q
abbrev TrGs := List D → DEnv → Os → (DEnv → Os → Prop) → Prop
def CmGs (X : Cx) (tgs : List Expr) (t : TrGs) (n : Nat) : Prop := tgs.length = n ∧ ∀ ws env os kg, ws.length = n → t ws env os kg → JGs X tgs ws env os kg
def gsN : TrGs := fun _ env os kg => kg env os
def gsC (g : TrG) (gs : TrGs) : TrGs := fun ws env os kg => match ws with
  | w :: ws => g w env os fun env1 os1 => gs ws env1 os1 kg
  | [] => False
theorem cgs_nil : CmGs X [] gsN 0 := ⟨rfl, fun ws env os kg hl q F V0 H σ vs Q W r sr rs tk c => by
  cases ws with
  | nil =>
    cases rs
    exact wGs_of pgs_nil ⟨rfl, c V0 os H σ env (Same.refl _) r sr q⟩
  | cons _ _ => cases hl⟩
theorem cgs_cons {tge : Expr} {tgs : List Expr} {gs : TrGs} {n : Nat} (h : CmG X tge tg) (h2 : CmGs X tgs gs n)
    (hs : (assignEach (tge :: tgs) X.env).map (·.2) = assign tge X.env :: (assignEach tgs X.env).map (·.2)) : CmGs X (tge :: tgs) (gsC tg gs) (n + 1) :=
  ⟨congrArg (· + 1) h2.1, fun ws env os kg hl q F V0 H σ vs Q W r sr rs tk c => by
    cases ws with
    | nil => cases hl
    | cons w ws =>
      cases rs with
      | cons rv rs =>
        refine wGs_of (pgs_cons wG_pg wGs_pgs hs) ⟨_, _, rfl, ?_⟩
        refine h _ _ _ _ q F V0 H σ _ _ W r sr rv tk fun V1 os1 H1 σ1 env1 s1 r1 sr1 q => ?_
        exact h2.2 _ _ _ _ (by simpa using hl) q F V1 H1 σ1 _ Q W r1 sr1 (RpA.mono s1 rs) tk fun V2 os2 H2 σ2 env2 s2 r2 sr2 q2 => c V2 os2 H2 σ2 env2 (s1.trans s2) r2 sr2 q2⟩
/-- (a, b, ..) = a tuple, a list of data -/
def gTup (n : Nat) (gs : TrGs) : TrG := fun w env os kg => match w with
  | .tup ds => ds.length = n ∧ gs ds env os kg
  | .lst ds => ds.length = n ∧ gs ds env os kg
  | _ => False
theorem cg_tup {es : List Expr} {m : Nat} {gs : TrGs} {n : Nat} (hc : X.calm = true) (h : CmGs X es gs n)
    (hn : (assignEach es X.env).length = n) (hst : (assignEach es X.env).findIdx? (·.1) = none) : CmG X (.Tuple es m pos) (gTup n gs) := by
  intro w env os kg q F V0 H σ v Q W r sr rv tk c
  unfold gTup at q
  split at q
  · obtain ⟨hl, q⟩ := q
    obtain ⟨p, xs, rfl, h1, h2⟩ := rp_tup rv
    refine wG_of (pg_tup (n := n) hc wGs_pgs hn hst) ⟨p, xs, rfl, same_sqT r.vi h1, by rw [h2.length]; exact hl, ?_⟩
    exact h.2 _ _ _ _ hl q F V0 H σ xs Q W r sr h2 tk c
  · obtain ⟨hl, q⟩ := q
    obtain ⟨p, xs, rfl, h1, h2⟩ := rp_lst rv
    refine wG_of (pg_lst (n := n) hc wGs_pgs hn hst) ⟨p, xs, rfl, r.vi.seq h1, by rw [h2.length]; exact hl, ?_⟩
    exact h.2 _ _ _ _ hl q F V0 H σ xs Q W r sr h2 tk c
  · exact q.elim
/-- target = e -/
def sAsg (g : TrG) (te : TrE) : TrS := fun N R env os => te (R.xk env) env os fun w os1 => g w env os1 N
theorem c1_asg {tge : Expr} (hg : CmG X tge tg) (h : Cm X e te) (hs : swapsWithSole [tge] e pos.line X.env = pure false) (hw : swappedStores [tge] e X.env = pure none)
    (h1 : (assignEach [tge] X.env).map (·.2) = [assign tge X.env]) : CmS X (.Assign [tge] e pos) (sAsg tg te) := by
  intro N R env os q F V0 H σ D W r sr ek
  refine wS1_of (ps_asg wE_pe wG_pg hs hw h1) ?_
  refine h _ _ _ _ q F V0 H σ _ W r sr (ek.xk sr) fun V1 os1 H1 v w s1 r1 rv q => ?_
  exact hg _ _ _ _ q F V1 H1 σ v _ W r1 (sr.mono s1) rv ek.tk fun V2 os2 H2 σ2 env2 s2 r2 sr2 q2 => ek.nx V2 os2 H2 σ2 env2 (s1.trans s2) r2 sr2 q2
def kx0 : Kx := fun _ _ => False
/-- o[i] = .., an owned list -/
def gSub (to ti : TrE) : TrG := fun w env os kg => to kx0 env os fun x os1 => ti kx0 env os1 fun y os2 => match x with
  | .ref p => (match y with
    | .int i => ∃ (n : Nat) (ws : List D) (j : Nat), os2[n]? = some (p, .lst ws) ∧ ixN ws.length i = some j ∧ kg env (os2.set n (p, .lst (ws.set j w)))
    | _ => False)
  | _ => False
theorem cg_sub {o ix : Expr} {ti : TrE} (h : Cm X o to) (h2 : Cm X ix ti)
    (ha : ∀ v, assign (.Subscript o ix pos) X.env v = (do
      let ov ← holding [v] (eval o X.env)
      let iv ← holding [v, ov] (eval ix X.env)
      standAt pos
      holding [v, ov, iv] (setItem ov iv v)
      release [v, ov, iv] [])) : CmG X (.Subscript o ix pos) (gSub to ti) := by
  intro w env os kg q F V0 H σ v Q W r sr rv tk c
  refine wG_of (pg_sub wE_pe wE_pe set_list ha) ?_
  refine h _ _ _ _ q F V0 H σ _ W r sr (XkOk.no tk) fun V1 os1 H1 ov x s1 r1 ro q => ?_
  refine h2 _ _ _ _ q F V1 H1 σ _ W r1 (sr.mono s1) (XkOk.no tk) fun V2 os2 H2 iv y s2 r2 ri q => ?_
  split at q
  · split at q
    · obtain ⟨n, ws, j, ho, hj, q⟩ := q
      have e := (Rp.mono s2 ro).toRef
      subst e
      cases ri
      obtain ⟨vs, h3, h4, _⟩ := own_ty r2 ho
      refine ⟨_, vs, _, j, rfl, rfl, h3, by rw [h4.length]; exact hj, ?_⟩
      have s := s1.trans s2
      exact c V2 _ _ σ env s (r2.mut ho (oo' := .lst (ws.set j w)) ⟨vs.set j v, rfl, RpA.set (rv.mono s) j h4⟩) (sr.mono s) q
    · exact q.elim
  · exact q.elim
end

/-! ### iteration -/
/-- an owned list that a loop reads stays as it is -/
abbrev Gd := Option (Addr × List D)
def gOk : Gd → Os → Prop
  | none, _ => True
  | some (p, all), os => ∃ n : Nat, os[n]? = some (p, OO.lst all)
def gK (gd : Gd) (os : Os) (k : Prop) : Prop := match gd with
  | none => k
  | some (p, all) => (∃ n : Nat, os[n]? = some (p, OO.lst all)) ∧ k
theorem gK_ok {gd : Gd} {os : Os} {k : Prop} (h : gK gd os k) : gOk gd os ∧ k := by
  cases gd with
  | none => exact ⟨trivial, h⟩
  | some z => exact h
theorem gK_mk {gd : Gd} {os : Os} {k : Prop} (h : gOk gd os) (q : k) : gK gd os k := by
  cases gd with
  | none => exact q
  | some z => exact ⟨h, q⟩
/-- the iterator gives ws, whatever is made meanwhile -/
structure GI (K : PySem.W.Frag) (V1 : Hp) (J : It) (ws : List D) (gd : Gd) : Prop where
  go : ∀ (i : Nat) (F V2 : Hp) (os : Os) (H : Hp), Same V1 V2 → Rel K F V2 os H → gOk gd os → i < ws.length → J.go i H
  stop : ∀ (i : Nat) (F V2 : Hp) (os : Os) (H : Hp), Same V1 V2 → Rel K F V2 os H → gOk gd os → ws.length ≤ i → J.stop i H
  yld : ∀ (i : Nat) (F V2 : Hp) (os : Os) (H : Hp) (x : V) (H' : Hp) (w : D), Same V1 V2 → Rel K F V2 os H → gOk gd os → J.yld i H x H' → ws[i]? = some w → ∃ V3, Same V2 V3 ∧ Rel K F V3 os H' ∧ Rp K V3 x w
@[irreducible] def wPI (X : Cx) (tg iter : Expr) : TI := fun σ H R => ∀ (pins : List (Addr × Obj)) (s : Shared), Inv X pins σ H s →
  wpAny (model X.prog X.w) X.A (eval iter X.env) (fun v s1 => wpAny (model X.prog X.w) X.A (pyIter v) (PIE X pins σ tg R) X.xe s1) X.xe s
theorem wPI_pi {X : Cx} {tg iter : Expr} : PI X tg iter (wPI X tg iter) := by unfold wPI; exact ⟨fun pins s _ _ _ I h => h pins s I⟩
theorem wPI_of {X : Cx} {tg iter : Expr} {t : TI} (h : PI X tg iter t) {σ : L2.St} {H : Hp} {R : It → Hp → Prop} (q : t σ H R) : wPI X tg iter σ H R := by unfold wPI; exact fun pins s I => h.run pins s σ H R I q
def JI (X : Cx) (kx : Kx) (tg iter : Expr) (env : DEnv) (os : Os) (ki : List D → Gd → Os → Prop) : Prop :=
  ∀ (F V0 H : Hp) (σ : L2.St) (R : It → Hp → Prop) (W : WX), Rel X.K F V0 os H → SR X.K V0 σ env → XkOk X F V0 σ kx W →
    (∀ (V1 : Hp) (os1 : Os) (H1 : Hp) (J : It) (ws : List D) (gd : Gd), Same V0 V1 → Rel X.K F V1 os1 H1 → GI X.K V1 J ws gd → ki ws gd os1 → R J H1) → wPI X tg iter σ H R
abbrev TrI := Kx → DEnv → Os → (List D → Gd → Os → Prop) → Prop
def CmI (X : Cx) (tg iter : Expr) (t : TrI) : Prop := ∀ kx env os ki, t kx env os ki → JI X kx tg iter env os ki
section
variable {K : PySem.W.Frag} {V1 : Hp} {a : Addr} {xs : List V} {ds : List D}
theorem gi_list (h : SqL K V1 a xs) (r : RpA K V1 xs ds) : GI K V1 (Itl K a) ds none := by
  have hl := r.length
  refine ⟨fun i F V2 os H s2 r2 _ hi => ?_, fun i F V2 os H s2 r2 _ hi => ⟨xs, (s2.trans r2.vi).seq h, by omega⟩, fun i F V2 os H x H' w s2 r2 _ y e => ?_⟩
  · exact ⟨xs, xs[i]'(by omega), (s2.trans r2.vi).seq h, by simp [hl, hi]⟩
  · obtain ⟨rfl, y⟩ := y
    have ex := y xs ((s2.trans r2.vi).seq h)
    obtain ⟨d, ed, rd⟩ := r.getV ex
    rw [ed] at e
    cases e
    exact ⟨V2, Same.refl _, r2, Rp.mono s2 rd⟩
theorem gi_own {p : Addr} : GI K V1 (Itl K p) ds (some (p, ds)) := by
  have key : ∀ (F V2 : Hp) (os : Os) (H : Hp), Rel K F V2 os H → gOk (some (p, ds)) os → ∃ vs, SqL K H p vs ∧ RpA K V2 vs ds := fun F V2 os H r2 ⟨n, ho⟩ => by
    obtain ⟨_, _, ho', h3, vs, rfl, h4⟩ := r2.own _ (List.mem_of_getElem? ho)
    exact ⟨vs, SqL.of h3, h4⟩
  refine ⟨fun i F V2 os H s2 r2 g hi => ?_, fun i F V2 os H s2 r2 g hi => ?_, fun i F V2 os H x H' w s2 r2 g y e => ?_⟩
  · obtain ⟨vs, h, ra⟩ := key F V2 os H r2 g
    have hl := ra.length
    exact ⟨vs, vs[i]'(by omega), h, by simp [hl, hi]⟩
  · obtain ⟨vs, h, ra⟩ := key F V2 os H r2 g
    have hl := ra.length
    exact ⟨vs, h, by omega⟩
  · obtain ⟨vs, h, ra⟩ := key F V2 os H r2 g
    obtain ⟨rfl, y⟩ := y
    have ex := y vs h
    obtain ⟨d, ed, rd⟩ := ra.getV ex
    rw [ed] at e
    cases e
    exact ⟨V2, Same.refl _, r2, rd⟩
theorem gi_tup (h : SqT K V1 a xs) (r : RpA K V1 xs ds) : GI K V1 (Itt K a) ds none := by
  have hl := r.length
  refine ⟨fun i F V2 os H s2 r2 _ hi => ?_, fun i F V2 os H s2 r2 _ hi => ⟨xs, same_sqT (s2.trans r2.vi) h, by omega⟩, fun i F V2 os H x H' w s2 r2 _ y e => ?_⟩
  · exact ⟨xs, xs[i]'(by omega), same_sqT (s2.trans r2.vi) h, by simp [hl, hi]⟩
  · obtain ⟨rfl, y⟩ := y
    have ex := y xs (same_sqT (s2.trans r2.vi) h)
    obtain ⟨d, ed, rd⟩ := r.getV ex
    rw [ed] at e
    cases e
    exact ⟨V2, Same.refl _, r2, Rp.mono s2 rd⟩
/-- lo, lo + c, .. -/
def rng : Int → Int → Nat → List D
  | _, _, 0 => []
  | lo, c, n + 1 => .int lo :: rng (lo + c) c n
theorem rng_len : ∀ (lo c : Int) (n : Nat), (rng lo c n).length = n
  | _, _, 0 => rfl
  | lo, c, n + 1 => congrArg (· + 1) (rng_len (lo + c) c n)
theorem rng_get : ∀ {n : Nat} {lo c : Int} {i : Nat}, i < n → (rng lo c n)[i]? = some (.int (lo + (i : Int) * c))
  | n + 1, lo, c, 0, _ => by simp [rng]
  | n + 1, lo, c, i + 1, h => by
    have := rng_get (n := n) (lo := lo + c) (c := c) (i := i) (by omega)
    rw [rng, List.getElem?_cons_succ, this]
    have : lo + c + (i : Int) * c = lo + ((i + 1 : Nat) : Int) * c := by
      rw [Int.natCast_add, Int.add_mul]; simp; omega
    rw [this]
theorem rng_at {n : Nat} {lo c : Int} {i : Nat} {w : D} (h : (rng lo c n)[i]? = some w) : w = .int (lo + (i : Int) * c) ∧ i < n := by
  have hi : i < n := by
    have := (List.getElem?_eq_some_iff.mp h).1
    rw [rng_len] at this; exact this
  rw [rng_get hi] at h
  exact ⟨(Option.some.inj h).symm, hi⟩
theorem gi_rng (lo : Int) (n : Nat) : GI K V1 (Itr lo n) (rng lo 1 n) none := by
  refine ⟨fun i F V2 os H s2 r2 _ hi => by rw [rng_len] at hi; exact hi, fun i F V2 os H s2 r2 _ hi => by rw [rng_len] at hi; exact hi, fun i F V2 os H x H' w s2 r2 _ y e => ?_⟩
  obtain ⟨rfl, rfl⟩ := y
  obtain ⟨rfl, _⟩ := rng_at e
  rw [Int.mul_one]
  exact ⟨V2, Same.refl _, r2, rwI⟩
theorem gi_rngC (lo c : Int) (n : Nat) : GI K V1 (Itc lo c n) (rng lo c n) none := by
  refine ⟨fun i F V2 os H s2 r2 _ hi => by rw [rng_len] at hi; exact hi, fun i F V2 os H s2 r2 _ hi => by rw [rng_len] at hi; exact hi, fun i F V2 os H x H' w s2 r2 _ y e => ?_⟩
  obtain ⟨rfl, rfl⟩ := y
  obtain ⟨rfl, _⟩ := rng_at e
  exact ⟨V2, Same.refl _, r2, rwI⟩
/-- (i, x), .. -/
def enumW : Int → List D → List D
  | _, [] => []
  | i, d :: ds => .tup [.int i, d] :: enumW (i + 1) ds
theorem enumW_get : ∀ {ds : List D} {lo : Int} {i : Nat} {w : D}, (enumW lo ds)[i]? = some w → ∃ d, ds[i]? = some d ∧ w = .tup [.int (lo + (i : Nat)), d]
  | [], _, _, _, h => by simp [enumW] at h
  | d :: ds, lo, 0, w, h => by
    rw [enumW] at h
    exact ⟨d, rfl, by rw [← Option.some.inj h]; simp⟩
  | d :: ds, lo, i + 1, w, h => by
    rw [enumW, List.getElem?_cons_succ] at h
    obtain ⟨d', h1, h2⟩ := enumW_get h
    refine ⟨d', h1, ?_⟩
    rw [h2]
    have : lo + 1 + (i : Int) = lo + ((i + 1 : Nat) : Int) := by omega
    rw [this]
theorem enumW_len : ∀ (lo : Int) (ds : List D), (enumW lo ds).length = ds.length
  | _, [] => rfl
  | lo, _ :: ds => congrArg (· + 1) (enumW_len (lo + 1) ds)
theorem gi_enum (h : SqL K V1 a xs) (r : RpA K V1 xs ds) : GI K V1 (Ite K a) (enumW 0 ds) none := by
  have hl := r.length
  refine ⟨fun i F V2 os H s2 r2 _ hi => ?_, fun i F V2 os H s2 r2 _ hi => ⟨xs, (s2.trans r2.vi).seq h, by rw [enumW_len] at hi; omega⟩, fun i F V2 os H x H' w s2 r2 _ y e => ?_⟩
  · rw [enumW_len] at hi
    exact ⟨xs, xs[i]'(by omega), (s2.trans r2.vi).seq h, by simp [hl, hi]⟩
  · obtain ⟨T, v, rfl, hT, rfl, y⟩ := y
    have ex := y xs ((s2.trans r2.vi).seq h)
    obtain ⟨d, ed, rd⟩ := r.getV ex
    obtain ⟨d', ed', rfl⟩ := enumW_get e
    rw [ed] at ed'; cases ed'
    obtain ⟨s3, r3, rp⟩ := rel_newT (vs := [.int (i : Nat), v]) (ds := [.int (i : Nat), d]) r2 hT (.cons (.int _) (.cons (Rp.mono s2 rd) .nil))
    rw [Int.zero_add]
    exact ⟨_, s3, r3, rp⟩
def zipW : List D → List D → List D
  | d :: ds, e :: es => .tup [d, e] :: zipW ds es
  | _, _ => []
theorem zipW_get : ∀ {ds es : List D} {i : Nat} {w : D}, (zipW ds es)[i]? = some w → ∃ d e, ds[i]? = some d ∧ es[i]? = some e ∧ w = .tup [d, e]
  | [], _, _, _, h => by simp [zipW] at h
  | _ :: _, [], _, _, h => by simp [zipW] at h
  | d :: ds, e :: es, 0, w, h => ⟨d, e, rfl, rfl, (Option.some.inj h).symm⟩
  | d :: ds, e :: es, i + 1, w, h => by
    rw [zipW, List.getElem?_cons_succ] at h
    have h2 := zipW_get (ds := ds) (es := es) (i := i) h
    exact h2
theorem zipW_len : ∀ ds es : List D, (zipW ds es).length = min ds.length es.length
  | [], _ => by simp [zipW]
  | _ :: _, [] => by simp [zipW]
  | _ :: ds, _ :: es => by rw [zipW, List.length_cons, zipW_len ds es, List.length_cons, List.length_cons]; omega
theorem gi_zip {b : Addr} {ys : List V} {es : List D} (h : SqL K V1 a xs) (r : RpA K V1 xs ds) (h' : SqL K V1 b ys) (r' : RpA K V1 ys es) : GI K V1 (Itz K a b) (zipW ds es) none := by
  have hl := r.length
  have hl' := r'.length
  have hz := zipW_len ds es
  refine ⟨fun i F V2 os H s2 r2 _ hi => ?_, fun i F V2 os H s2 r2 _ hi => ⟨xs, ys, (s2.trans r2.vi).seq h, (s2.trans r2.vi).seq h', by rw [hz] at hi; omega⟩, fun i F V2 os H x H' w s2 r2 _ y e => ?_⟩
  · rw [hz] at hi
    exact ⟨xs, ys, xs[i]'(by omega), ys[i]'(by omega), (s2.trans r2.vi).seq h, (s2.trans r2.vi).seq h', by simp, by simp⟩
  · obtain ⟨T, v, v', rfl, hT, rfl, y, y'⟩ := y
    obtain ⟨d, ed, rd⟩ := r.getV (y xs ((s2.trans r2.vi).seq h))
    obtain ⟨d2, ed2, rd2⟩ := r'.getV (y' ys ((s2.trans r2.vi).seq h'))
    obtain ⟨d', e', f1, f2, rfl⟩ := zipW_get e
    rw [ed] at f1; cases f1
    rw [ed2] at f2; cases f2
    obtain ⟨s3, r3, rp⟩ := rel_newT (vs := [v, v']) (ds := [d, d2]) r2 hT (.cons (Rp.mono s2 rd) (.cons (Rp.mono s2 rd2) .nil))
    exact ⟨_, s3, r3, rp⟩
end
section
variable {X : Cx} {tge e a b c3 : Expr} {p pos : Pos} {te ta tb tc : TrE}
/-- over a list, a tuple, an owned list -/
def iSeq (te : TrE) : TrI := fun kx env os ki => te kx env os fun w os1 => match w with
  | .lst ds => ki ds none os1
  | .tup ds => ki ds none os1
  | .ref p => ∃ (n : Nat) (ws : List D), os1[n]? = some (p, OO.lst ws) ∧ ki ws (some (p, ws)) os1
  | _ => False
theorem it_list {pins : List (Addr × Obj)} {σ : L2.St} {H : Hp} {s : Shared} {u : Addr} {xs : List V} {R : It → Hp → Prop} {E : Value → Shared → Prop} (I : Inv X pins σ H s) (hq : SqL X.K H u xs) (q : R (Itl X.K u) H) : wpAny (model X.prog X.w) X.A (pyIter (.ref u)) (PIE X pins σ tge R) E s := by
  obtain ⟨its, rv, pl, hz⟩ := I.list hq
  have fresh := I.fpOk (b := s.heap.objs.size) (Nat.le_refl _) (I.hok.fresh (Nat.le_refl _))
  refine wpAny_pyIter_list pl.isList ⟨s.heap.objs.size, [s.heap.objs.size], _, _, H, rfl, ?_, turn_list u _, ⟨_, Heap.get?_push_size _ rfl, rfl, rfl⟩, ?_, q⟩
  · exact I.kept (t' := s.toks) fun b o => Heap.get?_push_of_some _
  · intro b hb
    rw [List.mem_singleton] at hb
    exact hb ▸ fresh
theorem it_tup {pins : List (Addr × Obj)} {σ : L2.St} {H : Hp} {s : Shared} {u : Addr} {xs : List V} {R : It → Hp → Prop} {E : Value → Shared → Prop} (I : Inv X pins σ H s) (hq : SqT X.K H u xs) (q : R (Itt X.K u) H) : wpAny (model X.prog X.w) X.A (pyIter (.ref u)) (PIE X pins σ tge R) E s := by
  obtain ⟨its, rv, pl, hz⟩ := I.tuple hq
  have fresh := I.fpOk (b := s.heap.objs.size) (Nat.le_refl _) (I.hok.fresh (Nat.le_refl _))
  refine wpAny_pyIter_tuple (show s.heap.IsTuple u its.toArray from pl) ⟨s.heap.objs.size, [s.heap.objs.size], _, _, H, rfl, ?_, turn_tuple u _, ⟨_, Heap.get?_push_size _ rfl, rfl, rfl⟩, ?_, q⟩
  · exact I.kept (t' := s.toks) fun b o => Heap.get?_push_of_some _
  · intro b hb
    rw [List.mem_singleton] at hb
    exact hb ▸ fresh
theorem ci_seq (h : Cm X e te) : CmI X tge e (iSeq te) := by
  intro kx env os ki q F V0 H σ R W r sr ek c
  have hPI : PI X tge e (fun σ H R => wE X e σ H fun x H1 => ∃ (u : Addr) (xs : List V), x = .ref u ∧ ((SqL X.K H1 u xs ∧ R (Itl X.K u) H1) ∨ (SqT X.K H1 u xs ∧ R (Itt X.K u) H1))) := ⟨fun pins s σ H R I h => by
    refine thn (wE_pe.run pins s σ H _ I h) fun v s1 ⟨x, H1, I1, r1, u, xs, e1, q⟩ => ?_
    subst e1
    obtain rfl : v = Value.ref u := r1
    rcases q with ⟨hq, q⟩ | ⟨hq, q⟩
    · exact it_list I1 hq q
    · exact it_tup I1 hq q⟩
  refine wPI_of hPI ?_
  refine h _ _ _ _ q F V0 H σ _ W r sr ek fun V1 os1 H1 v w s1 r1 rv q => ?_
  split at q
  · obtain ⟨p, xs, rfl, h1, h2⟩ := rp_lst rv
    exact ⟨p, xs, rfl, .inl ⟨r1.vi.seq h1, c V1 os1 H1 _ _ _ s1 r1 (gi_list h1 h2) q⟩⟩
  · obtain ⟨p, xs, rfl, h1, h2⟩ := rp_tup rv
    exact ⟨p, xs, rfl, .inr ⟨same_sqT r1.vi h1, c V1 os1 H1 _ _ _ s1 r1 (gi_tup h1 h2) q⟩⟩
  · obtain ⟨n, ws, ho, q⟩ := q
    obtain rfl := rv.toRef
    obtain ⟨_, _, ho', h3, vs, rfl, h4⟩ := r1.own _ (List.mem_of_getElem? ho)
    exact ⟨_, vs, rfl, .inl ⟨SqL.of h3, c V1 os1 H1 _ _ _ s1 r1 gi_own q⟩⟩
  · exact q.elim
def iR1 (ta : TrE) : TrI := fun kx env os ki => ta kx env os fun w os1 => match w with
  | .int j => -(2 ^ 62) ≤ j ∧ j < 2 ^ 62 ∧ ki (rng 0 1 j.toNat) none os1
  | _ => False
theorem ci_range1 (hg : Gl X "range") (hm : X.mg "range" = none) (h : Cm X a ta) (hs : starEach [a] X.env = [(false, eval a X.env)]) : CmI X tge (.Call (.Name "range" p) [a] [] pos) (iR1 ta) := by
  intro kx env os ki q F V0 H σ R W r sr ek c
  refine wPI_of (pi_range1 hg hm (pa_cons wE_pe pa_nil hs) hs) ?_
  refine h _ _ _ _ q F V0 H σ _ W r sr ek fun V1 os1 H1 v w s1 r1 rv q => ?_
  split at q
  · cases rv
    exact ⟨_, rfl, q.1, q.2.1, c V1 os1 H1 _ _ _ s1 r1 (gi_rng 0 _) q.2.2⟩
  · exact q.elim
def iR2 (ta tb : TrE) : TrI := fun kx env os ki => ta kx env os fun w os1 => tb kx env os1 fun u os2 => match w with
  | .int i => (match u with
    | .int j => (-(2 ^ 62) ≤ i ∧ i < 2 ^ 62 ∧ -(2 ^ 62) ≤ j ∧ j < 2 ^ 62) ∧ ki (rng i 1 (j - i).toNat) none os2
    | _ => False)
  | _ => False
theorem ci_range2 (hg : Gl X "range") (hm : X.mg "range" = none) (h : Cm X a ta) (h2 : Cm X b tb) (hs : starEach [a, b] X.env = [(false, eval a X.env), (false, eval b X.env)]) (hs2 : starEach [b] X.env = [(false, eval b X.env)]) :
    CmI X tge (.Call (.Name "range" p) [a, b] [] pos) (iR2 ta tb) := by
  intro kx env os ki q F V0 H σ R W r sr ek c
  refine wPI_of (pi_range2 hg hm (pa_cons wE_pe (pa_cons wE_pe pa_nil hs2) (by rw [hs, hs2])) hs hs2) ?_
  refine h _ _ _ _ q F V0 H σ _ W r sr ek fun V1 os1 H1 v w s1 r1 rv q => ?_
  refine h2 _ _ _ _ q F V1 H1 σ _ W r1 (sr.mono s1) (ek.mono s1) fun V2 os2 H2 u y s2 r2 ru q => ?_
  split at q
  · split at q
    · cases rv; cases ru
      exact ⟨_, _, rfl, q.1, c V2 os2 H2 _ _ _ (s1.trans s2) r2 (gi_rng _ _) q.2⟩
    · exact q.elim
  · exact q.elim
/-- enumerate(a list) -/
def iEnum (te : TrE) : TrI := fun kx env os ki => te kx env os fun w os1 => match w with
  | .lst ds => ki (enumW 0 ds) none os1
  | _ => False
theorem ci_enum {elts : List Expr} {kk : Nat} {tpos : Pos} (hg : Gl X "enumerate") (hm : X.mg "enumerate" = none) (h : Cm X e te) (hs : starEach [e] X.env = [(false, eval e X.env)]) :
    CmI X (.Tuple elts kk tpos) (.Call (.Name "enumerate" p) [e] [] pos) (iEnum te) := by
  intro kx env os ki q F V0 H σ R W r sr ek c
  refine wPI_of (pi_enum hg hm (pa_cons wE_pe pa_nil hs) hs) ?_
  refine h _ _ _ _ q F V0 H σ _ W r sr ek fun V1 os1 H1 v w s1 r1 rv q => ?_
  split at q
  · obtain ⟨p, xs, rfl, h1, h2⟩ := rp_lst rv
    exact ⟨p, xs, rfl, r1.vi.seq h1, c V1 os1 H1 _ _ _ s1 r1 (gi_enum h1 h2) q⟩
  · exact q.elim
def iZip (ta tb : TrE) : TrI := fun kx env os ki => ta kx env os fun w os1 => tb kx env os1 fun u os2 => match w with
  | .lst ds => (match u with
    | .lst es => ki (zipW ds es) none os2
    | _ => False)
  | _ => False
theorem ci_zip {elts : List Expr} {kk : Nat} {tpos : Pos} (hg : Gl X "zip") (hm : X.mg "zip" = none) (h : Cm X a ta) (h2 : Cm X b tb)
    (hs : starEach [a, b] X.env = (false, eval a X.env) :: starEach [b] X.env) (hs2 : starEach [b] X.env = [(false, eval b X.env)]) (hpl : (backTo pos (starEach [b] X.env)).any (·.1) = false) :
    CmI X (.Tuple elts kk tpos) (.Call (.Name "zip" p) [a, b] [] pos) (iZip ta tb) := by
  intro kx env os ki q F V0 H σ R W r sr ek c
  refine wPI_of (pi_zip hg hm (pa_cons wE_pe (pa_cons wE_pe pa_nil hs2) hs) hs hpl) ?_
  refine h _ _ _ _ q F V0 H σ _ W r sr ek fun V1 os1 H1 v w s1 r1 rv q => ?_
  refine h2 _ _ _ _ q F V1 H1 σ _ W r1 (sr.mono s1) (ek.mono s1) fun V2 os2 H2 u y s2 r2 ru q => ?_
  split at q
  · split at q
    · obtain ⟨p, xs, rfl, h1, h2⟩ := rp_lst rv
      obtain ⟨p', ys, rfl, h3, h4⟩ := rp_lst ru
      exact ⟨p, p', xs, ys, rfl, (s2.trans r2.vi).seq h1, r2.vi.seq h3, c V2 os2 H2 _ _ _ (s1.trans s2) r2 (gi_zip (s2.seq h1) (RpA.mono s2 h2) h3 h4) q⟩
    · exact q.elim
  · exact q.elim
end

/-! ### less is told, in another order -/
def WkO (os os2 : Os) : Prop := ∃ or : Os, os.Perm (os2 ++ or)
theorem WkO.refl (os : Os) : WkO os os := ⟨[], by rw [List.append_nil]⟩
theorem WkO.perm {os os2 : Os} (h : os.Perm os2) : WkO os os2 := ⟨[], by rw [List.append_nil]; exact h⟩
theorem WkO.trans {a b c : Os} (h : WkO a b) (h2 : WkO b c) : WkO a c := by
  obtain ⟨r, h⟩ := h
  obtain ⟨r2, h2⟩ := h2
  exact ⟨r2 ++ r, h.trans (by rw [← List.append_assoc]; exact h2.append_right r)⟩
theorem WkO.drop1 {x : Addr × OO} {os : Os} : WkO (x :: os) os := ⟨[x], List.perm_append_comm (l₁ := [x]) (l₂ := os)⟩
theorem WkO.left {a b : Os} : WkO (a ++ b) a := ⟨b, .refl _⟩
theorem WkO.right {a b : Os} : WkO (a ++ b) b := ⟨a, List.perm_append_comm⟩
theorem WkO.cons {x : Addr × OO} {a b : Os} (h : WkO a b) : WkO (x :: a) (x :: b) := let ⟨r, h⟩ := h; ⟨r, h.cons x⟩
theorem WkO.append {a b c d : Os} (h : WkO a b) (h2 : WkO c d) : WkO (a ++ c) (b ++ d) := by
  obtain ⟨r, h⟩ := h
  obtain ⟨r2, h2⟩ := h2
  refine ⟨r ++ r2, (h.append h2).trans ?_⟩
  rw [List.append_assoc, List.append_assoc]
  refine List.Perm.append_left b ?_
  rw [← List.append_assoc, ← List.append_assoc]
  exact List.perm_append_comm.append_right r2
theorem WkO.sub {a b : Os} (h : b.Sublist a) : WkO a b := by
  induction h with
  | slnil => exact .refl _
  | cons x _ ih => exact WkO.trans .drop1 ih
  | cons_cons x _ ih => exact .cons ih
theorem Rel.wk {K : PySem.W.Frag} {F V0 H : Hp} {os os2 : Os} (r : Rel K F V0 os H) (h : WkO os os2) : Rel K F V0 os2 H := let ⟨_, h⟩ := h; (r.perm h).drop (List.sublist_append_left _ _)
def wkX (os : Os) (k : Os → Prop) : Prop := ∃ os2, WkO os os2 ∧ k os2
theorem wkX_id {os : Os} {k : Os → Prop} (h : k os) : wkX os k := ⟨os, .refl os, h⟩

/-! ### for -/
/-- what a loop's body ends in -/
abbrev KR.loop (R : KR) (again behind : DEnv → Os → Prop) : KR := { rt := R.rt, bk := behind, ct := again, ex := R.ex }
def forW (g : TrG) (body : TrS) (N : DEnv → Os → Prop) (R : KR) (gd : Gd) : List D → DEnv → Os → Prop
  | [], env, os => wkX os fun os => gK gd os (N env os)
  | w :: ws, env, os => wkX os fun os => gK gd os (g w env os fun env1 os1 => body (forW g body N R gd ws) (R.loop (forW g body N R gd ws) N) env1 os1)
/-- the same, not to be unfolded by a walk -/
@[irreducible] def forX (g : TrG) (body : TrS) (N : DEnv → Os → Prop) (R : KR) (gd : Gd) (ws : List D) (env : DEnv) (os : Os) : Prop := forW g body N R gd ws env os
theorem forX_eq {g : TrG} {body : TrS} {N : DEnv → Os → Prop} {R : KR} {gd : Gd} {ws : List D} {env : DEnv} {os : Os} : forX g body N R gd ws env os = forW g body N R gd ws env os := by unfold forX; rfl
def sFor (g : TrG) (ti : TrI) (body : TrS) : TrS := fun N R env os => ti (R.xk env) env os fun ws gd os1 => forX g body N R gd ws env os1
theorem c1_for {X : Cx} {tge iter : Expr} {body : List Stmt} {pos : Pos} {g : TrG} {ti : TrI} {tb : TrS} (hg : CmG X tge g) (h : CmI X tge iter ti) (hb : CmSs X body tb) (hc : X.calm = true) (hp : PassesOwn (model X.prog X.w) X.A X.env X.xe)
    (hs : ∀ x, foldedSetIterable iter X.env x = pure x) : CmS X (.For tge iter body [] pos) (sFor g ti tb) := by
  intro N R env os q F V0 H σ D W r sr ek
  refine wS1_of (ps_for hp hc wPI_pi wG_pg wSs_pss hs) ?_
  refine h _ _ _ _ q F V0 H σ _ W r sr (ek.xk sr) fun V1 os1 H1 J ws gd s1 r1 gi q => ?_
  rw [forX_eq] at q
  refine ⟨fun i m σ2 H2 => m = ws.length - i ∧ i ≤ ws.length ∧ ∃ (V2 : Hp) (os2 : Os) (env2 : DEnv), Same V1 V2 ∧ Rel X.K F V2 os2 H2 ∧ SR X.K V2 σ2 env2 ∧ forW g tb N R gd (ws.drop i) env2 os2,
    ⟨ws.length, rfl, Nat.zero_le _, V1, os1, env, Same.refl _, r1, sr.mono s1, q⟩, ?_⟩
  rintro i m σ2 H2 ⟨rfl, hi, V2, os0, env2, s2, r0, sr2, q2⟩
  by_cases hlt : i < ws.length
  · rw [List.drop_eq_getElem_cons hlt] at q2
    obtain ⟨os2, hwk, q2⟩ := q2
    have r2 := r0.wk hwk
    obtain ⟨hG, q2⟩ := gK_ok q2
    refine .inr ⟨gi.go i F V2 os2 H2 s2 r2 hG hlt, fun σ3 H3 => ∃ (V3 : Hp) (os3 : Os) (env3 : DEnv), Same V1 V3 ∧ Rel X.K F V3 os3 H3 ∧ SR X.K V3 σ3 env3 ∧ forW g tb N R gd (ws.drop (i + 1)) env3 os3,
      fun σ3 H3 q3 => ⟨ws.length - (i + 1), by omega, rfl, hlt, q3⟩, fun x H' y => ?_⟩
    obtain ⟨V3, s3, r3, rw3⟩ := gi.yld i F V2 os2 H2 x H' ws[i] s2 r2 hG y (List.getElem?_eq_getElem hlt)
    refine hg _ _ _ _ q2 F V3 H' σ2 x _ W r3 (sr2.mono s3) rw3 ek.tk fun V4 os4 H4 σ4 env4 s4 r4 sr4 q4 => ?_
    have s14 := (s2.trans s3).trans s4
    refine hb _ _ _ _ q4 F V4 H4 σ4 _ W r4 sr4 ⟨fun V5 os5 H5 σ5 env5 s5 r5 sr5 q5 => ⟨V5, os5, env5, s14.trans s5, r5, sr5, q5⟩, fun V5 os5 H5 v w s5 r5 rv q5 => ?_, fun V5 os5 H5 σ5 env5 s5 r5 sr5 q5 => ?_, fun V5 os5 H5 σ5 env5 s5 r5 sr5 q5 => ⟨V5, os5, env5, s14.trans s5, r5, sr5, q5⟩, ek.tk,
      fun V5 os5 H5 σ5 env5 cls d x s5 r5 sr5 ex q5 => ek.ex V5 os5 H5 σ5 env5 cls d x ((s1.trans s14).trans s5) r5 sr5 ex q5⟩
    · exact ek.rt V5 os5 H5 v w ((s1.trans s14).trans s5) r5 rv q5
    · exact ek.nx V5 os5 H5 σ5 env5 ((s1.trans s14).trans s5) r5 sr5 q5
  · have e : i = ws.length := by omega
    subst e
    rw [List.drop_length] at q2
    obtain ⟨os2, hwk, q2⟩ := q2
    have r2 := r0.wk hwk
    obtain ⟨hG, q2⟩ := gK_ok q2
    exact .inl ⟨gi.stop _ F V2 os2 H2 s2 r2 hG (Nat.le_refl _), ek.nx V2 os2 H2 σ2 env2 (s1.trans s2) r2 sr2 q2⟩
/-- by an invariant over the turn: whatever goes on behind the turn -/
theorem forX_inv {g : TrG} {body : TrS} {N : DEnv → Os → Prop} {R : KR} {gd : Gd} {ws : List D} {env : DEnv} {os : Os} (I : Nat → DEnv → Os → Prop) (h0 : I 0 env os)
    (hs : ∀ (i : Nat) (w : D) (env : DEnv) (os : Os) (M : DEnv → Os → Prop), ws[i]? = some w → I i env os → (∀ e o o2, WkO o o2 → I (i + 1) e o2 → M e o) → g w env os fun env1 os1 => body M (R.loop M N) env1 os1)
    (hd : ∀ env os, I ws.length env os → N env os) (hG : ∀ i env os, I i env os → gOk gd os) : forX g body N R gd ws env os := by
  rw [forX_eq]
  have gen : ∀ (m i : Nat) (env : DEnv) (os os2 : Os), m = ws.length - i → i ≤ ws.length → WkO os os2 → I i env os2 → forW g body N R gd (ws.drop i) env os := by
    intro m
    induction m with
    | zero =>
      intro i env os os2 hm hi hw h
      have e : i = ws.length := by omega
      subst e
      rw [List.drop_length]
      exact ⟨os2, hw, gK_mk (hG _ env os2 h) (hd env os2 h)⟩
    | succ m ih =>
      intro i env os os2 hm hi hw h
      have hlt : i < ws.length := by omega
      rw [List.drop_eq_getElem_cons hlt]
      exact ⟨os2, hw, gK_mk (hG i env os2 h) (hs i ws[i] env os2 _ (List.getElem?_eq_getElem hlt) h fun e o o2 hw2 z => ih (i + 1) e o o2 (by omega) hlt hw2 z)⟩
  exact gen _ 0 env os os rfl (Nat.zero_le _) (.refl _) h0

theorem forX_nil {g : TrG} {body : TrS} {N : DEnv → Os → Prop} {R : KR} {env : DEnv} {os : Os} (h : N env os) : forX g body N R none [] env os := by rw [forX_eq]; exact wkX_id h
theorem forX_cons {g : TrG} {body : TrS} {N : DEnv → Os → Prop} {R : KR} {w : D} {ws : List D} {env : DEnv} {os : Os} (h : g w env os fun env1 os1 => body (forX g body N R none ws) (R.loop (forX g body N R none ws) N) env1 os1) : forX g body N R none (w :: ws) env os := by
  have e : forX g body N R none ws = forW g body N R none ws := by funext a b; exact forX_eq
  rw [forX_eq]
  rw [e] at h
  exact wkX_id h

/-! ### while -/
def whileW (c : TrT) (body : TrS) (N : DEnv → Os → Prop) (R : KR) : Nat → DEnv → Os → Prop
  | 0, _, _ => False
  | n + 1, env, os => wkX os fun os => c (R.xk env) env os fun b os1 => (b = true → body (whileW c body N R n) (R.loop (whileW c body N R n) N) env os1) ∧ (b = false → N env os1)
@[irreducible] def whileX (c : TrT) (body : TrS) (N : DEnv → Os → Prop) (R : KR) (env : DEnv) (os : Os) : Prop := ∃ n, whileW c body N R n env os
def sWhile (c : TrT) (body : TrS) : TrS := fun N R env os => whileX c body N R env os
theorem c1_while {X : Cx} {c : Expr} {body : List Stmt} {pos : Pos} {tc : TrT} {tb : TrS} (hc : CmT X c tc) (hb : CmSs X body tb) (hp : PassesOwn (model X.prog X.w) X.A X.env X.xe) : CmS X (.While c body [] pos) (sWhile tc tb) := by
  intro N R env os q F V0 H σ D W r sr ek
  unfold sWhile whileX at q
  obtain ⟨n0, q⟩ := q
  refine wS1_of (ps_while hp wTt_pt wSs_pss) ?_
  refine ⟨fun m σ1 H1 => ∃ (V1 : Hp) (os1 : Os) (env1 : DEnv), Same V0 V1 ∧ Rel X.K F V1 os1 H1 ∧ SR X.K V1 σ1 env1 ∧ whileW tc tb N R m env1 os1, ⟨n0, V0, os, env, Same.refl _, r, sr, q⟩, ?_⟩
  rintro m σ1 H1 ⟨V1, os0, env1, s1, r0, sr1, q⟩
  cases m with
  | zero => exact q.elim
  | succ m =>
    obtain ⟨os1, hwk, q⟩ := q
    have r1 := r0.wk hwk
    refine hc _ _ _ _ q F V1 H1 σ1 _ W r1 sr1 ((ek.mono s1).xk sr1) fun V2 os2 H2 b s2 r2 q2 => ?_
    cases b with
    | false => exact iteF (ek.nx V2 os2 H2 σ1 env1 (s1.trans s2) r2 (sr1.mono s2) (q2.2 rfl))
    | true =>
      refine iteT ⟨fun σ3 H3 => ∃ m', m' < m + 1 ∧ ∃ (V3 : Hp) (os3 : Os) (env3 : DEnv), Same V0 V3 ∧ Rel X.K F V3 os3 H3 ∧ SR X.K V3 σ3 env3 ∧ whileW tc tb N R m' env3 os3, fun σ3 H3 z => z, ?_⟩
      have s12 := s1.trans s2
      refine hb _ _ _ _ (q2.1 rfl) F V2 H2 σ1 _ W r2 (sr1.mono s2) ⟨fun V3 os3 H3 σ3 env3 s3 r3 sr3 q3 => ⟨m, Nat.lt_succ_self _, V3, os3, env3, s12.trans s3, r3, sr3, q3⟩, fun V3 os3 H3 v w s3 r3 rv q3 => ek.rt V3 os3 H3 v w (s12.trans s3) r3 rv q3,
        fun V3 os3 H3 σ3 env3 s3 r3 sr3 q3 => ek.nx V3 os3 H3 σ3 env3 (s12.trans s3) r3 sr3 q3, fun V3 os3 H3 σ3 env3 s3 r3 sr3 q3 => ⟨m, Nat.lt_succ_self _, V3, os3, env3, s12.trans s3, r3, sr3, q3⟩, ek.tk,
        fun V3 os3 H3 σ3 env3 cls d x s3 r3 sr3 ex q3 => ek.ex V3 os3 H3 σ3 env3 cls d x (s12.trans s3) r3 sr3 ex q3⟩
/-- by an invariant with a measure -/
theorem whileX_inv {c : TrT} {body : TrS} {N : DEnv → Os → Prop} {R : KR} {env : DEnv} {os : Os} (I : Nat → DEnv → Os → Prop) (m : Nat) (h0 : I m env os)
    (hs : ∀ (m : Nat) (env : DEnv) (os : Os) (M : DEnv → Os → Prop), I m env os → (∀ m' e o o2, m' < m → WkO o o2 → I m' e o2 → M e o) →
      c (R.xk env) env os fun b os1 => (b = true → body M (R.loop M N) env os1) ∧ (b = false → N env os1)) : whileX c body N R env os := by
  unfold whileX
  have gen : ∀ (f m : Nat) (env : DEnv) (os os2 : Os), m < f → WkO os os2 → I m env os2 → whileW c body N R f env os := by
    intro f
    induction f with
    | zero => intro m env os os2 h; omega
    | succ f ih => intro m env os os2 h hw hI; exact ⟨os2, hw, hs m env os2 _ hI fun m' e o o2 hm hw2 hI' => ih m' e o o2 (by omega) hw2 hI'⟩
  exact ⟨m + 1, gen _ m env os os (Nat.lt_succ_self _) (.refl _) h0⟩
end EV

set_option Elab.async false
set_option linter.all false
set_option maxRecDepth 100000
/-! E5: name op= e, list comprehensions. -/
namespace EV
open PySem PySem.Spec PyProof.Rows L2
section
variable {X : Cx} {pos : Pos} {e : Expr} {te : TrE}
theorem c1_augAdd {i : Nat} {x : Str} {pos' : Pos} (hN : X.N.Nodup) (hi : X.N[i]? = some x) (hx : Loc X.env.scope x) (h : Cm X e te) (hf : X.fn x = true ∨ X.env.scope.names.lookup x = some .local) : CmS X (.AugAssign (.Name x pos') .Add e pos) (sAug i (oI0 fun i j => i + j) te) := by
  intro N R env os q F V0 H σ D W r sr ek
  refine wS1_of (ps_aug hN hi hx wE_pe ip_add hf) ?_
  unfold sAug at q
  split at q
  · rename_i w he
    obtain ⟨v, e1, r1⟩ := sr.2 i w (getE_eq _ _ _ he)
    refine ⟨v, e1, ?_⟩
    refine h _ _ _ _ q F V0 H σ _ W r sr (ek.xk sr) fun V1 os1 H1 u y s1 r2 ru q => ?_
    unfold oI0 at q
    split at q
    · cases r1; cases ru
      exact ⟨_, _, rfl, rfl, ek.nx V1 os1 H1 _ _ s1 r2 (sr_setE (sr.mono s1) rwI i) q⟩
    · exact q.elim
  · exact q.elim
theorem c1_augSub {i : Nat} {x : Str} {pos' : Pos} (hN : X.N.Nodup) (hi : X.N[i]? = some x) (hx : Loc X.env.scope x) (h : Cm X e te) (hf : X.fn x = true ∨ X.env.scope.names.lookup x = some .local) : CmS X (.AugAssign (.Name x pos') .Sub e pos) (sAug i (oI0 fun i j => i - j) te) := by
  intro N R env os q F V0 H σ D W r sr ek
  refine wS1_of (ps_aug hN hi hx wE_pe ip_sub hf) ?_
  unfold sAug at q
  split at q
  · rename_i w he
    obtain ⟨v, e1, r1⟩ := sr.2 i w (getE_eq _ _ _ he)
    refine ⟨v, e1, ?_⟩
    refine h _ _ _ _ q F V0 H σ _ W r sr (ek.xk sr) fun V1 os1 H1 u y s1 r2 ru q => ?_
    unfold oI0 at q
    split at q
    · cases r1; cases ru
      exact ⟨_, _, rfl, rfl, ek.nx V1 os1 H1 _ _ s1 r2 (sr_setE (sr.mono s1) rwI i) q⟩
    · exact q.elim
  · exact q.elim
end

/-! ### list comprehensions -/
@[irreducible] def wTs (X : Cx) (ifs : List Expr) : TT := fun σ H Q => ∀ (pins : List (Addr × Obj)) (s : Shared), Inv X pins σ H s →
    wpAny (model X.prog X.w) X.A (forIn ifs true fun c r => if r = true then do let ok ← isTrue c X.env (eval c X.env); pure (ForInStep.yield ok) else pure (ForInStep.yield r)) (TP X pins σ Q) X.xe s
def CmTs (X : Cx) (ifs : List Expr) (t : TrT) : Prop := ∀ env os k, t kx0 env os k → ∀ (F V0 H : Hp) (σ : L2.St) (Q : Bool → Hp → Prop), Rel X.K F V0 os H → SR X.K V0 σ env →
    (∀ (V1 : Hp) (os1 : Os) (H1 : Hp) (b : Bool), Same V0 V1 → Rel X.K F V1 os1 H1 → k b os1 → Q b H1) → wTs X ifs σ H Q
/-- no test -/
def tYes : TrT := fun _ _ os k => k true os
theorem wTs_pts {X : Cx} {ifs : List Expr} : PTs X ifs (wTs X ifs) := by unfold wTs; exact ⟨fun pins s _ _ _ I h => h pins s I⟩
theorem wTs_of {X : Cx} {ifs : List Expr} {t : TT} (h : PTs X ifs t) {σ : L2.St} {H : Hp} {Q : Bool → Hp → Prop} (q : t σ H Q) : wTs X ifs σ H Q := by unfold wTs; exact fun pins s I => h.run pins s σ H Q I q
theorem cts_nil {X : Cx} : CmTs X [] tYes := fun env os k q F V0 H σ Q r sr c => wTs_of pts_nil (c V0 os H true (Same.refl _) r q)
theorem cts_one {X : Cx} {e : Expr} {t : TrT} (h : CmT X e t) : CmTs X [e] t := fun env os k q F V0 H σ Q r sr c => wTs_of (pts_one wTt_pt) (h _ _ _ _ q F V0 H σ Q _ r sr XkOk.none c)
def wipeE (env : DEnv) : List Nat → DEnv
  | [] => env
  | v :: vs => setE (wipeE env vs) v none
theorem set_none {K : PySem.W.Frag} {V0 : Hp} {σ : L2.St} {env : DEnv} (h : SR K V0 σ env) (i : Nat) : SR K V0 (σ.set i none) (setE env i none) := by
  rw [setE_eq]
  refine ⟨by rw [List.length_set, List.length_set]; exact h.1, fun j u q => ?_⟩
  by_cases e : i = j
  · subst e
    have hi : i < env.length := by
      have := (List.getElem?_eq_some_iff.mp q).1
      rw [List.length_set] at this; exact this
    rw [List.getElem?_set_self hi] at q
    cases q
  · rw [List.getElem?_set_ne e] at q ⊢
    exact h.2 j u q
theorem sr_wipe {K : PySem.W.Frag} {V0 : Hp} {σ : L2.St} {env : DEnv} (h : SR K V0 σ env) : ∀ vs : List Nat, SR K V0 (L2.wipe σ vs) (wipeE env vs)
  | [] => h
  | v :: vs => set_none (sr_wipe h vs) v
theorem wipe_set {σ : L2.St} {i : Nat} {x : Option V} : ∀ {vs : List Nat}, i ∈ vs → L2.wipe (σ.set i x) vs = L2.wipe σ vs
  | [], h => by cases h
  | v :: vs, h => by
    unfold L2.wipe
    by_cases hv : i ∈ vs
    · rw [wipe_set hv]
    · have e : i = v := by
        rcases List.mem_cons.mp h with e | e
        · exact e
        · exact absurd e hv
      subst e
      have gen : ∀ us : List Nat, i ∉ us → L2.wipe (σ.set i x) us = (L2.wipe σ us).set i x := by
        intro us
        induction us with
        | nil => intro _; rfl
        | cons u us ih =>
          intro hu
          unfold L2.wipe
          rw [ih fun z => hu (List.mem_cons_of_mem _ z), List.set_comm]
          intro e; exact hu (by rw [e]; exact List.mem_cons_self)
      rw [gen vs hv, List.set_set]
theorem wipe_idem {σ : L2.St} {i : Nat} {x : Option V} {vs : List Nat} (h : i ∈ vs) : L2.wipe ((L2.wipe σ vs).set i x) vs = L2.wipe (L2.wipe σ vs) vs := wipe_set h
theorem wipe_wipe {σ : L2.St} (vs : List Nat) : L2.wipe (L2.wipe σ vs) vs = L2.wipe σ vs := by
  refine List.ext_getElem? fun j => ?_
  by_cases hj : j ∈ vs
  · have gen : ∀ (τ : L2.St) (us : List Nat), j ∈ us → (L2.wipe τ us)[j]? = τ[j]?.map fun _ => none := by
      intro τ us
      induction us with
      | nil => intro h; cases h
      | cons u us ih =>
        intro h
        unfold L2.wipe
        by_cases e : u = j
        · subst e
          rw [List.getElem?_set_self', ]
          by_cases hu : u ∈ us
          · rw [ih hu]; cases τ[u]? <;> rfl
          · rw [L2.wipe_out hu]; cases τ[u]? <;> rfl
        · rw [List.getElem?_set_ne e]
          refine ih ?_
          rcases List.mem_cons.mp h with z | z
          · exact absurd z.symm e
          · exact z
    rw [gen _ vs hj, gen _ vs hj]
    cases σ[j]? <;> rfl
  · rw [L2.wipe_out hj, L2.wipe_out hj]


/-- the block's context -/
abbrev Bk (X : Cx) (scope : Scope) (s : Shared) (H : Hp) (C : Addr) (cl : List (Str × Addr)) (fp : List Addr) : Cx := X.blk s H scope (compEnvC scope cl C X.env) fp
/-- how an item is bound -/
abbrev TrB := D → DEnv → (DEnv → Prop) → Prop
def BindOk (K : PySem.W.Frag) (vs : List Nat) (g : TG) (b : TrB) : Prop := ∀ (F V3 H' : Hp) (os : Os) (σ : L2.St) (env : DEnv) (x : V) (w : D) (kk : DEnv → Prop) (Q : L2.St → Hp → Prop),
  Rel K F V3 os H' → Rp K V3 x w → SR K V3 (L2.wipe σ vs) env → b w env kk → (∀ σ2 env2, SR K V3 σ2 env2 → L2.wipe σ2 vs = L2.wipe σ vs → kk env2 → Q σ2 H') → g x (L2.wipe σ vs) H' Q
def b1 (i : Nat) : TrB := fun w env k => k (setE env i (some w))
def b2 (i j : Nat) : TrB := fun w env k => match w with
  | .tup [d1, d2] => k (setE (setE env i (some d1)) j (some d2))
  | _ => False
theorem bind1 {K : PySem.W.Frag} {vs : List Nat} {i : Nat} (hm : i ∈ vs) : BindOk K vs (L2.gName i) (b1 i) :=
  fun F V3 H' os σ env x w kk Q r rx sr q c => c _ _ (sr_setE sr rx i) (by rw [wipe_set hm, wipe_wipe]) q
theorem bind2 {K : PySem.W.Frag} {vs : List Nat} {i j : Nat} (hm : i ∈ vs) (hm2 : j ∈ vs) : BindOk K vs (L2.gTup K 2 (L2.gCons (L2.gName i) (L2.gCons (L2.gName j) L2.gNil))) (b2 i j) := by
  intro F V3 H' os σ env x w kk Q r rx sr q c
  unfold b2 at q
  split at q
  · obtain ⟨p, xs, rfl, h1, h2⟩ := rp_tup rx
    obtain ⟨v1, v2, rfl, w1, w2⟩ := h2.two
    exact ⟨p, [v1, v2], rfl, same_sqT r.vi h1, rfl, v1, [v2], rfl, v2, [], rfl, rfl, c _ _ (sr_setE (sr_setE sr w1 i) w2 j) (by rw [wipe_set hm2, wipe_set hm, wipe_wipe]) q⟩
  · exact q.elim
/-- the turns over ws, acc made so far -/
def lcW (b : TrB) (t : TrT) (te : TrE) (env : DEnv) (k : List D → Os → Prop) (gd : Gd) : List D → List D → Os → Prop
  | [], acc, os => wkX os fun os => gK gd os (k acc os)
  | w :: ws, acc, os => wkX os fun os => gK gd os (b w env fun env1 => t kx0 env1 os fun bo os1 => (bo = true → te kx0 env1 os1 fun y os2 => lcW b t te env k gd ws (acc ++ [y]) os2) ∧ (bo = false → lcW b t te env k gd ws acc os1))
def lcK (own : Bool) (k : D → Os → Prop) : List D → Os → Prop := fun ds os => if own then ∀ p, k (.ref p) ((p, .lst ds) :: os) else k (.lst ds) os
theorem tlc_of {X : Cx} {kx : Kx} {env : DEnv} {os : Os} {k : D → Os → Prop} {own0 : Bool} {elt iter tg : Expr} {ifs : List Expr} {scope : Scope} {vs : List Nat} {g : TG} {bn : TrB} {tt : TrT} {te : TrE} {ti : TrI}
    (hb : BindOk X.K vs g bn) (hi : CmI X tg iter ti) (ht : ∀ s H C cl fp, CmTs (Bk X scope s H C cl fp) ifs tt) (he : ∀ s H C cl fp, Cm (Bk X scope s H C cl fp) elt te)
    (h : ti kx env os fun ws gd os1 => ws.length ≤ sizeLine ∧ lcW bn tt te (wipeE env vs) (lcK own0 k) gd ws [] os1) {F V0 H : Hp} {σ : L2.St} {Q : VK} {W : WX} (r : Rel X.K F V0 os H) (sr : SR X.K V0 σ env) (ek : XkOk X F V0 σ kx W)
    (c : ∀ (V1 : Hp) (os1 : Os) (H1 : Hp) (v : V) (w : D), Same V0 V1 → Rel X.K F V1 os1 H1 → Rp X.K V1 v w → k w os1 → Q v H1) :
    tLc (wPI X tg iter) g (fun σ H Q => ∀ s0 H0 C cl fp, wTs (Bk X scope s0 H0 C cl fp) ifs σ H Q) (fun σ H Q => ∀ s0 H0 C cl fp, wE (Bk X scope s0 H0 C cl fp) elt σ H Q) vs σ H Q := by
  refine hi _ _ _ _ h F V0 H σ _ W r sr ek fun V1 os1 H1 J ws gd s1 r1 gi ⟨hz, q⟩ => ?_
  intro L hL
  have hFL := r1.fr.free hL
  have hVL := r1.vi.free hL
  -- the list in the frame
  have put : ∀ (acc : List V) (V2 : Hp) (os2 : Os) (H2 : Hp), Rel X.K F V2 os2 H2 → H2 L = none → Rel X.K (upd F L (.lst acc)) V2 os2 (upd H2 L (.lst acc)) := by
    intro acc V2 os2 H2 r2 hn
    have f2 := r2.fr.free hn
    have v2 := r2.vi.free hn
    refine ⟨fun a o e => ?_, fun a o e => ?_, fun a o e => ?_, fun p hp => ?_, r2.nd⟩
    · by_cases ha : a = L
      · subst ha; rw [upd_same] at e ⊢; exact e
      · rw [upd_ne ha] at e ⊢; exact r2.fr a o e
    · rw [upd_ne (ne_of_none e v2)]
      exact r2.vi a o e
    · by_cases ha : a = L
      · subst ha; exact v2
      · rw [upd_ne ha] at e; exact r2.fv a o e
    · obtain ⟨h1, h2, ho, h3, h4⟩ := r2.own p hp
      have ne := ne_of_none h3 hn
      exact ⟨by rw [upd_ne ne]; exact h1, h2, ho, by rw [upd_ne ne]; exact h3, h4⟩
  have grow : ∀ (acc acc' : List V) (V2 : Hp) (os2 : Os) (H2 : Hp), Rel X.K (upd F L (.lst acc)) V2 os2 H2 → Rel X.K (upd F L (.lst acc')) V2 os2 (upd H2 L (.lst acc')) := by
    intro acc acc' V2 os2 H2 r2
    have v2 : V2 L = none := r2.fv L _ upd_same
    refine ⟨fun a o e => ?_, fun a o e => ?_, fun a o e => ?_, fun p hp => ?_, r2.nd⟩
    · by_cases ha : a = L
      · subst ha; rw [upd_same] at e ⊢; exact e
      · rw [upd_ne ha] at e ⊢; exact r2.fr a o (by rw [upd_ne ha]; exact e)
    · rw [upd_ne (ne_of_none e v2)]
      exact r2.vi a o e
    · by_cases ha : a = L
      · subst ha; exact v2
      · rw [upd_ne ha] at e; exact r2.fv a o (by rw [upd_ne ha]; exact e)
    · obtain ⟨h1, h2, ho, h3, h4⟩ := r2.own p hp
      have ne : p.1 ≠ L := fun z => by rw [z, upd_same] at h1; cases h1
      exact ⟨by rw [upd_ne ne] at h1 ⊢; exact h1, h2, ho, by rw [upd_ne ne]; exact h3, h4⟩
  have done : ∀ (acc : List V) (V2 : Hp) (os2 : Os) (H2 : Hp), Rel X.K (upd F L (.lst acc)) V2 os2 H2 → Same V2 (upd V2 L (.lst acc)) ∧ Rel X.K F (upd V2 L (.lst acc)) os2 H2 := by
    intro acc V2 os2 H2 r2
    have v2 : V2 L = none := r2.fv L _ upd_same
    have sv := same_upd (o := .lst acc) v2
    refine ⟨sv, ⟨fun a o e => r2.fr a o (by rw [upd_ne (ne_of_none e hFL)]; exact e), fun a o e => ?_, fun a o e => ?_, fun p hp => ?_, r2.nd⟩⟩
    · by_cases ha : a = L
      · subst ha; rw [upd_same] at e; exact r2.fr a o (by rw [upd_same]; exact e)
      · rw [upd_ne ha] at e; exact r2.vi a o e
    · have ne := ne_of_none e hFL
      rw [upd_ne ne]
      exact r2.fv a o (by rw [upd_ne ne]; exact e)
    · obtain ⟨h1, h2, ho, h3, h4⟩ := r2.own p hp
      have ne : p.1 ≠ L := fun z => by rw [z, upd_same] at h1; cases h1
      exact ⟨by rw [upd_ne ne] at h1; exact h1, by rw [upd_ne ne]; exact h2, ho, h3, h4.mono sv⟩
  refine ⟨fun j m H2 => m = ws.length - j ∧ j ≤ ws.length ∧ ∃ (V2 : Hp) (os2 : Os) (av : List V) (ad : List D), Same V1 V2 ∧ Rel X.K (upd F L (.lst av)) V2 os2 H2 ∧ RpA X.K V2 av ad ∧ ad.length ≤ j ∧ lcW bn tt te (wipeE env vs) (lcK own0 k) gd (ws.drop j) ad os2,
    ⟨ws.length, rfl, Nat.zero_le _, V1, os1, [], [], Same.refl _, put [] V1 os1 H1 r1 hL, .nil, Nat.le_refl _, q⟩, ?_⟩
  rintro j m H2 ⟨rfl, hj, V2, os0, av, ad, s2, r0, ra2, hl2, q2⟩
  by_cases hlt : j < ws.length
  · rw [List.drop_eq_getElem_cons hlt] at q2
    obtain ⟨os2, hwk, q2⟩ := q2
    have r2 := r0.wk hwk
    obtain ⟨hG, q2⟩ := gK_ok q2
    refine .inr ⟨gi.go j (upd F L (.lst av)) V2 os2 H2 s2 r2 hG hlt, fun H3 => ∃ (V3 : Hp) (os3 : Os) (av3 : List V) (ad3 : List D), Same V1 V3 ∧ Rel X.K (upd F L (.lst av3)) V3 os3 H3 ∧ RpA X.K V3 av3 ad3 ∧ ad3.length ≤ j + 1 ∧ lcW bn tt te (wipeE env vs) (lcK own0 k) gd (ws.drop (j + 1)) ad3 os3,
      fun H3 q3 => ⟨ws.length - (j + 1), by omega, rfl, hlt, q3⟩, fun x' H' y => ?_⟩
    obtain ⟨V3, s3, r3, rw3⟩ := gi.yld j (upd F L (.lst av)) V2 os2 H2 x' H' ws[j] s2 r2 hG y (List.getElem?_eq_getElem hlt)
    refine hb (upd F L (.lst av)) V3 H' os2 σ _ x' ws[j] _ _ r3 rw3 ((sr_wipe (sr.mono s1) _).mono (s2.trans s3)) q2 fun σ2 env2 sr3 hw q2 => ⟨hw, fun s0 H0 C cl fp => ?_⟩
    refine ht s0 H0 C cl fp _ _ _ q2 (upd F L (.lst av)) V3 H' _ _ r3 sr3 fun V4 os4 H4 b s4 r4 q4 => ?_
    cases b with
    | false => exact iteF ⟨V4, os4, av, ad, (s2.trans s3).trans s4, r4, RpA.mono (s3.trans s4) ra2, Nat.le_succ_of_le hl2, q4.2 rfl⟩
    | true =>
      refine iteT fun s0 H0 C cl fp => ?_
      refine he s0 H0 C cl fp _ _ _ _ (q4.1 rfl) (upd F L (.lst av)) V4 H4 _ _ _ r4 (sr3.mono s4) XkOk.none fun V5 os5 H5 y5 w5 s5 r5 rw5 q5 => ?_
      have s35 := (s3.trans s4).trans s5
      have ra5 : RpA X.K V5 (av ++ [y5]) (ad ++ [w5]) := (RpA.mono s35 ra2).append (.cons rw5 .nil)
      refine ⟨av, r5.fr L _ upd_same, ?_, V5, os5, av ++ [y5], ad ++ [w5], s2.trans s35, grow av _ V5 os5 H5 r5, ra5, by rw [List.length_append, List.length_singleton]; omega, q5⟩
      rw [ra2.length]
      omega
  · have e : j = ws.length := by omega
    subst e
    rw [List.drop_length] at q2
    obtain ⟨os2, hwk, q2⟩ := q2
    have r2 := r0.wk hwk
    obtain ⟨hG, q2⟩ := gK_ok q2
    refine .inl ⟨gi.stop _ (upd F L (.lst av)) V2 os2 H2 s2 r2 hG (Nat.le_refl _), ?_⟩
    have q2 : lcK own0 k ad os2 := q2
    unfold lcK at q2
    split at q2
    · have v2 : V2 L = none := r2.fv L _ upd_same
      refine c V2 ((L, .lst ad) :: os2) H2 (.ref L) (.ref L) (s1.trans s2) ⟨fun a o e => r2.fr a o (by rw [upd_ne (ne_of_none e hFL)]; exact e), r2.vi, fun a o e => ?_, fun p hp => ?_, ?_⟩ (.ref L) (q2 L)
      · exact r2.fv a o (by rw [upd_ne (ne_of_none e hFL)]; exact e)
      · rcases List.mem_cons.mp hp with e | hp
        · subst e
          exact ⟨hFL, v2, _, r2.fr L _ upd_same, av, rfl, ra2⟩
        · obtain ⟨h1, h2, ho, h3, h4⟩ := r2.own p hp
          have ne : p.1 ≠ L := fun z => by rw [z, upd_same] at h1; cases h1
          exact ⟨by rw [upd_ne ne] at h1; exact h1, h2, ho, h3, h4⟩
      · rw [List.map_cons, List.nodup_cons]
        refine ⟨fun hm => ?_, r2.nd⟩
        obtain ⟨q, hq, e⟩ := List.mem_map.mp hm
        obtain ⟨h1, _⟩ := r2.own q hq
        have e' : q.1 = L := e
        rw [e', upd_same] at h1
        cases h1
    · obtain ⟨sv, r3⟩ := done av V2 os2 H2 r2
      exact c _ os2 H2 (.ref L) (.lst ad) ((s1.trans s2).trans sv) r3 (.lst (.inl (.inl upd_same)) (RpA.mono sv ra2)) q2
@[irreducible] def lcX (b : TrB) (t : TrT) (te : TrE) (env : DEnv) (k : List D → Os → Prop) (gd : Gd) (ws : List D) (os : Os) : Prop := lcW b t te env k gd ws [] os
theorem lcX_eq {b : TrB} {t : TrT} {te : TrE} {env : DEnv} {k : List D → Os → Prop} {gd : Gd} {ws : List D} {os : Os} : lcX b t te env k gd ws os = lcW b t te env k gd ws [] os := by unfold lcX; rfl
def eLc (own0 : Bool) (vs : List Nat) (b : TrB) (ti : TrI) (tt : TrT) (te : TrE) : TrE := fun kx env os k => ti kx env os fun ws gd os1 => ws.length ≤ sizeLine ∧ lcX b tt te (wipeE env vs) (lcK own0 k) gd ws os1
section
variable {X : Cx} {own0 : Bool} {elt iter tge : Expr} {ifs : List Expr} {scope : Scope} {own : List (Str × Nat)} {pos : Pos} {g : TG} {bn : TrB} {tt : TrT} {te : TrE} {ti : TrI}
theorem cm_lc (hc : X.calm = true) (hN : X.N.Nodup) (ok : BlkOk X.N X.env.scope scope own) (hb : BindOk X.K (own.map (·.2)) g bn)
    (hg : ∀ s H C cl fp, PG (Bk X scope s H C cl fp) tge g) (hi : CmI X tge iter ti) (ht : ∀ s H C cl fp, CmTs (Bk X scope s H C cl fp) ifs tt) (he : ∀ s H C cl fp, Cm (Bk X scope s H C cl fp) elt te)
    (hs : ∀ x, foldedSetIterable iter X.env x = pure x) : Cm X (.ListComp elt [⟨tge, iter, ifs, 0⟩] scope pos) (eLc own0 (own.map (·.2)) bn ti tt te) := by
  intro kx env os k h F V0 H σ Q W r sr ek c
  refine wE_of (pe_lc (X := X) (own := own) (wi := wPI X tge iter) (g := g) (tt := fun σ H Q => ∀ s0 H0 C cl fp, wTs (Bk X scope s0 H0 C cl fp) ifs σ H Q) (te := fun σ H Q => ∀ s0 H0 C cl fp, wE (Bk X scope s0 H0 C cl fp) elt σ H Q) hc hN wPI_pi ok
    hg (fun s0 H0 C cl fp => ⟨fun pins s σ H Q I q => wTs_pts.run pins s σ H Q I (q s0 H0 C cl fp)⟩) (fun s0 H0 C cl fp => ⟨fun pins s σ H Q I q => wE_pe.run pins s σ H Q I (q s0 H0 C cl fp)⟩) hs) ?_
  unfold eLc at h
  simp only [lcX_eq] at h
  exact tlc_of hb hi ht he h r sr ek c
/-- name = [..] on one line -/
theorem c1_setLc {iy : Nat} {y : Str} {py spos : Pos} (hc : X.calm = true) (hN : X.N.Nodup) (ok : BlkOk X.N X.env.scope scope own) (hb : BindOk X.K (own.map (·.2)) g bn)
    (hg : ∀ s H C cl fp, PG (Bk X scope s H C cl fp) tge g) (hi : CmI X tge iter ti) (ht : ∀ s H C cl fp, CmTs (Bk X scope s H C cl fp) ifs tt) (he : ∀ s H C cl fp, Cm (Bk X scope s H C cl fp) elt te)
    (hy : X.N[iy]? = some y) (hyl : X.env.scope.names.lookup y = some .local) (hsw : swapsWith (.ListComp elt [⟨tge, iter, ifs, 0⟩] scope pos) (some (.Name y py)) spos.line X.env = pure true)
    (hs : ∀ x, foldedSetIterable iter X.env x = pure x) : CmS X (.Assign [.Name y py] (.ListComp elt [⟨tge, iter, ifs, 0⟩] scope pos) spos) (sSet iy (eLc own0 (own.map (·.2)) bn ti tt te)) := by
  intro N R env os h F V0 H σ D W r sr ek
  refine wS1_of (ps_setLc (X := X) (i := iy) (own := own) (wi := wPI X tge iter) (g := g) (tt := fun σ H Q => ∀ s0 H0 C cl fp, wTs (Bk X scope s0 H0 C cl fp) ifs σ H Q) (te := fun σ H Q => ∀ s0 H0 C cl fp, wE (Bk X scope s0 H0 C cl fp) elt σ H Q) hc hN hy hyl hsw wPI_pi ok
    hg (fun s0 H0 C cl fp => ⟨fun pins s σ H Q I q => wTs_pts.run pins s σ H Q I (q s0 H0 C cl fp)⟩) (fun s0 H0 C cl fp => ⟨fun pins s σ H Q I q => wE_pe.run pins s σ H Q I (q s0 H0 C cl fp)⟩) hs) ?_
  unfold sSet eLc at h
  simp only [lcX_eq] at h
  refine tlc_of (k := fun w os1 => N (setE env iy (some w)) os1) hb hi ht he h r sr (ek.xk sr) fun V1 os1 H1 v w s1 r1 rv q => ?_
  exact ek.nx V1 os1 H1 _ _ s1 r1 (sr_setE (sr.mono s1) rv iy) q
end
/-! ### reading -/
/-- an item is bound and made by a plain function, nothing owned changes -/
theorem lcW_map {b : TrB} {te : TrE} {env : DEnv} {k : List D → Os → Prop} {gd : Gd} {os : Os} (f : D → D) (hG : gOk gd os) (hm : ∀ w {p q : DEnv → Prop}, (∀ e, p e → q e) → b w env p → b w env q) : ∀ {ws acc : List D}, (∀ w ∈ ws, ∀ kk : D → Os → Prop, kk (f w) os → b w env fun env1 => te kx0 env1 os kk) → k (acc ++ ws.map f) os →
    lcW b tYes te env k gd ws acc os
  | [], acc, _, h => by rw [List.map_nil, List.append_nil] at h; exact wkX_id (gK_mk hG h)
  | w :: ws, acc, hw, h => by
    have ih := lcW_map (b := b) (te := te) (env := env) (k := k) (gd := gd) (os := os) f hG hm (ws := ws) (acc := acc ++ [f w]) (fun w h => hw w (List.mem_cons_of_mem _ h)) (by rw [List.append_assoc]; exact h)
    exact wkX_id <| gK_mk hG (hm w (fun e z => ⟨fun _ => z, fun z => nomatch z⟩) (hw w List.mem_cons_self (fun y os2 => lcW b tYes te env k gd ws (acc ++ [y]) os2) ih))
/-- tested by a plain function, too -/
theorem lcW_filter {b : TrB} {t : TrT} {te : TrE} {env : DEnv} {k : List D → Os → Prop} {gd : Gd} {os : Os} (p : D → Bool) (f : D → D) (hG : gOk gd os) : ∀ {ws acc : List D},
    (∀ w ∈ ws, ∀ (kt : D → Os → Prop) (kf : Os → Prop), (p w = true → kt (f w) os) → (p w = false → kf os) → b w env fun env1 => t kx0 env1 os fun bo os1 => (bo = true → te kx0 env1 os1 kt) ∧ (bo = false → kf os1)) → k (acc ++ (ws.filter p).map f) os →
    lcW b t te env k gd ws acc os
  | [], acc, _, h => by
    rw [List.filter_nil, List.map_nil, List.append_nil] at h
    exact wkX_id (gK_mk hG h)
  | w :: ws, acc, hw, h => by
    refine wkX_id <| gK_mk hG (hw w List.mem_cons_self (fun y os2 => lcW b t te env k gd ws (acc ++ [y]) os2) (fun os1 => lcW b t te env k gd ws acc os1) (fun hp => ?_) (fun hp => ?_))
    · refine lcW_filter p f hG (fun w h => hw w (List.mem_cons_of_mem _ h)) ?_
      rw [List.filter_cons_of_pos hp] at h
      rw [List.append_assoc]
      exact h
    · refine lcW_filter p f hG (fun w h => hw w (List.mem_cons_of_mem _ h)) ?_
      rw [List.filter_cons_of_neg (by rw [hp]; decide)] at h
      exact h
theorem b1_mono {i : Nat} {env : DEnv} (w : D) {p q : DEnv → Prop} (h : ∀ e, p e → q e) (z : b1 i w env p) : b1 i w env q := h _ z
/-- by an invariant over the turn -/
theorem lcW_inv {b : TrB} {t : TrT} {te : TrE} {env : DEnv} {k : List D → Os → Prop} {gd : Gd} {ws : List D} {os : Os} (I : Nat → List D → Os → Prop) (h0 : I 0 [] os)
    (hs : ∀ (j : Nat) (w : D) (acc : List D) (os : Os) (N : List D → Os → Prop), ws[j]? = some w → I j acc os → (∀ a o o2, WkO o o2 → I (j + 1) a o2 → N a o) →
      b w env fun env1 => t kx0 env1 os fun bo os1 => (bo = true → te kx0 env1 os1 fun y os2 => N (acc ++ [y]) os2) ∧ (bo = false → N acc os1))
    (hd : ∀ acc os, I ws.length acc os → k acc os) (hG : ∀ j acc os, I j acc os → gOk gd os) : lcW b t te env k gd ws [] os := by
  have gen : ∀ (m j : Nat) (acc : List D) (os os2 : Os), m = ws.length - j → j ≤ ws.length → WkO os os2 → I j acc os2 → lcW b t te env k gd (ws.drop j) acc os := by
    intro m
    induction m with
    | zero =>
      intro j acc os os2 hm hj hw h
      have e : j = ws.length := by omega
      subst e
      rw [List.drop_length]
      exact ⟨os2, hw, gK_mk (hG _ acc os2 h) (hd acc os2 h)⟩
    | succ m ih =>
      intro j acc os os2 hm hj hw h
      have hlt : j < ws.length := by omega
      rw [List.drop_eq_getElem_cons hlt]
      exact ⟨os2, hw, gK_mk (hG j acc os2 h) (hs j ws[j] acc os2 (fun a o => lcW b t te env k gd (ws.drop (j + 1)) a o) (List.getElem?_eq_getElem hlt) h fun a o o2 hw2 z => ih (j + 1) a o o2 (by omega) hlt hw2 z)⟩
  exact gen _ 0 [] os os rfl (Nat.zero_le _) (.refl _) h0
theorem lcX_map {b : TrB} {te : TrE} {env : DEnv} {k : List D → Os → Prop} {gd : Gd} {ws : List D} {os : Os} (f : D → D) (hG : gOk gd os) (hm : ∀ w {p q : DEnv → Prop}, (∀ e, p e → q e) → b w env p → b w env q) (hw : ∀ w ∈ ws, ∀ kk : D → Os → Prop, kk (f w) os → b w env fun env1 => te kx0 env1 os kk)
    (h : k (ws.map f) os) : lcX b tYes te env k gd ws os := by rw [lcX_eq]; exact lcW_map f hG hm hw h
theorem lcX_filter {b : TrB} {t : TrT} {te : TrE} {env : DEnv} {k : List D → Os → Prop} {gd : Gd} {ws : List D} {os : Os} (p : D → Bool) (f : D → D) (hG : gOk gd os)
    (hw : ∀ w ∈ ws, ∀ (kt : D → Os → Prop) (kf : Os → Prop), (p w = true → kt (f w) os) → (p w = false → kf os) → b w env fun env1 => t kx0 env1 os fun bo os1 => (bo = true → te kx0 env1 os1 kt) ∧ (bo = false → kf os1))
    (h : k ((ws.filter p).map f) os) : lcX b t te env k gd ws os := by rw [lcX_eq]; exact lcW_filter p f hG hw h
theorem lcX_inv {b : TrB} {t : TrT} {te : TrE} {env : DEnv} {k : List D → Os → Prop} {gd : Gd} {ws : List D} {os : Os} (I : Nat → List D → Os → Prop) (h0 : I 0 [] os)
    (hs : ∀ (j : Nat) (w : D) (acc : List D) (os : Os) (N : List D → Os → Prop), ws[j]? = some w → I j acc os → (∀ a o o2, WkO o o2 → I (j + 1) a o2 → N a o) →
      b w env fun env1 => t kx0 env1 os fun bo os1 => (bo = true → te kx0 env1 os1 fun y os2 => N (acc ++ [y]) os2) ∧ (bo = false → N acc os1))
    (hd : ∀ acc os, I ws.length acc os → k acc os) (hG : ∀ j acc os, I j acc os → gOk gd os) : lcX b t te env k gd ws os := by rw [lcX_eq]; exact lcW_inv I h0 hs hd hG
end EV

set_option Elab.async false
set_option linter.all false
set_option maxRecDepth 100000
/-! E6: promises of defs, calls, instances. -/
namespace EV
open PySem PySem.Spec PyProof.Rows L2

/-! ### what a def does -/
abbrev FT := List D → Os → (D → Os → Prop) → Kx → Prop
def spX (K : PySem.W.Frag) (n : Nat) (T : FT) : Sp := fun vs H Q E => vs.length = n ∧ ∃ (F V0 : Hp) (os : Os) (ws : List D) (k0 : D → Os → Prop) (x0 : Kx), Rel K F V0 os H ∧ RpA K V0 vs ws ∧ T ws os k0 x0 ∧
  (∀ (V1 : Hp) (os1 : Os) (H1 : Hp) (v : V) (w : D), Same V0 V1 → Rel K F V1 os1 H1 → Rp K V1 v w → k0 w os1 → Q v H1) ∧
  (∀ (V1 : Hp) (os1 : Os) (H1 : Hp) (cls : Value) (d : Option Addr) (x : Exn), Same V0 V1 → Rel K F V1 os1 H1 → ExnR K V1 cls d x → x0 x os1 → E cls d H1)
def startE : Nat → List D → DEnv
  | 0, _ => []
  | n + 1, [] => none :: startE n []
  | n + 1, w :: ws => some w :: startE n ws
/-- what is not wanted any more goes -/
@[irreducible] def dropX (w : D) (os : Os) (k : D → Os → Prop) : Prop := ∃ os2 : Os, WkO os os2 ∧ k w os2
@[irreducible] def dropE (x : Exn) (os : Os) (k : Kx) : Prop := ∃ os2 : Os, WkO os os2 ∧ k x os2
theorem dropX_wk {w : D} {os os2 : Os} {k : D → Os → Prop} (s : WkO os os2) (h : k w os2) : dropX w os k := by unfold dropX; exact ⟨os2, s, h⟩
theorem dropX_id {w : D} {os : Os} {k : D → Os → Prop} (h : k w os) : dropX w os k := dropX_wk (.refl _) h
theorem dropE_wk {x : Exn} {os os2 : Os} {k : Kx} (s : WkO os os2) (h : k x os2) : dropE x os k := by unfold dropE; exact ⟨os2, s, h⟩
theorem dropE_id {x : Exn} {os : Os} {k : Kx} (h : k x os) : dropE x os k := dropE_wk (.refl _) h
theorem dropX_of {w : D} {os : Os} {k : D → Os → Prop} (h : dropX w os k) : ∃ os2 : Os, WkO os os2 ∧ k w os2 := by unfold dropX at h; exact h
theorem dropE_of {x : Exn} {os : Os} {k : Kx} (h : dropE x os k) : ∃ os2 : Os, WkO os os2 ∧ k x os2 := by unfold dropE at h; exact h
def fnT (m : Nat) (body : TrS) : FT := fun ws os k kx => body (fun _ os1 => dropX .non os1 k) { rt := fun w os1 => dropX w os1 k, ex := fun x _ os1 => dropE x os1 kx } (startE m ws) os
theorem startE_len : ∀ (m : Nat) (ws : List D), ws.length ≤ m → (startE m ws).length = m
  | 0, _, _ => rfl
  | m + 1, [], _ => congrArg (· + 1) (startE_len m [] (Nat.zero_le _))
  | m + 1, _ :: ws, h => congrArg (· + 1) (startE_len m ws (by simpa using h))
theorem startE_get : ∀ (m : Nat) (ws : List D) (i : Nat) (w : D), (startE m ws)[i]? = some (some w) → ws[i]? = some w
  | 0, _, _, _, h => by simp [startE] at h
  | m + 1, [], 0, w, h => by simp [startE] at h
  | m + 1, [], i + 1, w, h => by
    rw [startE, List.getElem?_cons_succ] at h
    have := startE_get m [] i w h
    simp at this
  | m + 1, u :: ws, 0, w, h => by
    rw [startE, List.getElem?_cons_zero] at h
    rw [List.getElem?_cons_zero]
    exact Option.some.inj h
  | m + 1, u :: ws, i + 1, w, h => by
    rw [startE, List.getElem?_cons_succ] at h
    rw [List.getElem?_cons_succ]
    exact startE_get m ws i w h
theorem sr_startE {K : PySem.W.Frag} {V0 : Hp} {N : List Str} {vs : List V} {ws : List D} (r : RpA K V0 vs ws) (hl : ws.length ≤ N.length) : SR K V0 (L2.start N vs) (startE N.length ws) := by
  have hv := r.length
  refine ⟨by unfold L2.start; rw [startE_len _ _ hl]; simp; omega, fun i w e => ?_⟩
  have e1 := startE_get _ _ _ _ e
  obtain ⟨v, ev, rv⟩ := r.get e1
  refine ⟨v, ?_, rv⟩
  have hi : i < vs.length := (List.getElem?_eq_some_iff.mp ev).1
  unfold L2.start
  rw [List.getElem?_append_left (by simpa using hi), List.getElem?_map, ev]
  rfl
section
variable {P : Program} {w : World} {K : PySem.W.Frag} {mg : Str → Option Value} {base : Heap}
/-- the rule for a def -/
theorem okX {x qual : Str} {st : Stmt} {f : Addr} {fd : FuncData} {N ps : List Str} {k n m : Nat} {tb : TrS} (F : Fun K x qual st f fd) (sc : FnScope N ps (defScope st)) (hn : ps.length = n) (hm : N.length = m) (hnm : n ≤ m)
    (h : ∀ (cdv : Value) (A : Around) (outer : List Env) (s : Shared) (H : Hp) (E : XK), Room k (A.deeper (envOfC qual (defScope st) s.heap.objs.size f cdv)) →
      CmSs (cxOf (L2.CX P w) P w K mg base N qual (defScope st) f cdv A outer s H E) (defBody st) tb) : FnOk P w K mg base (L2.CX P w) (k + 1) f fd ps (spX K n (fnT m tb)) := by
  refine F.okX sc (fun vs H Q E h => h.1.trans hn.symm) fun cdv A outer s H vs Q E hr hsp => ?_
  obtain ⟨hl, F0, V0, os, ws, k0, x0, r, ra, hT, c, cx⟩ := hsp
  refine ⟨wSs _ (defBody st), wSs_pss, ?_⟩
  have hw : ws.length ≤ N.length := by rw [← ra.length]; omega
  subst hm
  refine h cdv A outer s H E hr _ _ _ _ hT F0 V0 H _ _ (fun cls d _ H => E cls d H) r (sr_startE ra hw) ⟨fun V1 os1 H1 σ1 env1 s1 r1 sr1 q => ?_, fun V1 os1 H1 v w s1 r1 rv q => ?_, fun _ _ _ _ _ _ _ _ z => z.elim, fun _ _ _ _ _ _ _ _ z => z.elim,
    takes_of rfl rfl rfl rfl, fun V1 os1 H1 σ1 env1 cls d x s1 r1 sr1 ex q => ?_⟩
  · obtain ⟨os2, hs, q⟩ := dropX_of q
    exact c V1 os2 H1 _ _ s1 (r1.wk hs) rwN q
  · obtain ⟨os2, hs, q⟩ := dropX_of q
    exact c V1 os2 H1 v w s1 (r1.wk hs) rv q
  · obtain ⟨os2, hs, q⟩ := dropE_of q
    exact cx V1 os2 H1 cls d x s1 (r1.wk hs) ex q
end
theorem pass_cx {CX : CXT} {P : Program} {w : World} {K : PySem.W.Frag} {mg : Str → Option Value} {base : Heap} {N : List Str} {qual : Str} {scope : Scope} {f : Addr} {cd : Value} {A : Around} {outer : List Env} {s : Shared} {H : Hp} {E : XK} :
    PassesOwn (model (cxOf CX P w K mg base N qual scope f cd A outer s H E).prog (cxOf CX P w K mg base N qual scope f cd A outer s H E).w) (cxOf CX P w K mg base N qual scope f cd A outer s H E).A (cxOf CX P w K mg base N qual scope f cd A outer s H E).env (cxOf CX P w K mg base N qual scope f cd A outer s H E).xe := PassesOwn.leaving
/-- a def by its name -/
structure CalX (P : Program) (w : World) (K : PySem.W.Frag) (mg : Str → Option Value) (base : Heap) (lvl : Nat) (x : Str) (n : Nat) (T : FT) : Prop where
  ex : ∃ (f : Addr) (fd : FuncData) (ps : List Str), FnOk P w K mg base (L2.CX P w) lvl f fd ps (spX K n T) ∧ mg x = some (.ref f) ∧ PySem.W.keepIn K (.ref f) = true ∧ Binds K fd ps []
/-- a method -/
structure CalM (P : Program) (w : World) (K : PySem.W.Frag) (mg : Str → Option Value) (base : Heap) (lvl : Nat) (C : Addr) (m : Str) (n : Nat) (T : FT) : Prop where
  ex : ∃ (f : Addr) (fd : FuncData) (ps : List Str), FnOk P w K mg base (L2.CX P w) lvl f fd ps (spX K n T) ∧ Meth K C m f ∧ Binds K fd ps []
/-- an __init__ -/
structure CalI (P : Program) (w : World) (K : PySem.W.Frag) (mg : Str → Option Value) (base : Heap) (lvl : Nat) (C : Addr) (x : Str) (n : Nat) (T : FT) : Prop where
  ex : ∃ (f : Addr) (fd : FuncData) (ps : List Str), FnOk P w K mg base (L2.CX P w) lvl f fd ps (spX K n T) ∧ Mk K C f ∧ Binds K fd ps [] ∧ mg x = some (.ref C)

/-! ### a part of the owned things goes in -/
def callK (T : FT) (ws : List D) (os : Os) (k : D → Os → Prop) (kx : Kx) : Prop := ∃ (of or : Os) (back : Os → Os), os.Perm (of ++ or) ∧ (∀ o, (o ++ or).Perm (back o)) ∧ T ws of (fun w o => k w (back o)) (fun x o => kx x (back o))
def makeK (T : FT) (C : Addr) (ws : List D) (os : Os) (k : D → Os → Prop) (kx : Kx) : Prop := ∃ (of or : Os) (back : Os → Os), os.Perm (of ++ or) ∧ (∀ o, (o ++ or).Perm (back o)) ∧
  ∀ p, T (.ref p :: ws) ((p, .ins C []) :: of) (fun w o => match w with
    | .non => k (.ref p) (back o)
    | _ => False) (fun x o => kx x (back o))
theorem callK_all {T : FT} {ws : List D} {os : Os} {k : D → Os → Prop} {kx : Kx} (h : T ws os k kx) : callK T ws os k kx := ⟨os, [], id, by rw [List.append_nil], fun o => by rw [List.append_nil]; exact .refl _, h⟩
theorem callK_none {T : FT} {ws : List D} {os : Os} {k : D → Os → Prop} {kx : Kx} (h : T ws [] (fun w o => k w (o ++ os)) (fun x o => kx x (o ++ os))) : callK T ws os k kx := ⟨[], os, fun o => o ++ os, .refl _, fun _ => .refl _, h⟩
theorem makeK_none {T : FT} {C : Addr} {ws : List D} {os : Os} {k : D → Os → Prop} {kx : Kx} (h : ∀ p, T (.ref p :: ws) [(p, .ins C [])] (fun w o => match w with
    | .non => k (.ref p) (o ++ os)
    | _ => False) (fun x o => kx x (o ++ os))) : makeK T C ws os k kx := ⟨[], os, fun o => o ++ os, .refl _, fun _ => .refl _, h⟩
/-- those at some places, one after the other -/
def outAt : Nat → Os → Option ((Addr × OO) × Os)
  | 0, x :: xs => some (x, xs)
  | n + 1, x :: xs => match outAt n xs with
    | some (y, r) => some (y, x :: r)
    | none => none
  | _, [] => none
def outs : List Nat → Os → Option (Os × Os)
  | [], os => some ([], os)
  | n :: ns, os => match outAt n os with
    | some (x, r) => (match outs ns r with
      | some (of, or) => some (x :: of, or)
      | none => none)
    | none => none
def putAt : Nat → (Addr × OO) → Os → Os
  | 0, x, os => x :: os
  | n + 1, x, y :: os => y :: putAt n x os
  | _ + 1, x, [] => [x]
def puts : List Nat → Os → Os → Os
  | n :: ns, x :: o, or => putAt n x (puts ns o or)
  | _, o, or => o ++ or
/-- the last ones go back to their places -/
def backAt (ns : List Nat) (or o : Os) : Os := o.take (o.length - ns.length) ++ puts ns (o.drop (o.length - ns.length)) or
theorem putAt_perm : ∀ (n : Nat) (x : Addr × OO) (os : Os), (x :: os).Perm (putAt n x os)
  | 0, _, _ => .refl _
  | n + 1, x, y :: os => (List.Perm.swap y x os).trans ((putAt_perm n x os).cons y)
  | _ + 1, _, [] => .refl _
theorem puts_perm : ∀ (ns : List Nat) (o or : Os), (o ++ or).Perm (puts ns o or)
  | n :: ns, x :: o, or => ((puts_perm ns o or).cons x).trans (putAt_perm n x _)
  | [], o, or => by cases o <;> exact .refl _
  | n :: ns, [], or => .refl _
theorem backAt_perm (ns : List Nat) (or o : Os) : (o ++ or).Perm (backAt ns or o) := by
  unfold backAt
  have h := puts_perm ns (o.drop (o.length - ns.length)) or
  have e : o ++ or = o.take (o.length - ns.length) ++ (o.drop (o.length - ns.length) ++ or) := by rw [← List.append_assoc, List.take_append_drop]
  rw [e]
  exact h.append_left _
theorem outAt_perm : ∀ {n : Nat} {os : Os} {x : Addr × OO} {r : Os}, outAt n os = some (x, r) → os.Perm (x :: r)
  | 0, y :: ys, x, r, h => by
    have h : some (y, ys) = some (x, r) := h
    cases h; exact .refl _
  | n + 1, y :: ys, x, r, h => by
    unfold outAt at h
    split at h
    · rename_i z r' e
      cases h
      exact ((outAt_perm e).cons y).trans (.swap _ _ _)
    · cases h
  | 0, [], _, _, h => by cases h
  | _ + 1, [], _, _, h => by cases h
theorem outs_perm : ∀ {ns : List Nat} {os of or : Os}, outs ns os = some (of, or) → os.Perm (of ++ or)
  | [], os, of, or, h => by
    have h : some ([], os) = some (of, or) := h
    cases h; exact .refl _
  | n :: ns, os, of, or, h => by
    unfold outs at h
    split at h
    · rename_i x r e
      split at h
      · rename_i of' or' e2
        cases h
        exact (outAt_perm e).trans ((outs_perm e2).cons x)
      · cases h
    · cases h
theorem wk_at {os of or : Os} (ns : List Nat) (h : outs ns os = some (of, or)) : WkO os of := ⟨or, outs_perm h⟩
theorem callK_at {T : FT} {ws : List D} {os of or : Os} {k : D → Os → Prop} {kx : Kx} (ns : List Nat) (h : outs ns os = some (of, or)) (q : T ws of (fun w o => k w (backAt ns or o)) (fun x o => kx x (backAt ns or o))) : callK T ws os k kx :=
  ⟨of, or, backAt ns or, outs_perm h, backAt_perm ns or, q⟩
theorem makeK_at {T : FT} {C : Addr} {ws : List D} {os of or : Os} {k : D → Os → Prop} {kx : Kx} (ns : List Nat) (h : outs ns os = some (of, or)) (q : ∀ p, T (.ref p :: ws) ((p, .ins C []) :: of) (fun w o => match w with
    | .non => k (.ref p) (backAt ns or o)
    | _ => False) (fun x o => kx x (backAt ns or o))) : makeK T C ws os k kx :=
  ⟨of, or, backAt ns or, outs_perm h, backAt_perm ns or, q⟩

@[irreducible] def callX (T : FT) (ws : List D) (os : Os) (k : D → Os → Prop) (kx : Kx) : Prop := callK T ws os k kx
@[irreducible] def makeX (T : FT) (C : Addr) (ws : List D) (os : Os) (k : D → Os → Prop) (kx : Kx) : Prop := makeK T C ws os k kx
section
variable {T : FT} {C : Addr} {ws : List D} {os of or : Os} {k : D → Os → Prop} {kx : Kx}
theorem callX_eq : callX T ws os k kx = callK T ws os k kx := by unfold callX; rfl
theorem makeX_eq : makeX T C ws os k kx = makeK T C ws os k kx := by unfold makeX; rfl
theorem callX_all (h : T ws os k kx) : callX T ws os k kx := by rw [callX_eq]; exact callK_all h
theorem callX_none (h : T ws [] (fun w o => k w (o ++ os)) (fun x o => kx x (o ++ os))) : callX T ws os k kx := by rw [callX_eq]; exact callK_none h
theorem callX_at (ns : List Nat) (h : outs ns os = some (of, or)) (q : T ws of (fun w o => k w (backAt ns or o)) (fun x o => kx x (backAt ns or o))) : callX T ws os k kx := by rw [callX_eq]; exact callK_at ns h q
theorem makeX_none (h : ∀ p, T (.ref p :: ws) [(p, .ins C [])] (fun w o => match w with
    | .non => k (.ref p) (o ++ os)
    | _ => False) (fun x o => kx x (o ++ os))) : makeX T C ws os k kx := by rw [makeX_eq]; exact makeK_none h
theorem makeX_at (ns : List Nat) (h : outs ns os = some (of, or)) (q : ∀ p, T (.ref p :: ws) ((p, .ins C []) :: of) (fun w o => match w with
    | .non => k (.ref p) (backAt ns or o)
    | _ => False) (fun x o => kx x (backAt ns or o))) : makeX T C ws os k kx := by rw [makeX_eq]; exact makeK_at ns h q
end

section
variable {X : Cx} {env : DEnv} {os : Os} {k : D → Os → Prop} {pos p pos' apos : Pos} {a b c e o value : Expr} {es : List Expr} {x m : Str} {lvl n : Nat} {T : FT} {tl : TrA} {to te : TrE} {C : Addr}
/-- the promise at the caller's things -/
theorem sp_of {F V0 H : Hp} {σ : L2.St} {vs : List V} {ws : List D} {kx : Kx} {W : WX} {Q : VK} (r : Rel X.K F V0 os H) (rs : RpA X.K V0 vs ws) (hl : vs.length = n) (q : callX T ws os k kx) (ek : XkOk X F V0 σ kx W)
    (c : ∀ (V1 : Hp) (os1 : Os) (H1 : Hp) (v : V) (w : D), Same V0 V1 → Rel X.K F V1 os1 H1 → Rp X.K V1 v w → k w os1 → Q v H1) : spX X.K n T vs H Q (WE W σ) := by
  rw [callX_eq] at q
  obtain ⟨of, or, back, hp, hb, hT⟩ := q
  obtain ⟨F2, r2, bk⟩ := Rel.frame (r.perm hp)
  exact ⟨hl, F2, V0, of, ws, _, _, r2, rs, hT, fun V1 os1 H1 v w s1 r1 rv hq => c V1 _ H1 v w s1 ((bk V1 os1 H1 s1 r1).perm (hb os1)) rv hq, fun V1 os1 H1 cls d x s1 r1 ex hq => ek.ex V1 _ H1 cls d x s1 ((bk V1 os1 H1 s1 r1).perm (hb os1)) ex hq⟩
def eCall (T : FT) (tl : TrA) : TrE := fun kx env os k => tl kx env os fun ws os1 => callX T ws os1 k kx
theorem cm_call (CC : CalX X.prog X.w X.K X.mg X.base lvl x n T) (hr : Room lvl X.A) (hg : Gl X x) (ha : CmA X (e :: es) tl n) (hdb : (x == ("__debug__" : Str)) = false)
    (he : starEach (e :: es) X.env = (false, eval e X.env) :: starEach es X.env) (hpl : (backTo pos (starEach es X.env)).any (·.1) = false) : Cm X (.Call (.Name x p) (e :: es) [] pos) (eCall T tl) := by
  obtain ⟨f, fd, ps, G, hm, hk, hb⟩ := CC.ex
  intro kx env os k h F V0 H σ Q W r sr ek c
  refine wE_of (pe_callS (E := WE W) G hr hg hm hk hb (fun σ => passAt ek.tk σ) wA_pa hdb he hpl) ?_
  refine ha.2 _ _ _ _ h F V0 H σ _ W r sr ek fun V1 os1 H1 vs ws s1 r1 rs ⟨hl, q⟩ => ?_
  exact sp_of r1 rs (rs.length.trans hl) q (ek.mono s1) fun V2 os2 H2 v w s2 r2 rv q2 => c V2 os2 H2 v w (s1.trans s2) r2 rv q2
theorem pe_callS0 {CX : CXT} {sp : Sp} {E : L2.St → XK} {f : Addr} {fd : FuncData} {ps : List Str} {lv : Nat} (G : FnOk X.prog X.w X.K X.mg X.base CX lv f fd ps sp) (hr : Room lv X.A) (hg : Gl X x) (hm : X.mg x = some (.ref f)) (hk : PySem.W.keepIn X.K (.ref f) = true) (hb : Binds X.K fd ps [])
    (hx : ∀ σ, PassesAt CX X σ (E σ)) (hdb : (x == ("__debug__" : Str)) = false) : PE X (.Call (.Name x p) [] [] pos) (fun σ H Q => sp [] H Q (E σ)) :=
  ⟨fun pins s σ H Q I h => wpAny_Call_Name_kw (ld_glob I hg hm (PySem.W.callWith_K0 I.kIn hk (run_fnS (us := []) (vs := []) G hr hb (hx σ) I .nil h)) hdb)⟩
theorem cm_call0 (CC : CalX X.prog X.w X.K X.mg X.base lvl x 0 T) (hr : Room lvl X.A) (hg : Gl X x) (hdb : (x == ("__debug__" : Str)) = false) : Cm X (.Call (.Name x p) [] [] pos) (eCall T aN) := by
  obtain ⟨f, fd, ps, G, hm, hk, hb⟩ := CC.ex
  intro kx env os k h F V0 H σ Q W r sr ek c
  refine wE_of (pe_callS0 (E := WE W) G hr hg hm hk hb (fun σ => passAt ek.tk σ) hdb) ?_
  exact sp_of (vs := []) r .nil rfl h ek c

/-! ### instances -/
def lkF : Nat → List (Nat × D) → Option D
  | _, [] => none
  | i, (j, d) :: r => match Nat.beq i j with
    | true => some d
    | false => lkF i r
def putI (f : Nat) (w : D) : List (Nat × D) → List (Nat × D)
  | [] => [(f, w)]
  | (g, x) :: r => match Nat.beq g f with
    | true => (g, w) :: r
    | false => (g, x) :: putI f w r
theorem rf_lookup {K : PySem.W.Frag} {V0 : Hp} {f : Nat} : ∀ {vf : List (Str × V)} {fs : List (Nat × D)}, RF K V0 vf fs → ∀ {w : D}, lkF f fs = some w → ∃ v, vf.lookup (nm f) = some v ∧ Rp K V0 v w
  | _, _, .nil, _, h => by cases h
  | (a, x) :: vf, (b, y) :: fs, .cons hq r, w, h => by
    obtain ⟨e, rw'⟩ := hq
    have e : a = nm b := e
    subst e
    unfold lkF at h
    rw [List.lookup_cons]
    split at h
    · rename_i hb
      have := Nat.eq_of_beq_eq_true hb
      subst this
      cases h
      exact ⟨x, by simp, rw'⟩
    · rename_i hb
      have ne : (nm f == nm b) = false := beq_eq_false_iff_ne.mpr fun e => by
        rw [nm_inj e] at hb
        rw [Nat.beq_refl] at hb
        cases hb
      rw [ne]
      exact rf_lookup r h
theorem rf_none {K : PySem.W.Frag} {V0 : Hp} {f : Nat} : ∀ {vf : List (Str × V)} {fs : List (Nat × D)}, RF K V0 vf fs → lkF f fs = none → vf.lookup (nm f) = none
  | _, _, .nil, h => rfl
  | (a, x) :: vf, (b, y) :: fs, .cons hq r, h => by
    obtain ⟨e, rw'⟩ := hq
    have e : a = nm b := e
    subst e
    unfold lkF at h
    rw [List.lookup_cons]
    split at h
    · cases h
    · rename_i hb
      have ne : (nm f == nm b) = false := beq_eq_false_iff_ne.mpr fun e => by
        rw [nm_inj e] at hb
        rw [Nat.beq_refl] at hb
        cases hb
      rw [ne]
      exact rf_none r h
theorem rf_put {K : PySem.W.Frag} {V0 : Hp} {f : Nat} {v : V} {w : D} (hv : Rp K V0 v w) : ∀ {vf : List (Str × V)} {fs : List (Nat × D)}, RF K V0 vf fs → RF K V0 (putF (nm f) v vf) (putI f w fs)
  | _, _, .nil => .cons ⟨rfl, hv⟩ .nil
  | (a, x) :: vf, (b, y) :: fs, .cons hq r => by
    obtain ⟨e, rw'⟩ := hq
    have e : a = nm b := e
    subst e
    show RF K V0 (if nm b = nm f then _ else _) _
    unfold putI
    by_cases hb : b = f
    · subst hb
      rw [if_pos rfl, Nat.beq_refl]; exact .cons ⟨rfl, hv⟩ r
    · rw [if_neg fun e => hb (nm_inj e), show Nat.beq b f = false from Bool.eq_false_iff.mpr fun e => hb (Nat.eq_of_beq_eq_true e)]
      exact .cons ⟨rfl, rw'⟩ (rf_put hv r)
/-- e.f, of an instance of one of the classes -/
def eFld (Cs : List Addr) (f : Nat) (to : TrE) : TrE := fun kx env os k => to kx env os fun w os1 => match w with
  | .ref a => ∃ (n : Nat) (C : Addr) (fs : List (Nat × D)) (y : D), os1[n]? = some (a, OO.ins C fs) ∧ C ∈ Cs ∧ lkF f fs = some y ∧ k y os1
  | _ => False
theorem cm_fld {Cs : List Addr} {f : Nat} {fx : Str} (hf : fx = nm f) (hc : ∀ C ∈ Cs, Cls X.K C ∧ NoAttr X.K C fx) (h : Cm X e to) (hb : attributeBase e fx X.env (eval e X.env) = eval e X.env) : Cm X (.Attribute e fx pos) (eFld Cs f to) := by
  subst hf
  intro kx env os k q F V0 H σ Q W r sr ek cc
  refine wE_of (pe_fld wE_pe hb) ?_
  refine h _ _ _ _ q F V0 H σ _ W r sr ek fun V1 os1 H1 v w s1 r1 rv q => ?_
  split at q
  · obtain ⟨n, C, fs, y, ho, hC, hl, q⟩ := q
    obtain ⟨c, na⟩ := hc C hC
    obtain rfl := rv.toRef
    obtain ⟨_, _, ho', h3, dx, vf, rfl, h4⟩ := r1.own _ (List.mem_of_getElem? ho)
    obtain ⟨u, e2, ru⟩ := rf_lookup h4 hl
    exact ⟨_, C, dx, vf, u, rfl, h3, c, na, e2, cc V1 os1 H1 u y s1 r1 ru q⟩
  · exact q.elim
/-- o.f = value: the value first -/
def sFld (Cs : List Addr) (f : Nat) (to tv : TrE) : TrS := fun N R env os => tv (R.xk env) env os fun y os1 => to (R.xk env) env os1 fun w os2 => match w with
  | .ref a => ∃ (n : Nat) (C : Addr) (fs : List (Nat × D)), os2[n]? = some (a, OO.ins C fs) ∧ C ∈ Cs ∧ fs.length < 1000 ∧ N env (os2.set n (a, .ins C (putI f y fs)))
  | _ => False
theorem c1_fld {Cs : List Addr} {f : Nat} {fx : Str} (hf : fx = nm f) (hc : ∀ C ∈ Cs, Cls X.K C ∧ NoAttr X.K C fx) (ho : Cm X o to) (hv : Cm X value te)
    (hs : swapsWith value (some (.Attribute o fx pos')) pos.line X.env = pure false) : CmS X (.Assign [.Attribute o fx pos'] value pos) (sFld Cs f to te) := by
  subst hf
  intro N R env os q F V0 H σ D W r sr ek
  refine wS1_of (ps_fld wE_pe wE_pe hs) ?_
  refine hv _ _ _ _ q F V0 H σ _ W r sr (ek.xk sr) fun V1 os1 H1 v y s1 r1 rv q1 => ?_
  refine ho _ _ _ _ q1 F V1 H1 σ _ W r1 (sr.mono s1) ((ek.xk sr).mono s1) fun V2 os2 H2 u w2 s2 r2 ru q => ?_
  split at q
  · obtain ⟨n, C, fs, ho, hC, hl, q⟩ := q
    obtain ⟨c, na⟩ := hc C hC
    obtain rfl := ru.toRef
    obtain ⟨_, _, ho', h3, dx, vf, rfl, h4⟩ := r2.own _ (List.mem_of_getElem? ho)
    refine ⟨_, C, dx, vf, rfl, h3, c, na, by rw [Paired.length h4]; exact hl, ?_⟩
    exact ek.nx V2 _ _ _ _ (s1.trans s2) (r2.mut ho (oo' := .ins C (putI f y fs)) ⟨dx, _, rfl, rf_put (rv.mono s2) h4⟩) ((sr.mono s1).mono s2) q
  · exact q.elim
/-- o.m(..) of the class at C -/
def insK (C : Addr) (m : Nat) (w : D) (os : Os) (k : Prop) : Prop := match w with
  | .ref a => (∃ (n : Nat) (fs : List (Nat × D)), os[n]? = some (a, OO.ins C fs) ∧ lkF m fs = none) ∧ k
  | _ => False
theorem insK_of {m : Nat} {w : D} {kk : Prop} (h : insK C m w os kk) : ∃ (a : Addr) (n : Nat) (fs : List (Nat × D)), w = .ref a ∧ os[n]? = some (a, OO.ins C fs) ∧ lkF m fs = none ∧ kk := by
  unfold insK at h
  split at h
  · obtain ⟨⟨n, fs, h1, h2⟩, q⟩ := h
    exact ⟨_, n, fs, rfl, h1, h2, q⟩
  · exact h.elim
def eMeth (C : Addr) (m : Nat) (T : FT) (to : TrE) (tl : TrA) : TrE := fun kx env os k => to kx env os fun w os1 => insK C m w os1 (tl kx env os1 fun ws os2 => callX T (w :: ws) os2 k kx)
def tMethS (C : Addr) (m : Str) (sp : Sp) (E : L2.St → XK) (ta : TE) (t : TA) : TE := fun σ H Q => ta σ H fun x H1 => ∃ (a dx : Addr) (fs : List (Str × V)), x = .ref a ∧ H1 a = some (.ins C dx fs) ∧ fs.lookup m = none ∧ t σ H1 fun vs H2 => sp (x :: vs) H2 Q (E σ)
theorem pe_methS {CX : CXT} {sp : Sp} {E : L2.St → XK} {f : Addr} {fd : FuncData} {ps : List Str} {ta : TE} {t : TA} {pl : Sem Bool} (he : PE X o ta) (c : Cls X.K C) (hm : Meth X.K C m f) (G : FnOk X.prog X.w X.K X.mg X.base CX lvl f fd ps sp) (hr : Room lvl X.A) (hb : Binds X.K fd ps []) (hx : ∀ σ, PassesAt CX X σ (E σ)) (ha : PA X (e :: es) t)
    (hst : starEach (e :: es) X.env = (false, eval e X.env) :: starEach es X.env) (hpl : (backTo pos (starEach es X.env)).any (·.1) = false)
    (ht : eval (.Call (.Attribute o m apos) (e :: es) [] pos) X.env = (do
      let ov ← eval o X.env
      standAt apos.atName
      let (f, first) ← holding [ov] (getMethod ov m pl)
      callWith pos f first (backTo pos (starEach (e :: es) X.env)) (backToKw pos (keywordEach [] X.env)))) : PE X (.Call (.Attribute o m apos) (e :: es) [] pos) (tMethS C m sp E ta t) := by
  refine ⟨fun pins s σ H Q I h => PySem.W.methodCall_KW (pl := pl) (thn (he.run pins s σ H _ I h) fun u s1 ⟨x, H1, I1, rx, a, dx, fs, ex, ea, l, q⟩ => ?_) ht⟩
  subst ex
  obtain rfl : u = Value.ref a := rx
  refine getmeth_ok I1 ea c hm l (PySem.W.callWith_K (h₀ := X.base) (first := [.ref a]) I1.ok.mod.kin hm.kp (thn (ha.run pos pins _ σ H1 _ (I1.tok _) q) fun us s2 ⟨vs, H2, I2, r2, q2⟩ => ⟨I2.kIn, ?_⟩) hst hpl)
  exact run_fnS (us := .ref a :: us) (vs := .ref a :: vs) G hr hb (hx σ) I2 (.cons rfl r2) q2
theorem pe_methS0 {CX : CXT} {sp : Sp} {E : L2.St → XK} {f : Addr} {fd : FuncData} {ps : List Str} {ta : TE} {pl : Sem Bool} (he : PE X o ta) (c : Cls X.K C) (hm : Meth X.K C m f) (G : FnOk X.prog X.w X.K X.mg X.base CX lvl f fd ps sp) (hr : Room lvl X.A) (hb : Binds X.K fd ps []) (hx : ∀ σ, PassesAt CX X σ (E σ))
    (ht : eval (.Call (.Attribute o m apos) [] [] pos) X.env = (do
      let ov ← eval o X.env
      standAt apos.atName
      let (f, first) ← holding [ov] (getMethod ov m pl)
      callWith pos f first (backTo pos (starEach [] X.env)) (backToKw pos (keywordEach [] X.env)))) : PE X (.Call (.Attribute o m apos) [] [] pos) (tMethS C m sp E ta tNil) := by
  refine ⟨fun pins s σ H Q I h => PySem.W.methodCall_KW (pl := pl) (thn (he.run pins s σ H _ I h) fun u s1 ⟨x, H1, I1, rx, a, dx, fs, ex, ea, l, q⟩ => ?_) ht⟩
  subst ex
  obtain rfl : u = Value.ref a := rx
  exact getmeth_ok I1 ea c hm l (PySem.W.callWith_K0 (first := [.ref a]) I1.kIn hm.kp (run_fnS (us := [.ref a]) (vs := [.ref a]) G hr hb (hx σ) I1 (.cons rfl .nil) q))
theorem cm_meth {mi : Nat} {pl : Sem Bool} (M : CalM X.prog X.w X.K X.mg X.base lvl C m (n + 1) T) (hmi : m = nm mi) (c : Cls X.K C) (hr : Room lvl X.A) (ho : Cm X o to) (ha : CmA X (e :: es) tl n)
    (hst : starEach (e :: es) X.env = (false, eval e X.env) :: starEach es X.env) (hpl : (backTo pos (starEach es X.env)).any (·.1) = false)
    (ht : eval (.Call (.Attribute o m apos) (e :: es) [] pos) X.env = (do
      let ov ← eval o X.env
      standAt apos.atName
      let (f, first) ← holding [ov] (getMethod ov m pl)
      callWith pos f first (backTo pos (starEach (e :: es) X.env)) (backToKw pos (keywordEach [] X.env)))) : Cm X (.Call (.Attribute o m apos) (e :: es) [] pos) (eMeth C mi T to tl) := by
  obtain ⟨f, fd, ps, G, hm, hb⟩ := M.ex
  subst hmi
  intro kx env os k h F V0 H σ Q W r sr ek cc
  refine wE_of (pe_methS (E := WE W) (pl := pl) wE_pe c hm G hr hb (fun σ => passAt ek.tk σ) wA_pa hst hpl ht) ?_
  refine ho _ _ _ _ h F V0 H σ _ W r sr ek fun V1 os1 H1 v w s1 r1 rv q => ?_
  obtain ⟨a, n0, fs, rfl, ho', hl, q⟩ := insK_of q
  obtain rfl := rv.toRef
  obtain ⟨_, _, ho2, h3, dx, vf, rfl, h4⟩ := r1.own _ (List.mem_of_getElem? ho')
  refine ⟨a, dx, vf, rfl, h3, rf_none h4 hl, ?_⟩
  refine ha.2 _ _ _ _ q F V1 H1 σ _ W r1 (sr.mono s1) (ek.mono s1) fun V2 os2 H2 vs ws s2 r2 rs ⟨hl2, q⟩ => ?_
  exact sp_of (vs := .ref a :: vs) r2 (.cons (.ref a) rs) (by rw [List.length_cons, rs.length, hl2]) q (ek.mono (s1.trans s2)) fun V3 os3 H3 v3 w3 s3 r3 rv3 q2 => cc V3 os3 H3 v3 w3 ((s1.trans s2).trans s3) r3 rv3 q2
theorem cm_meth0 {mi : Nat} {pl : Sem Bool} (M : CalM X.prog X.w X.K X.mg X.base lvl C m 1 T) (hmi : m = nm mi) (c : Cls X.K C) (hr : Room lvl X.A) (ho : Cm X o to)
    (ht : eval (.Call (.Attribute o m apos) [] [] pos) X.env = (do
      let ov ← eval o X.env
      standAt apos.atName
      let (f, first) ← holding [ov] (getMethod ov m pl)
      callWith pos f first (backTo pos (starEach [] X.env)) (backToKw pos (keywordEach [] X.env)))) : Cm X (.Call (.Attribute o m apos) [] [] pos) (eMeth C mi T to aN) := by
  obtain ⟨f, fd, ps, G, hm, hb⟩ := M.ex
  subst hmi
  intro kx env os k h F V0 H σ Q W r sr ek cc
  refine wE_of (pe_methS0 (E := WE W) (pl := pl) wE_pe c hm G hr hb (fun σ => passAt ek.tk σ) ht) ?_
  refine ho _ _ _ _ h F V0 H σ _ W r sr ek fun V1 os1 H1 v w s1 r1 rv q => ?_
  obtain ⟨a, n0, fs, rfl, ho', hl, q⟩ := insK_of q
  obtain rfl := rv.toRef
  obtain ⟨_, _, ho2, h3, dx, vf, rfl, h4⟩ := r1.own _ (List.mem_of_getElem? ho')
  refine ⟨a, dx, vf, rfl, h3, rf_none h4 hl, ?_⟩
  exact sp_of (vs := [.ref a]) r1 (.cons (.ref a) .nil) rfl q (ek.mono s1) fun V3 os3 H3 v3 w3 s3 r3 rv3 q2 => cc V3 os3 H3 v3 w3 (s1.trans s3) r3 rv3 q2
/-- C(..) -/
def eMake (C : Addr) (T : FT) (tl : TrA) : TrE := fun kx env os k => tl kx env os fun ws os1 => makeX T C ws os1 k kx
theorem run_makeS {CX : CXT} {sp : Sp} {E : XK} {f : Addr} {fd : FuncData} {ps : List Str} {pins : List (Addr × Obj)} {σ : L2.St} {H : Hp} {s : Shared} {Q : VK} {us : List Value} {vs : List V} (M : Mk X.K C f) (G : FnOk X.prog X.w X.K X.mg X.base CX lvl f fd ps sp) (hr : Room (lvl + 1) X.A) (hb : Binds X.K fd ps [])
    (hx : PassesAt CX X σ E) (I : Inv X pins σ H s) (rv : Vals vs us)
    (h : ∀ x dx, H x = none → H dx = none → dx ≠ x → sp (.ref x :: vs) (upd (upd H dx (.own x)) x (.ins C dx [])) (fun v H2 => v = .non ∧ Q (.ref x) H2) E) :
    wpAny (model X.prog X.w) X.A (call (.ref C) us) (EP X pins σ Q) X.xe s := by
  obtain ⟨z, hz⟩ : ∃ z, z = s.heap.objs.size := ⟨_, rfl⟩
  have hq := h (s.heap.objs.size + 1) s.heap.objs.size (I.hok.fresh (Nat.le_add_right _ 1)) (I.hok.fresh (Nat.le_refl _)) (Nat.ne_of_lt (Nat.lt_add_one _))
  have I2 := Inv.made (C := C) I
  have r2 : Vals (V.ref (s.heap.objs.size + 1) :: vs) (Value.ref (s.heap.objs.size + 1) :: us) := .cons rfl rv
  have hl : (Value.ref (s.heap.objs.size + 1) :: us).length = ps.length := r2.length.symm.trans (G.len _ _ _ _ hq)
  have bd := hb _ (Value.ref (s.heap.objs.size + 1) :: us) I2.kIn (by rw [List.append_nil]; exact hl)
  rw [List.append_nil] at bd
  refine wpAny_call (make_map (f := f) I.kIn M.makes M.init (beq_iff_eq.mp M.fn) (codeAny_mono (G.run _ X.stack _ _ ⟨Value.ref (s.heap.objs.size + 1) :: us, []⟩ (Value.ref (s.heap.objs.size + 1) :: us) _ _ E (hr.make C us []) (I2.env0.make C us []) bd r2 hq) fun r s' hq' => ?_))
  cases r with
  | error e => exact hx pins _ _ e s' I2 hq'
  | ok fl =>
    cases fl with
    | ret u =>
      obtain ⟨v, H', I3, rv, ev, q3⟩ := I2.after hq'
      subst ev
      exact ⟨rv, V.ref (s.heap.objs.size + 1), H', I3, rfl, q3⟩
    | next => exact hq'.elim
    | brk => exact hq'.elim
    | cont => exact hq'.elim
theorem made_of {F V0 H : Hp} {σ : L2.St} {vs : List V} {ws : List D} {kx : Kx} {W : WX} {Q : VK} (r : Rel X.K F V0 os H) (rs : RpA X.K V0 vs ws) (hl : vs.length + 1 = n) (q : makeX T C ws os k kx) (ek : XkOk X F V0 σ kx W)
    (c : ∀ (V1 : Hp) (os1 : Os) (H1 : Hp) (v : V) (w : D), Same V0 V1 → Rel X.K F V1 os1 H1 → Rp X.K V1 v w → k w os1 → Q v H1) (x dx : Addr) (hx : H x = none) (hd : H dx = none) (ne : dx ≠ x) :
    spX X.K n T (.ref x :: vs) (upd (upd H dx (.own x)) x (.ins C dx [])) (fun v H2 => v = .non ∧ Q (.ref x) H2) (WE W σ) := by
  rw [makeX_eq] at q
  obtain ⟨of, or, back, hp, hb, hT⟩ := q
  have sh : Same H (upd H dx (.own x)) := same_upd hd
  have r0 := r.perm hp
  have q1 : Rel X.K F V0 (of ++ or) (upd H dx (.own x)) := ⟨r0.fr.trans sh, r0.vi.trans sh, r0.fv, fun z hz => let ⟨h1, h2, ho, h3, h4⟩ := r0.own z hz; ⟨h1, h2, ho, sh _ _ h3, h4⟩, r0.nd⟩
  have r2 : Rel X.K F V0 (((x, OO.ins C []) :: of) ++ or) (upd (upd H dx (.own x)) x (.ins C dx [])) := q1.addO (by rw [upd_ne (Ne.symm ne)]; exact hx) ⟨dx, [], rfl, .nil⟩
  obtain ⟨F2, r3, bk⟩ := Rel.frame (of := (x, OO.ins C []) :: of) (or := or) r2
  refine ⟨hl, F2, V0, _, .ref x :: ws, _, _, r3, .cons (.ref x) rs, hT x, fun V3 os3 H3 v3 w3 s3 r4 rv3 hq => ?_, fun V1 os1 H1 cls d y s1 r1 ex hq => ek.ex V1 _ H1 cls d y s1 ((bk V1 os1 H1 s1 r1).perm (hb os1)) ex hq⟩
  split at hq
  · cases rv3
    exact ⟨rfl, c V3 _ H3 (.ref x) (.ref x) s3 ((bk V3 os3 H3 s3 r4).perm (hb os3)) (.ref x) hq⟩
  · exact hq.elim
theorem cm_make (M : CalI X.prog X.w X.K X.mg X.base lvl C x (n + 1) T) (hr : Room (lvl + 1) X.A) (hg : Gl X x) (ha : CmA X (e :: es) tl n) (hdb : (x == ("__debug__" : Str)) = false)
    (he : starEach (e :: es) X.env = (false, eval e X.env) :: starEach es X.env) (hpl : (backTo pos (starEach es X.env)).any (·.1) = false) : Cm X (.Call (.Name x p) (e :: es) [] pos) (eMake C T tl) := by
  obtain ⟨f, fd, ps, G, mk, hb, hm⟩ := M.ex
  intro kx env os k h F V0 H σ Q W r sr ek c
  refine wE_mk fun pins s I => ?_
  refine wpAny_Call_Name_kw (ld_glob I hg hm ?_ hdb)
  refine PySem.W.callWith_K (h₀ := X.base) I.ok.mod.kin mk.kp (thn (wA_pa.run pos pins s σ H (fun vs H1 => ∀ x dx, H1 x = none → H1 dx = none → dx ≠ x → spX X.K (n + 1) T (.ref x :: vs) (upd (upd H1 dx (.own x)) x (.ins C dx [])) (fun v H2 => v = .non ∧ Q (.ref x) H2) (WE W σ)) I ?_) fun us s1 ⟨vs, H1, I1, rv, q⟩ => ⟨I1.kIn, run_makeS mk G hr hb (passAt ek.tk σ) I1 rv q⟩) he hpl
  exact ha.2 _ _ _ _ h F V0 H σ _ W r sr ek fun V1 os1 H1 vs ws s1 r1 rs ⟨hl, q⟩ => made_of r1 rs (by rw [rs.length, hl]) q (ek.mono s1) fun V2 os2 H2 v w s2 r2 rv q2 => c V2 os2 H2 v w (s1.trans s2) r2 rv q2
theorem cm_make0 (M : CalI X.prog X.w X.K X.mg X.base lvl C x 1 T) (hr : Room (lvl + 1) X.A) (hg : Gl X x) (hdb : (x == ("__debug__" : Str)) = false) : Cm X (.Call (.Name x p) [] [] pos) (eMake C T aN) := by
  obtain ⟨f, fd, ps, G, mk, hb, hm⟩ := M.ex
  intro kx env os k h F V0 H σ Q W r sr ek c
  refine wE_mk fun pins s I => ?_
  refine wpAny_Call_Name_kw (ld_glob I hg hm ?_ hdb)
  exact PySem.W.callWith_K0 I.kIn mk.kp (run_makeS (us := []) (vs := []) mk G hr hb (passAt ek.tk σ) I .nil (made_of (vs := []) r .nil rfl h ek c))
end

/-! ### the end -/
/-- the law's own promise -/
theorem law_spX (K : PySem.W.Frag) (T : FT) (hT : ∀ ns : List Int, ns.length ≤ 63 → T [.lst (ns.map D.int)] [] (fun w _ => w = .bl true) (fun _ _ => False)) (H : Hp) (a : Addr) (ns : List Int) (h : ns.length ≤ 63) (hs : SqL K H a (ns.map V.int)) :
    spX K 1 T [.ref a] H (fun v _ => v = .bl true) fun _ _ _ => False := by
  refine ⟨rfl, fun _ => none, H, [], [.lst (ns.map D.int)], fun d _ => d = .bl true, fun _ _ => False, ⟨(fun a o e => by cases e), Same.refl _, (fun a o e => by cases e), fun p hp => absurd hp (by simp), by simp⟩, .cons (.lst hs (rpA_ints ns)) .nil, hT ns h,
    fun V1 os1 H1 v d _ _ rv q => ?_, fun _ _ _ _ _ _ _ _ _ z => z.elim⟩
  subst q
  cases rv
  rfl
theorem glb_int {K : PySem.W.Frag} {mg : Str → Option Value} {x : Str} {i : Int} {t : Tok} (h : mg x = some (.int i t)) : Glb K mg x (.int i) := ⟨.int i, _, h, ⟨t, rfl⟩, fun _ => .int i⟩
theorem glb_str {K : PySem.W.Frag} {mg : Str → Option Value} {x : Str} {i : Str} {t : Tok} (h : mg x = some (.str i t)) : Glb K mg x (.str i) := ⟨.str i, _, h, ⟨t, rfl⟩, fun _ => .str i⟩
theorem cx_no {P : Program} {w : World} {H : Hp} {s : Shared} {e : Value} {s' : Shared} (h : L2.CX P w [] H s (fun _ _ _ => False) e s') : False := by
  obtain ⟨_, _, _, _, _, _, _, _, _, _, _, _, z⟩ := h
  exact z
end EV

set_option Elab.async false
set_option linter.all false
set_option maxRecDepth 100000
/-! E7: further rules; what helps to read transformers. -/
namespace EV
open PySem PySem.Spec PyProof.Rows L2
theorem fl1 {A : Addr} {P : Addr → Prop} (h : P A) : ∀ C ∈ [A], P C := fun C hC => by rw [List.mem_singleton] at hC; exact hC ▸ h
theorem fl2 {A B : Addr} {P : Addr → Prop} (h : P A) (h2 : P B) : ∀ C ∈ [A, B], P C := fun C hC => by
  rcases List.mem_cons.mp hC with e | e
  · exact e ▸ h
  · exact fl1 h2 C e
theorem fl3 {A B D : Addr} {P : Addr → Prop} (h : P A) (h2 : P B) (h3 : P D) : ∀ C ∈ [A, B, D], P C := fun C hC => by
  rcases List.mem_cons.mp hC with e | e
  · exact e ▸ h
  · exact fl2 h2 h3 C e
theorem fl4 {A B D E : Addr} {P : Addr → Prop} (h : P A) (h2 : P B) (h3 : P D) (h4 : P E) : ∀ C ∈ [A, B, D, E], P C := fun C hC => by
  rcases List.mem_cons.mp hC with e | e
  · exact e ▸ h
  · exact fl3 h2 h3 h4 C e
section
variable {X : Cx} {tge a b c3 : Expr} {p pos : Pos} {ta tb tc : TrE}
/-- range(i, j, c) -/
def iR3 (ta tb tc : TrE) : TrI := fun kx env os ki => ta kx env os fun w os1 => tb kx env os1 fun u os2 => tc kx env os2 fun v os3 => match w with
  | .int i => (match u with
    | .int j => (match v with
      | .int c => ∃ n, RgC i j c n ∧ ki (rng i c n) none os3
      | _ => False)
    | _ => False)
  | _ => False
theorem ci_range3 (hg : Gl X "range") (hm : X.mg "range" = none) (h : Cm X a ta) (h2 : Cm X b tb) (h3 : Cm X c3 tc)
    (hs : starEach [a, b, c3] X.env = (false, eval a X.env) :: starEach [b, c3] X.env) (hs2 : starEach [b, c3] X.env = (false, eval b X.env) :: starEach [c3] X.env) (hs3 : starEach [c3] X.env = (false, eval c3 X.env) :: starEach [] X.env) (hpl : (backTo pos (starEach [b, c3] X.env)).any (·.1) = false) : CmI X tge (.Call (.Name "range" p) [a, b, c3] [] pos) (iR3 ta tb tc) := by
  intro kx env os ki q F V0 H σ R W r sr ek c
  refine wPI_of (pi_range3 hg hm (pa_cons wE_pe (pa_cons wE_pe (pa_cons wE_pe pa_nil hs3) hs2) hs) hs hpl) ?_
  refine h _ _ _ _ q F V0 H σ _ W r sr ek fun V1 os1 H1 v w s1 r1 rv q => ?_
  refine h2 _ _ _ _ q F V1 H1 σ _ W r1 (sr.mono s1) (ek.mono s1) fun V2 os2 H2 u y s2 r2 ru q => ?_
  refine h3 _ _ _ _ q F V2 H2 σ _ W r2 (sr.mono (s1.trans s2)) (ek.mono (s1.trans s2)) fun V3 os3 H3 u3 y3 s3 r3 ru3 q => ?_
  split at q
  · split at q
    · split at q
      · obtain ⟨n, hr, q⟩ := q
        cases rv; cases ru; cases ru3
        exact ⟨_, _, _, n, rfl, hr, c V3 os3 H3 _ _ _ ((s1.trans s2).trans s3) r3 (gi_rngC _ _ n) q⟩
      · exact q.elim
    · exact q.elim
  · exact q.elim
end
end EV

set_option Elab.async false
set_option linter.all false
set_option maxRecDepth 100000
/-! E9: dicts with keys that are ints or texts. -/
namespace EV
open PySem PySem.Spec PyProof.Rows L2

def valD (kvs : List (Key × D)) (k : Key) : Option D := match kvs with
  | [] => none
  | (j, d) :: r => if j = k then some d else valD r k
def putD (kvs : List (Key × D)) (k : Key) (d : D) : List (Key × D) := if (valD kvs k).isSome = true then kvs.map (fun kv => if kv.1 = k then (kv.1, d) else kv) else kvs ++ [(k, d)]
def delD (kvs : List (Key × D)) (k : Key) : List (Key × D) := kvs.filter fun kv => decide (kv.1 ≠ k)
def dOfK : Key → D
  | .inl i => .int i
  | .inr x => .str x
theorem rp_ofK {K : PySem.W.Frag} {H : Hp} (k : Key) : Rp K H (kV k) (dOfK k) := by
  cases k with
  | inl i => exact .int i
  | inr x => exact .str x
section
variable {K : PySem.W.Frag} {H : Hp}
theorem RpK.length : ∀ {xs : List (Key × V)} {ds : List (Key × D)}, RpK K H xs ds → xs.length = ds.length
  | _, _, .nil => rfl
  | _, _, .cons _ r => congrArg (· + 1) (RpK.length r)
theorem RpK.val : ∀ {xs : List (Key × V)} {ds : List (Key × D)} {k : Key}, RpK K H xs ds → (∀ d, valD ds k = some d → ∃ v, valV xs k = some v ∧ Rp K H v d) ∧ (valD ds k = none → valV xs k = none)
  | _, _, _, .nil => ⟨fun d h => (nomatch h), fun _ => rfl⟩
  | _, _, k, .cons (k := j) (v := v) (vs := vs) (d := d) (ds := ds) h r => by
    have ih := RpK.val (k := k) r
    unfold valD
    by_cases e : j = k
    · rw [if_pos e, valV_pos (p := (j, v)) e]
      exact ⟨fun d h' => ⟨v, rfl, Option.some.inj h' ▸ h⟩, fun z => (nomatch z)⟩
    · rw [if_neg e, valV_neg (p := (j, v)) e]
      exact ih
theorem RpK.isSome {xs : List (Key × V)} {ds : List (Key × D)} (r : RpK K H xs ds) (k : Key) : (valV xs k).isSome = (valD ds k).isSome := by
  obtain ⟨h1, h2⟩ := RpK.val (k := k) r
  cases e : valD ds k with
  | none => rw [h2 e]; rfl
  | some d => obtain ⟨v, e1, _⟩ := h1 d e; rw [e1]; rfl
theorem RpK.app : ∀ {xs ys : List (Key × V)} {ds es : List (Key × D)}, RpK K H xs ds → RpK K H ys es → RpK K H (xs ++ ys) (ds ++ es)
  | _, _, _, _, .nil, s => s
  | _, _, _, _, .cons h r, s => .cons h (RpK.app r s)
theorem RpK.repl {k : Key} {v : V} {w : D} (q : Rp K H v w) : ∀ {xs : List (Key × V)} {ds : List (Key × D)}, RpK K H xs ds →
    RpK K H (xs.map fun kv => if kv.1 = k then (kv.1, v) else kv) (ds.map fun kv => if kv.1 = k then (kv.1, w) else kv)
  | _, _, .nil => .nil
  | _, _, .cons (k := j) h r => by
    have ih := RpK.repl (k := k) q r
    rw [List.map_cons, List.map_cons]
    by_cases e : j = k
    · rw [if_pos e, if_pos e]; exact .cons q ih
    · rw [if_neg e, if_neg e]; exact .cons h ih
theorem RpK.put {xs : List (Key × V)} {ds : List (Key × D)} (r : RpK K H xs ds) (k : Key) {v : V} {w : D} (q : Rp K H v w) : RpK K H (putK xs k v) (putD ds k w) := by
  unfold putK putD
  rw [valV_any, r.isSome k]
  by_cases e : (valD ds k).isSome = true
  · rw [if_pos e, if_pos e]; exact RpK.repl q r
  · rw [if_neg e, if_neg e]; exact r.app (.cons q .nil)
theorem RpK.del (k : Key) : ∀ {xs : List (Key × V)} {ds : List (Key × D)}, RpK K H xs ds → RpK K H (dropK xs k) (delD ds k)
  | _, _, .nil => .nil
  | _, _, .cons (k := j) (v := v) (vs := vs) (d := d) (ds := ds) h r => by
    have ih := RpK.del k r
    unfold dropK delD at ih ⊢
    rw [List.filter_cons, List.filter_cons]
    by_cases e : j ≠ k
    · rw [if_pos (by simpa using e), if_pos (by simpa using e)]; exact .cons h ih
    · rw [if_neg (by simpa using e), if_neg (by simpa using e)]; exact ih
theorem RpK.keys : ∀ {xs : List (Key × V)} {ds : List (Key × D)}, RpK K H xs ds → xs.map (·.1) = ds.map (·.1)
  | _, _, .nil => rfl
  | _, _, .cons _ r => by rw [List.map_cons, List.map_cons, RpK.keys r]
theorem RpK.get : ∀ {xs : List (Key × V)} {ds : List (Key × D)} {i : Nat} {p : Key × D}, RpK K H xs ds → ds[i]? = some p → ∃ v, xs[i]? = some (p.1, v) ∧ Rp K H v p.2
  | _, _, _, _, .nil, e => by simp at e
  | _, _, 0, _, .cons h r, e => by simp at e; subst e; exact ⟨_, rfl, h⟩
  | _, _, i + 1, d, .cons h r, e => by
    obtain ⟨v, e1, r1⟩ := RpK.get (i := i) (p := d) r (by simpa using e)
    exact ⟨v, by simpa using e1, r1⟩
end
theorem putD_len (kvs : List (Key × D)) (k : Key) (d : D) : (putD kvs k d).length ≤ kvs.length + 1 := by
  unfold putD
  split
  · rw [List.length_map]; exact Nat.le_succ _
  · rw [List.length_append]; exact Nat.le_refl _
/-- a dict at hand: data or owned -/
def dctK (w : D) (os : Os) (k : List (Key × D) → Prop) : Prop := match w with
  | .dK kvs => k kvs
  | .ref p => ∃ (n : Nat) (kvs : List (Key × D)), os[n]? = some (p, OO.dK kvs) ∧ k kvs
  | _ => False
def DctOf (os : Os) (w : D) (kvs : List (Key × D)) : Prop := match w with
  | .dK es => kvs = es
  | .ref p => ∃ n : Nat, os[n]? = some (p, OO.dK kvs)
  | _ => False
theorem dctK_of {w : D} {os : Os} {k : List (Key × D) → Prop} (h : dctK w os k) : ∃ kvs, DctOf os w kvs ∧ k kvs := by
  unfold dctK at h
  split at h
  · exact ⟨_, rfl, h⟩
  · obtain ⟨n, kvs, ho, q⟩ := h
    exact ⟨kvs, ⟨n, ho⟩, q⟩
  · exact h.elim
theorem dctOf_of {K : PySem.W.Frag} {F V0 H : Hp} {os : Os} {v : V} {w : D} {kvs : List (Key × D)} (r : Rel K F V0 os H) (rv : Rp K V0 v w) (h : DctOf os w kvs) : ∃ a vs, v = .ref a ∧ Rd H a (.dK vs) ∧ RpK K V0 vs kvs := by
  unfold DctOf at h
  split at h
  · subst h
    cases rv with
    | dK h1 h2 =>
      obtain ⟨o, h1⟩ := h1
      exact ⟨_, _, rfl, .inr ⟨o, r.vi _ _ h1⟩, h2⟩
  · obtain ⟨n, ho⟩ := h
    obtain rfl := rv.toRef
    obtain ⟨_, _, ho', h3, vs, rfl, h4⟩ := r.own _ (List.mem_of_getElem? ho)
    exact ⟨_, vs, rfl, .inl h3, h4⟩
  · exact h.elim
def keyK (y : D) (k : Key → Prop) : Prop := match y with
  | .int i => k (.inl i)
  | .str x => k (.inr x)
  | _ => False
theorem keyK_of {K : PySem.W.Frag} {V0 : Hp} {v : V} {y : D} {k : Key → Prop} (rv : Rp K V0 v y) (h : keyK y k) : ∃ ky, v = kV ky ∧ k ky := by
  unfold keyK at h
  split at h
  · cases rv; exact ⟨.inl _, rfl, h⟩
  · cases rv; exact ⟨.inr _, rfl, h⟩
  · exact h.elim
theorem dget_at {K : PySem.W.Frag} {F V0 H : Hp} {os : Os} {v u : V} {w y : D} {kk : List (Key × D) → Key → Prop} (r : Rel K F V0 os H) (rv : Rp K V0 v w) (ru : Rp K V0 u y) (h : dctK w os fun kvs => keyK y fun ky => kk kvs ky) :
    ∃ a vs kvs ky, v = .ref a ∧ RpK K V0 vs kvs ∧ DGet H a u (valV vs ky) ∧ Rd H a (.dK vs) ∧ u = kV ky ∧ DctOf os w kvs ∧ kk kvs ky := by
  obtain ⟨kvs, hd, h⟩ := dctK_of h
  obtain ⟨ky, rfl, h⟩ := keyK_of ru h
  obtain ⟨a, vs, rfl, h1, h2⟩ := dctOf_of r rv hd
  exact ⟨a, vs, kvs, ky, rfl, h2, .inl ⟨vs, ky, h1, rfl, rfl⟩, h1, rfl, hd, h⟩

section
variable {X : Cx} {kx : Kx} {env : DEnv} {os : Os} {k : D → Os → Prop} {pos pos' apos cpos tpos : Pos} {o e f i value : Expr} {to te tf ti tv : TrE} {lvl : Nat}
/-- d[k] -/
def oDGet (w y : D) (os : Os) (k : D → Os → Prop) : Prop := dctK w os fun kvs => keyK y fun ky => ∃ d, valD kvs ky = some d ∧ k d os
def eDGet (to ti : TrE) : TrE := fun kx env os k => to kx env os fun w os1 => ti kx env os1 fun y os2 => oDGet w y os2 k
theorem cm_dget (hr : Room lvl X.A) (ho : Cm X o to) (hi : Cm X i ti) (hs : NoSl i) : Cm X (.Subscript o i pos) (eDGet to ti) := by
  intro kx env os k q F V0 H σ Q W r sr ek c
  refine wE_of (pe_dget (hu_of hr) wE_pe wE_pe hs) ?_
  refine ho _ _ _ _ q F V0 H σ _ W r sr ek fun V1 os1 H1 v w s1 r1 rv q => ?_
  refine hi _ _ _ _ q F V1 H1 σ _ W r1 (sr.mono s1) (ek.mono s1) fun V2 os2 H2 u y s2 r2 ru q => ?_
  obtain ⟨a, vs, kvs, ky, rfl, rk, g, _, _, _, d, hd, q⟩ := dget_at r2 (rv.mono s2) ru q
  obtain ⟨v', e1, rv'⟩ := (rk.val (k := ky)).1 d hd
  rw [e1] at g
  exact ⟨a, v', rfl, g, c V2 os2 H2 v' d (s1.trans s2) r2 rv' q⟩
/-- k in d, k not in d -/
def oInD : TrO := fun y w os k => dctK w os fun kvs => keyK y fun ky => k (.bl (valD kvs ky).isSome) os
def oNotInD : TrO := fun y w os k => dctK w os fun kvs => keyK y fun ky => k (.bl (!(valD kvs ky).isSome)) os
theorem cmo_inD (hr : Room lvl X.A) : CmO X (compareOp .In) oInD := by
  intro y w os k h F V0 H v u Q r ry rw' c
  refine wO_mk fun pins s σ iv ov I r1 r2 => ?_
  obtain ⟨a, vs, kvs, ky, rfl, rk, g, _, _, _, q⟩ := dget_at r rw' ry h
  obtain rfl : ov = Value.ref a := r2
  refine d_in (hu_of hr) I g r1 fun s' I' => ⟨.bl _, H, I', rfl, ?_⟩
  rw [rk.isSome]
  exact c V0 os H _ _ (Same.refl _) r rwB q
theorem cmo_notInD (hr : Room lvl X.A) : CmO X (compareOp .NotIn) oNotInD := by
  intro y w os k h F V0 H v u Q r ry rw' c
  refine wO_mk fun pins s σ iv ov I r1 r2 => ?_
  obtain ⟨a, vs, kvs, ky, rfl, rk, g, _, _, _, q⟩ := dget_at r rw' ry h
  obtain rfl : ov = Value.ref a := r2
  refine d_notIn (hu_of hr) I g r1 fun s' I' => ⟨.bl _, H, I', rfl, ?_⟩
  rw [rk.isSome]
  exact c V0 os H _ _ (Same.refl _) r rwB q
/-- d.get(k), d.get(k, x) -/
def isDK (w : D) (os : Os) (k : Prop) : Prop := (∃ kvs, DctOf os w kvs) ∧ k
def oDGetO (w y z : D) (os : Os) (k : D → Os → Prop) : Prop := dctK w os fun kvs => keyK y fun ky => k ((valD kvs ky).getD z) os
def dctH (w : D) (os : Os) (k : Prop) : Prop := dctK w os fun _ => k
def eDGet1 (to te : TrE) : TrE := fun kx env os k => to kx env os fun w os1 => dctH w os1 (te kx env os1 fun y os2 => oDGetO w y .non os2 k)
def eDGet2 (to te tf : TrE) : TrE := fun kx env os k => to kx env os fun w os1 => dctH w os1 (te kx env os1 fun y os2 => tf kx env os2 fun z os3 => oDGetO w y z os3 k)
theorem isD_of {F V0 H : Hp} {v : V} {w : D} {q : Prop} (r : Rel X.K F V0 os H) (rv : Rp X.K V0 v w) (h : dctH w os q) : ∃ a, v = .ref a ∧ IsD H a ∧ q := by
  obtain ⟨kvs, hd, q⟩ := dctK_of h
  obtain ⟨a, vs, rfl, h1, h2⟩ := dctOf_of r rv hd
  exact ⟨a, rfl, .inl ⟨vs, h1⟩, q⟩
theorem getD_rp {V0 : Hp} {vs : List (Key × V)} {kvs : List (Key × D)} {ky : Key} {z : D} {zv : V} (rk : RpK X.K V0 vs kvs) (rz : Rp X.K V0 zv z) : Rp X.K V0 ((valV vs ky).getD zv) ((valD kvs ky).getD z) := by
  obtain ⟨h1, h2⟩ := rk.val (k := ky)
  cases e : valD kvs ky with
  | none => rw [h2 e]; exact rz
  | some d => obtain ⟨v, e1, rv⟩ := h1 d e; rw [e1]; exact rv
theorem cm_dget1 (hr : Room lvl X.A) (ho : Cm X o to) (he : Cm X e te) (m : M1 X o "get" apos e cpos) : Cm X (.Call (.Attribute o "get" apos) [e] [] cpos) (eDGet1 to te) := by
  intro kx env os k q F V0 H σ Q W r sr ek c
  refine wE_of (pe_dget1 (hu_of hr) wE_pe wE_pe m) ?_
  refine ho _ _ _ _ q F V0 H σ _ W r sr ek fun V1 os1 H1 v w s1 r1 rv q => ?_
  obtain ⟨a, rfl, hd, q⟩ := isD_of r1 rv q
  refine ⟨a, rfl, hd, ?_⟩
  refine he _ _ _ _ q F V1 H1 σ _ W r1 (sr.mono s1) (ek.mono s1) fun V2 os2 H2 u y s2 r2 ru q => ?_
  obtain ⟨a', vs, kvs, ky, e', rk, g, _, _, _, q⟩ := dget_at r2 (rv.mono s2) ru q
  cases e'
  exact ⟨_, g, c V2 os2 H2 _ _ (s1.trans s2) r2 (getD_rp rk .non) q⟩
theorem cm_dget2 (hr : Room lvl X.A) (ho : Cm X o to) (he : Cm X e te) (hf : Cm X f tf) (m : M2 X o "get" apos e f cpos) : Cm X (.Call (.Attribute o "get" apos) [e, f] [] cpos) (eDGet2 to te tf) := by
  intro kx env os k q F V0 H σ Q W r sr ek c
  refine wE_of (pe_dget2 (hu_of hr) wE_pe wE_pe wE_pe m) ?_
  refine ho _ _ _ _ q F V0 H σ _ W r sr ek fun V1 os1 H1 v w s1 r1 rv q => ?_
  obtain ⟨a, rfl, hd, q⟩ := isD_of r1 rv q
  refine ⟨a, rfl, hd, ?_⟩
  refine he _ _ _ _ q F V1 H1 σ _ W r1 (sr.mono s1) (ek.mono s1) fun V2 os2 H2 u y s2 r2 ru q => ?_
  refine hf _ _ _ _ q F V2 H2 σ _ W r2 ((sr.mono s1).mono s2) ((ek.mono s1).mono s2) fun V3 os3 H3 u3 z s3 r3 rz q => ?_
  obtain ⟨a', vs, kvs, ky, e', rk, g, _, _, _, q⟩ := dget_at r3 (rv.mono (s2.trans s3)) (ru.mono s3) q
  cases e'
  exact ⟨_, g, c V3 os3 H3 _ _ ((s1.trans s2).trans s3) r3 (getD_rp rk rz) q⟩
/-- an owned dict at hand, for a store -/
def dctO (w : D) (os : Os) (k : Nat → Addr → List (Key × D) → Prop) : Prop := match w with
  | .ref p => ∃ (n : Nat) (kvs : List (Key × D)), os[n]? = some (p, OO.dK kvs) ∧ k n p kvs
  | _ => False
theorem dctO_of {F V0 H : Hp} {v : V} {w : D} {kk : Nat → Addr → List (Key × D) → Prop} (r : Rel X.K F V0 os H) (rv : Rp X.K V0 v w) (h : dctO w os kk) : ∃ n p kvs vs, v = .ref p ∧ os[n]? = some (p, OO.dK kvs) ∧ H p = some (.dK vs) ∧ RpK X.K V0 vs kvs ∧ kk n p kvs := by
  unfold dctO at h
  split at h
  · obtain ⟨n, kvs, ho, q⟩ := h
    obtain rfl := rv.toRef
    obtain ⟨_, _, ho', h3, vs, rfl, h4⟩ := r.own _ (List.mem_of_getElem? ho)
    exact ⟨n, _, kvs, vs, rfl, ho, h3, h4, q⟩
  · exact h.elim
/-- d[k] = v -/
def sDPut (to ti tv : TrE) : TrS := fun N R env os => tv (R.xk env) env os fun z os1 => to (R.xk env) env os1 fun w os2 => ti (R.xk env) env os2 fun y os3 => dctO w os3 fun n p kvs => keyK y fun ky => kvs.length < sizeLine ∧ N env (os3.set n (p, .dK (putD kvs ky z)))
theorem c1_dput (hr : Room lvl X.A) (ho : Cm X o to) (hi : Cm X i ti) (hv : Cm X value tv) (hs : swapsWith value (some (.Subscript o i pos')) pos.line X.env = pure false) : CmS X (.Assign [.Subscript o i pos'] value pos) (sDPut to ti tv) := by
  intro N R env os q F V0 H σ D W r sr ek
  refine wS1_of (ps_dput (hu_of hr) wE_pe wE_pe wE_pe hs) ?_
  refine hv _ _ _ _ q F V0 H σ _ W r sr (ek.xk sr) fun V1 os1 H1 v z s1 r1 rz q => ?_
  refine ho _ _ _ _ q F V1 H1 σ _ W r1 (sr.mono s1) ((ek.xk sr).mono s1) fun V2 os2 H2 u w s2 r2 rw' q => ?_
  refine hi _ _ _ _ q F V2 H2 σ _ W r2 ((sr.mono s1).mono s2) (((ek.xk sr).mono s1).mono s2) fun V3 os3 H3 iv y s3 r3 ry q => ?_
  obtain ⟨n, p, kvs, vs, rfl, ho3, h3, rk, q⟩ := dctO_of r3 (rw'.mono s3) q
  obtain ⟨ky, rfl, hl, q⟩ := keyK_of ry q
  refine ⟨p, _, rfl, .inl ⟨vs, ky, h3, rfl, by rw [rk.length]; exact hl, rfl⟩, ?_⟩
  have s := (s1.trans s2).trans s3
  exact ek.nx V3 _ _ _ _ s (r3.mut ho3 (oo' := .dK (putD kvs ky z)) ⟨_, rfl, rk.put ky (rz.mono (s2.trans s3))⟩) (sr.mono s) q
/-- del d[k] -/
def sDDel (to ti : TrE) : TrS := fun N R env os => to (R.xk env) env os fun w os2 => ti (R.xk env) env os2 fun y os3 => dctO w os3 fun n p kvs => keyK y fun ky => (valD kvs ky).isSome = true ∧ N env (os3.set n (p, .dK (delD kvs ky)))
theorem c1_ddel (ho : Cm X o to) (hi : Cm X i ti) : CmS X (.Delete [.Subscript o i tpos] pos) (sDDel to ti) := by
  intro N R env os q F V0 H σ D W r sr ek
  refine wS1_of (ps_ddel wE_pe wE_pe) ?_
  refine ho _ _ _ _ q F V0 H σ _ W r sr (ek.xk sr) fun V2 os2 H2 u w s2 r2 rw' q => ?_
  refine hi _ _ _ _ q F V2 H2 σ _ W r2 (sr.mono s2) ((ek.xk sr).mono s2) fun V3 os3 H3 iv y s3 r3 ry q => ?_
  obtain ⟨n, p, kvs, vs, rfl, ho3, h3, rk, q⟩ := dctO_of r3 (rw'.mono s3) q
  obtain ⟨ky, rfl, hl, q⟩ := keyK_of ry q
  refine ⟨p, vs, ky, rfl, h3, rfl, by rw [rk.isSome]; exact hl, ?_⟩
  have s := s2.trans s3
  exact ek.nx V3 _ _ _ _ s (r3.mut ho3 (oo' := .dK (delD kvs ky)) ⟨_, rfl, rk.del ky⟩) (sr.mono s) q
/-- {} -/
def eDNew : TrE := fun _ _ os k => ∀ p, k (.ref p) ((p, .dK []) :: os)
theorem cm_dnew : Cm X (.Dict [] [] pos) eDNew := by
  intro kx env os k q F V0 H σ Q W r sr ek c
  refine wE_of pe_dnewK fun p hp => ?_
  exact c V0 _ _ (.ref p) _ (Same.refl _) (r.addO hp (oo := .dK []) ⟨[], rfl, .nil⟩) (.ref p) (q p)
/-- an owned dict becomes data: it is locked -/
theorem _root_.EV.Rel.freezeD {K : PySem.W.Frag} {F V0 H : Hp} {os : Os} {n : Nat} {a : Addr} {kvs : List (Key × D)} (r : Rel K F V0 os H) (h : os[n]? = some (a, .dK kvs)) :
    ∃ vs, H a = some (.dK vs) ∧ ∀ od, ∃ V1, Same V0 V1 ∧ Rel K F V1 (os.eraseIdx n) (upd H a (.frz od (.dK vs))) ∧ Rp K V1 (.ref a) (.dK kvs) := by
  obtain ⟨h1, h2, ho, h3, vs, rfl, h4⟩ := r.own _ (List.mem_of_getElem? h)
  refine ⟨vs, h3, fun od => ?_⟩
  have sv : Same V0 (upd V0 a (.frz od (.dK vs))) := same_upd h2
  have mono4 : RpK K (upd V0 a (.frz od (.dK vs))) vs kvs := RpK.mono sv h4
  refine ⟨upd V0 a (.frz od (.dK vs)), sv, ⟨fun b u e => ?_, fun b u e => ?_, fun b u e => ?_, fun q hq => ?_, r.nd.sublist ((List.eraseIdx_sublist _ _).map _)⟩, .dK ⟨od, upd_same⟩ mono4⟩
  · rw [upd_ne (ne_of_none e h1)]; exact r.fr b u e
  · by_cases hb : b = a
    · subst hb; rw [upd_same] at e ⊢; exact e
    · rw [upd_ne hb] at e ⊢; exact r.vi b u e
  · rw [upd_ne (ne_of_none e h1)]; exact r.fv b u e
  · obtain ⟨j, hj⟩ := List.getElem?_of_mem hq
    obtain ⟨k1, k2, ho', k3, k4⟩ := r.own q ((List.eraseIdx_sublist _ _).subset hq)
    have ne : q.1 ≠ a := fun e => by
      have e1 : (os.map (·.1))[n]? = some a := by rw [List.getElem?_map, h]; rfl
      rw [List.getElem?_eraseIdx] at hj
      split at hj
      · have e2 : (os.map (·.1))[j]? = some a := by rw [List.getElem?_map, hj]; exact congrArg some e
        have := nd_ix r.nd e1 e2
        omega
      · have e2 : (os.map (·.1))[j + 1]? = some a := by rw [List.getElem?_map, hj]; exact congrArg some e
        have := nd_ix r.nd e1 e2
        omega
    exact ⟨k1, by rw [upd_ne ne]; exact k2, ho', by rw [upd_ne ne]; exact k3, k4.mono sv⟩
def frzD (w : D) (os : Os) (k : D → Os → Prop) : Prop := match w with
  | .ref a => ∃ (n : Nat) (kvs : List (Key × D)), os[n]? = some (a, OO.dK kvs) ∧ k (.dK kvs) (os.eraseIdx n)
  | w => k w os
def eFrzD (t : TrE) : TrE := fun kx env os k => t kx env os fun w os1 => frzD w os1 k
theorem wE_lock {σ : L2.St} {H : Hp} {Q : VK} (h : wE X e σ H fun v H' => Q v H' ∨ ∃ d u, H' d = some u ∧ Mut (some u) ∧ ∀ od, Q v (upd H' d (.frz od u))) : wE X e σ H Q := wE_mk fun pins s I =>
  wpAny_mono (wE_run h pins s I) (fun u s' hh => by
    obtain ⟨v, H', I', ru, q | ⟨d, u', hd, mu, q⟩⟩ := hh
    · exact ⟨v, H', I', ru, q⟩
    · obtain ⟨od, I2⟩ := I'.lock hd mu
      exact ⟨v, _, I2, ru, q od⟩) fun _ _ z => z
theorem cm_frzD (h : Cm X e te) : Cm X e (eFrzD te) := by
  intro kx env os k q F V0 H σ Q W r sr ek c
  refine wE_lock ?_
  refine h _ _ _ _ q F V0 H σ _ W r sr ek fun V1 os1 H1 v w s1 r1 rv q => ?_
  unfold frzD at q
  split at q
  · obtain ⟨n, kvs, ho, q⟩ := q
    obtain rfl := rv.toRef
    obtain ⟨vs, h3, fz⟩ := r1.freezeD ho
    refine .inr ⟨_, _, h3, True.intro, fun od => ?_⟩
    obtain ⟨V2, s2, r2, rp⟩ := fz od
    exact c V2 _ _ _ _ (s1.trans s2) r2 rp q
  · exact .inl (c V1 os1 H1 v w s1 r1 rv q)
/-- for k in d, d data -/
theorem gi_keys {V1 : Hp} {a : Addr} {od : Obj} {xs : List (Key × V)} {ds : List (Key × D)} (h : V1 a = some (.frz od (.dK xs))) (r : RpK X.K V1 xs ds) : GI X.K V1 (Itk a od xs) (ds.map fun kv => dOfK kv.1) none := by
  have hl := r.length
  refine ⟨fun i F V2 os H s2 r2 _ hi => ⟨(s2.trans r2.vi) _ _ h, by rw [List.length_map] at hi; omega⟩, fun i F V2 os H s2 r2 _ hi => ⟨(s2.trans r2.vi) _ _ h, by rw [List.length_map] at hi; omega⟩, fun i F V2 os H x H' w s2 r2 _ y e => ?_⟩
  obtain ⟨rfl, ky, v, y, rfl⟩ := y
  rw [List.getElem?_map] at e
  obtain ⟨p, e1, rfl⟩ := Option.map_eq_some_iff.mp e
  obtain ⟨v', e2, _⟩ := r.get e1
  rw [y] at e2
  cases e2
  exact ⟨V2, Same.refl _, r2, rp_ofK _⟩
def iDct (te : TrE) : TrI := fun kx env os ki => te kx env os fun w os1 => match w with
  | .dK kvs => ki (kvs.map fun kv => dOfK kv.1) none os1
  | _ => False
theorem ci_dct {tg : Expr} (h : Cm X e te) : CmI X tg e (iDct te) := by
  intro kx env os ki q F V0 H σ R W r sr ek c
  refine wPI_of (pi_keys wE_pe) ?_
  refine h _ _ _ _ q F V0 H σ _ W r sr ek fun V1 os1 H1 v w s1 r1 rv q => ?_
  split at q
  · cases rv with
    | dK h1 h2 =>
      obtain ⟨od, h1⟩ := h1
      exact ⟨_, od, rfl, .inl ⟨_, r1.vi _ _ h1, c V1 os1 H1 _ _ none s1 r1 (gi_keys h1 h2) q⟩⟩
  · exact q.elim
/-- len(d) -/
def cLenD : TrC := fun ws os k => match ws with
  | [w] => dctK w os fun kvs => k (.int kvs.length) os
  | _ => False
theorem cmc_lenD : CmC X (.builtin "len") cLenD := by
  intro ws os k h
  unfold cLenD at h
  split at h
  · intro F V0 H vs Q r rs c pins s σ us I rv
    obtain ⟨v, rfl, rw'⟩ := rs.one
    obtain ⟨kvs, hd, q⟩ := dctK_of h
    obtain ⟨a, xs, rfl, h1, h2⟩ := dctOf_of r rw' hd
    obtain ⟨u, rfl, ru⟩ := rv.one
    obtain rfl : u = Value.ref a := ru
    refine d_len I h1 fun t s' I' => ⟨.int xs.length, H, I', ⟨t, rfl⟩, ?_⟩
    rw [h2.length]
    exact c V0 os H _ _ (Same.refl _) r rwI q
  · exact h.elim
/-- dict(d): an owned copy -/
def cDictO : TrC := fun ws os k => match ws with
  | [w] => dctK w os fun kvs => ∀ p, k (.ref p) ((p, .dK kvs) :: os)
  | _ => False
theorem cmc_dictO : CmC X (.type "dict") cDictO := by
  intro ws os k h
  unfold cDictO at h
  split at h
  · refine JC.mk call_dictD fun F V0 H vs Q r rs c => ?_
    obtain ⟨v, rfl, rw'⟩ := rs.one
    obtain ⟨kvs, hd, q⟩ := dctK_of h
    obtain ⟨a, xs, rfl, h1, h2⟩ := dctOf_of r rw' hd
    exact ⟨a, xs, rfl, h1, fun p hp => c V0 _ _ (.ref p) (.ref p) (Same.refl _) (r.addO hp (oo := .dK kvs) ⟨xs, rfl, h2⟩) (.ref p) (q p)⟩
  · exact h.elim
/-- isinstance(x, T), x a dict -/
def cIsiD : TrC := fun ws os k => match ws with
  | [w, .ty m] => dctK w os fun _ => ∃ b, kitB "dict" m = some b ∧ k (.bl b) os
  | _ => False
theorem cmc_isiD : CmC X (.builtin "isinstance") cIsiD := by
  intro ws os k h
  unfold cIsiD at h
  split at h
  · rename_i w m
    refine JC.mk call_isi fun F V0 H vs Q r rs c => ?_
    obtain ⟨v, v2, rfl, rv, rv2⟩ := rs.two
    cases rv2
    obtain ⟨kvs, hd, b, hb, q⟩ := dctK_of h
    obtain ⟨a, xs, rfl, h1, h2⟩ := dctOf_of r rv hd
    have t : TyX X.K H (.ref a) (.type "dict") := by
      rcases h1 with h1 | ⟨o, h1⟩
      · exact .base (.dK h1)
      · exact .fDict h1
    exact ⟨_, .ty m, _, _, b, rfl, .ty m, t, kit_ty hb, c V0 os H _ _ (Same.refl _) r rwB q⟩
  · exact h.elim
/-- two dicts that hold the same (ints, texts, bools, None) -/
def eqDK (ks ls : List (Key × D)) : Prop := ks.length = ls.length ∧ ∀ p ∈ ks, valD ls p.1 = some p.2 ∧ isScal p.2 = true
theorem hits_D {V0 : Hp} {P : Program} {w : World} {A : Around} {s : Shared} {lv : List (Key × Value)} {xs ys : List (Key × V)} {ks ls : List (Key × D)} (ra : RpK X.K V0 xs ks) (rb : RpK X.K V0 ys ls)
    (h : ∀ p ∈ ks, valD ls p.1 = some p.2 ∧ isScal p.2 = true) : ∀ p ∈ xs, valV ys p.1 = some p.2 ∧ flatB p.2 = true := by
  intro p hp
  obtain ⟨i, hi⟩ := List.getElem?_of_mem hp
  have hl : i < ks.length := by rw [← ra.length]; exact (List.getElem?_eq_some_iff.mp hi).1
  obtain ⟨v, e1, rv⟩ := ra.get (List.getElem?_eq_getElem hl)
  rw [hi] at e1
  cases e1
  obtain ⟨h1, h2⟩ := h _ (List.getElem_mem hl)
  obtain ⟨v', e2, rv'⟩ := (rb.val (k := ks[i].1)).1 _ h1
  have ev := rp_scal h2 rv
  have ev' := rp_scal h2 rv'
  refine ⟨by rw [e2, ev, ev'], ?_⟩
  show flatB v = true
  rw [ev]
  cases hk : ks[i].2 <;> rw [hk] at h2 <;> first | rfl | cases h2
def oEqD : TrO := fun x y os k => dctK x os fun ks => dctK y os fun ls => eqDK ks ls ∧ k (.bl true) os
def oNeD : TrO := fun x y os k => dctK x os fun ks => dctK y os fun ls => eqDK ks ls ∧ k (.bl false) os
theorem cmo_eqD (hr : Room lvl X.A) : CmO X (compareOp .Eq) oEqD := by
  intro x y os k h F V0 H v u Q r rx ry c
  refine wO_mk fun pins s σ iv ov I r1 r2 => ?_
  obtain ⟨ks, hk, h⟩ := dctK_of h
  obtain ⟨ls, hl, ⟨hlen, hp⟩, q⟩ := dctK_of h
  obtain ⟨a, xs, rfl, ea, ra⟩ := dctOf_of r rx hk
  obtain ⟨b, ys, rfl, eb, rb⟩ := dctOf_of r ry hl
  obtain rfl : iv = Value.ref a := r1
  obtain rfl : ov = Value.ref b := r2
  obtain ⟨_, ya, va, ka, da⟩ := dk_rd I.hok ea
  obtain ⟨_, yb, vb, kb, db⟩ := dk_rd I.hok eb
  have hl2 : va.length = vb.length := by rw [← ka.length, ← kb.length, ra.length, rb.length]; exact hlen
  exact PySem.W.keq_eq (knd := mixKind X.prog X.w) (r := true) ya yb da db (Nat.lt_of_succ_lt (hu_of hr)) (fun _ => hits_all kb ka (hits_D (P := X.prog) (w := X.w) (A := X.A) (s := s) (lv := []) ra rb hp)) (fin_bl I (c V0 os H _ _ (Same.refl _) r rwB q) (by simp [hl2]))
theorem cmo_neD (hr : Room lvl X.A) : CmO X (compareOp .NotEq) oNeD := by
  intro x y os k h F V0 H v u Q r rx ry c
  refine wO_mk fun pins s σ iv ov I r1 r2 => ?_
  obtain ⟨ks, hk, h⟩ := dctK_of h
  obtain ⟨ls, hl, ⟨hlen, hp⟩, q⟩ := dctK_of h
  obtain ⟨a, xs, rfl, ea, ra⟩ := dctOf_of r rx hk
  obtain ⟨b, ys, rfl, eb, rb⟩ := dctOf_of r ry hl
  obtain rfl : iv = Value.ref a := r1
  obtain rfl : ov = Value.ref b := r2
  obtain ⟨_, ya, va, ka, da⟩ := dk_rd I.hok ea
  obtain ⟨_, yb, vb, kb, db⟩ := dk_rd I.hok eb
  have hl2 : va.length = vb.length := by rw [← ka.length, ← kb.length, ra.length, rb.length]; exact hlen
  exact PySem.W.keq_ne (knd := mixKind X.prog X.w) (r := true) ya yb da db (Nat.lt_of_succ_lt (hu_of hr)) (fun _ => hits_all kb ka (hits_D (P := X.prog) (w := X.w) (A := X.A) (s := s) (lv := []) ra rb hp)) (fin_bl I (c V0 os H _ _ (Same.refl _) r rwB q) (by simp [hl2]))
end
end EV

set_option Elab.async false
set_option linter.all false
set_option maxRecDepth 100000
/-! E10: dict comprehensions. -/
namespace EV
open PySem PySem.Spec PyProof.Rows L2
/-- the turns over ws, acc made so far -/
def dcW (b : TrB) (t : TrT) (tk tv : TrE) (env : DEnv) (k : List (Key × D) → Os → Prop) (gd : Gd) : List D → List (Key × D) → Os → Prop
  | [], acc, os => wkX os fun os => gK gd os (k acc os)
  | w :: ws, acc, os => wkX os fun os => gK gd os (b w env fun env1 => t kx0 env1 os fun bo os1 => (bo = true → tk kx0 env1 os1 fun y os2 => tv kx0 env1 os2 fun z os3 => keyK y fun ky => dcW b t tk tv env k gd ws (putD acc ky z) os3) ∧ (bo = false → dcW b t tk tv env k gd ws acc os1))
def dcK (k : D → Os → Prop) : List (Key × D) → Os → Prop := fun ds os => ∀ p, k (.ref p) ((p, .dK ds) :: os)
theorem tdc_of {X : Cx} {kx : Kx} {env : DEnv} {os : Os} {k : D → Os → Prop} {kxe vxe iter tg : Expr} {ifs : List Expr} {scope : Scope} {vs : List Nat} {g : TG} {bn : TrB} {tt : TrT} {tek tev : TrE} {ti : TrI}
    (hb : BindOk X.K vs g bn) (hi : CmI X tg iter ti) (ht : ∀ s H C cl fp, CmTs (Bk X scope s H C cl fp) ifs tt) (hek : ∀ s H C cl fp, Cm (Bk X scope s H C cl fp) kxe tek) (he : ∀ s H C cl fp, Cm (Bk X scope s H C cl fp) vxe tev)
    (h : ti kx env os fun ws gd os1 => ws.length ≤ sizeLine ∧ dcW bn tt tek tev (wipeE env vs) (dcK k) gd ws [] os1) {F V0 H : Hp} {σ : L2.St} {Q : VK} {W : WX} (r : Rel X.K F V0 os H) (sr : SR X.K V0 σ env) (ek : XkOk X F V0 σ kx W)
    (c : ∀ (V1 : Hp) (os1 : Os) (H1 : Hp) (v : V) (w : D), Same V0 V1 → Rel X.K F V1 os1 H1 → Rp X.K V1 v w → k w os1 → Q v H1) :
    tDc (wPI X tg iter) g (fun σ H Q => ∀ s0 H0 C cl fp, wTs (Bk X scope s0 H0 C cl fp) ifs σ H Q) (fun σ H Q => ∀ s0 H0 C cl fp, wE (Bk X scope s0 H0 C cl fp) kxe σ H Q) (fun σ H Q => ∀ s0 H0 C cl fp, wE (Bk X scope s0 H0 C cl fp) vxe σ H Q) vs σ H Q := by
  refine hi _ _ _ _ h F V0 H σ _ W r sr ek fun V1 os1 H1 J ws gd s1 r1 gi ⟨hz, q⟩ => ?_
  intro L hL
  have hFL := r1.fr.free hL
  have hVL := r1.vi.free hL
  -- the list in the frame
  have put : ∀ (acc : List (Key × V)) (V2 : Hp) (os2 : Os) (H2 : Hp), Rel X.K F V2 os2 H2 → H2 L = none → Rel X.K (upd F L (.dK acc)) V2 os2 (upd H2 L (.dK acc)) := by
    intro acc V2 os2 H2 r2 hn
    have f2 := r2.fr.free hn
    have v2 := r2.vi.free hn
    refine ⟨fun a o e => ?_, fun a o e => ?_, fun a o e => ?_, fun p hp => ?_, r2.nd⟩
    · by_cases ha : a = L
      · subst ha; rw [upd_same] at e ⊢; exact e
      · rw [upd_ne ha] at e ⊢; exact r2.fr a o e
    · rw [upd_ne (ne_of_none e v2)]
      exact r2.vi a o e
    · by_cases ha : a = L
      · subst ha; exact v2
      · rw [upd_ne ha] at e; exact r2.fv a o e
    · obtain ⟨h1, h2, ho, h3, h4⟩ := r2.own p hp
      have ne := ne_of_none h3 hn
      exact ⟨by rw [upd_ne ne]; exact h1, h2, ho, by rw [upd_ne ne]; exact h3, h4⟩
  have grow : ∀ (acc acc' : List (Key × V)) (V2 : Hp) (os2 : Os) (H2 : Hp), Rel X.K (upd F L (.dK acc)) V2 os2 H2 → Rel X.K (upd F L (.dK acc')) V2 os2 (upd H2 L (.dK acc')) := by
    intro acc acc' V2 os2 H2 r2
    have v2 : V2 L = none := r2.fv L _ upd_same
    refine ⟨fun a o e => ?_, fun a o e => ?_, fun a o e => ?_, fun p hp => ?_, r2.nd⟩
    · by_cases ha : a = L
      · subst ha; rw [upd_same] at e ⊢; exact e
      · rw [upd_ne ha] at e ⊢; exact r2.fr a o (by rw [upd_ne ha]; exact e)
    · rw [upd_ne (ne_of_none e v2)]
      exact r2.vi a o e
    · by_cases ha : a = L
      · subst ha; exact v2
      · rw [upd_ne ha] at e; exact r2.fv a o (by rw [upd_ne ha]; exact e)
    · obtain ⟨h1, h2, ho, h3, h4⟩ := r2.own p hp
      have ne : p.1 ≠ L := fun z => by rw [z, upd_same] at h1; cases h1
      exact ⟨by rw [upd_ne ne] at h1 ⊢; exact h1, h2, ho, by rw [upd_ne ne]; exact h3, h4⟩
  refine ⟨fun j m H2 => m = ws.length - j ∧ j ≤ ws.length ∧ ∃ (V2 : Hp) (os2 : Os) (av : List (Key × V)) (ad : List (Key × D)), Same V1 V2 ∧ Rel X.K (upd F L (.dK av)) V2 os2 H2 ∧ RpK X.K V2 av ad ∧ ad.length ≤ j ∧ dcW bn tt tek tev (wipeE env vs) (dcK k) gd (ws.drop j) ad os2,
    ⟨ws.length, rfl, Nat.zero_le _, V1, os1, [], [], Same.refl _, put [] V1 os1 H1 r1 hL, .nil, Nat.le_refl _, q⟩, ?_⟩
  rintro j m H2 ⟨rfl, hj, V2, os0, av, ad, s2, r0, ra2, hl2, q2⟩
  by_cases hlt : j < ws.length
  · rw [List.drop_eq_getElem_cons hlt] at q2
    obtain ⟨os2, hwk, q2⟩ := q2
    have r2 := r0.wk hwk
    obtain ⟨hG, q2⟩ := gK_ok q2
    refine .inr ⟨gi.go j (upd F L (.dK av)) V2 os2 H2 s2 r2 hG hlt, fun H3 => ∃ (V3 : Hp) (os3 : Os) (av3 : List (Key × V)) (ad3 : List (Key × D)), Same V1 V3 ∧ Rel X.K (upd F L (.dK av3)) V3 os3 H3 ∧ RpK X.K V3 av3 ad3 ∧ ad3.length ≤ j + 1 ∧ dcW bn tt tek tev (wipeE env vs) (dcK k) gd (ws.drop (j + 1)) ad3 os3,
      fun H3 q3 => ⟨ws.length - (j + 1), by omega, rfl, hlt, q3⟩, fun x' H' y => ?_⟩
    obtain ⟨V3, s3, r3, rw3⟩ := gi.yld j (upd F L (.dK av)) V2 os2 H2 x' H' ws[j] s2 r2 hG y (List.getElem?_eq_getElem hlt)
    refine hb (upd F L (.dK av)) V3 H' os2 σ _ x' ws[j] _ _ r3 rw3 ((sr_wipe (sr.mono s1) _).mono (s2.trans s3)) q2 fun σ2 env2 sr3 hw q2 => ⟨hw, fun s0 H0 C cl fp => ?_⟩
    refine ht s0 H0 C cl fp _ _ _ q2 (upd F L (.dK av)) V3 H' _ _ r3 sr3 fun V4 os4 H4 b s4 r4 q4 => ?_
    cases b with
    | false => exact iteF ⟨V4, os4, av, ad, (s2.trans s3).trans s4, r4, RpK.mono (s3.trans s4) ra2, Nat.le_succ_of_le hl2, q4.2 rfl⟩
    | true =>
      refine iteT fun s0 H0 C cl fp => ?_
      refine hek s0 H0 C cl fp _ _ _ _ (q4.1 rfl) (upd F L (.dK av)) V4 H4 _ _ _ r4 (sr3.mono s4) XkOk.none fun V5 os5 H5 y5 w5 s5 r5 rw5 q5 => ?_
      intro s0 H0 C cl fp
      refine he s0 H0 C cl fp _ _ _ _ q5 (upd F L (.dK av)) V5 H5 _ _ _ r5 ((sr3.mono s4).mono s5) XkOk.none fun V6 os6 H6 y6 w6 s6 r6 rw6 q6 => ?_
      obtain ⟨ky, rfl, q6⟩ := keyK_of rw5 q6
      have s36 := ((s3.trans s4).trans s5).trans s6
      have ra6 : RpK X.K V6 (putK av ky y6) (putD ad ky w6) := (RpK.mono s36 ra2).put ky rw6
      refine ⟨av, ky, rfl, r6.fr L _ upd_same, ?_, V6, os6, putK av ky y6, putD ad ky w6, s2.trans s36, grow av _ V6 os6 H6 r6, ra6, by have := putD_len ad ky w6; omega, q6⟩
      rw [ra2.length]
      omega
  · have e : j = ws.length := by omega
    subst e
    rw [List.drop_length] at q2
    obtain ⟨os2, hwk, q2⟩ := q2
    have r2 := r0.wk hwk
    obtain ⟨hG, q2⟩ := gK_ok q2
    refine .inl ⟨gi.stop _ (upd F L (.dK av)) V2 os2 H2 s2 r2 hG (Nat.le_refl _), ?_⟩
    have q2 : dcK k ad os2 := q2
    have v2 : V2 L = none := r2.fv L _ upd_same
    refine c V2 ((L, .dK ad) :: os2) H2 (.ref L) (.ref L) (s1.trans s2) ⟨fun a o e => r2.fr a o (by rw [upd_ne (ne_of_none e hFL)]; exact e), r2.vi, fun a o e => ?_, fun p hp => ?_, ?_⟩ (.ref L) (q2 L)
    · exact r2.fv a o (by rw [upd_ne (ne_of_none e hFL)]; exact e)
    · rcases List.mem_cons.mp hp with e | hp
      · subst e
        exact ⟨hFL, v2, _, r2.fr L _ upd_same, av, rfl, ra2⟩
      · obtain ⟨h1, h2, ho, h3, h4⟩ := r2.own p hp
        have ne : p.1 ≠ L := fun z => by rw [z, upd_same] at h1; cases h1
        exact ⟨by rw [upd_ne ne] at h1; exact h1, h2, ho, h3, h4⟩
    · rw [List.map_cons, List.nodup_cons]
      refine ⟨fun hm => ?_, r2.nd⟩
      obtain ⟨q, hq, e⟩ := List.mem_map.mp hm
      obtain ⟨h1, _⟩ := r2.own q hq
      have e' : q.1 = L := e
      rw [e', upd_same] at h1
      cases h1
@[irreducible] def dcX (b : TrB) (t : TrT) (tk tv : TrE) (env : DEnv) (k : List (Key × D) → Os → Prop) (gd : Gd) (ws : List D) (os : Os) : Prop := dcW b t tk tv env k gd ws [] os
theorem dcX_eq {b : TrB} {t : TrT} {tk tv : TrE} {env : DEnv} {k : List (Key × D) → Os → Prop} {gd : Gd} {ws : List D} {os : Os} : dcX b t tk tv env k gd ws os = dcW b t tk tv env k gd ws [] os := by unfold dcX; rfl
def eDc (vs : List Nat) (b : TrB) (ti : TrI) (tt : TrT) (tk tv : TrE) : TrE := fun kx env os k => ti kx env os fun ws gd os1 => ws.length ≤ sizeLine ∧ dcX b tt tk tv (wipeE env vs) (dcK k) gd ws os1
section
variable {X : Cx} {kxe vxe iter tge : Expr} {ifs : List Expr} {scope : Scope} {own : List (Str × Nat)} {pos : Pos} {g : TG} {bn : TrB} {tt : TrT} {tek tev : TrE} {ti : TrI}
theorem cm_dc (hc : X.calm = true) (hN : X.N.Nodup) (ok : BlkOk X.N X.env.scope scope own) (hb : BindOk X.K (own.map (·.2)) g bn)
    (hg : ∀ s H C cl fp, PG (Bk X scope s H C cl fp) tge g) (hi : CmI X tge iter ti) (ht : ∀ s H C cl fp, CmTs (Bk X scope s H C cl fp) ifs tt) (hek : ∀ s H C cl fp, Cm (Bk X scope s H C cl fp) kxe tek) (he : ∀ s H C cl fp, Cm (Bk X scope s H C cl fp) vxe tev)
    (hs : ∀ x, foldedSetIterable iter X.env x = pure x) : Cm X (.DictComp kxe vxe [⟨tge, iter, ifs, 0⟩] scope pos) (eDc (own.map (·.2)) bn ti tt tek tev) := by
  intro kx env os k h F V0 H σ Q W r sr ek c
  refine wE_of (pe_dc (X := X) (own := own) (wi := wPI X tge iter) (g := g) (tt := fun σ H Q => ∀ s0 H0 C cl fp, wTs (Bk X scope s0 H0 C cl fp) ifs σ H Q) (tk := fun σ H Q => ∀ s0 H0 C cl fp, wE (Bk X scope s0 H0 C cl fp) kxe σ H Q) (tv := fun σ H Q => ∀ s0 H0 C cl fp, wE (Bk X scope s0 H0 C cl fp) vxe σ H Q) hc hN wPI_pi ok
    hg (fun s0 H0 C cl fp => ⟨fun pins s σ H Q I q => wTs_pts.run pins s σ H Q I (q s0 H0 C cl fp)⟩) (fun s0 H0 C cl fp => ⟨fun pins s σ H Q I q => wE_pe.run pins s σ H Q I (q s0 H0 C cl fp)⟩) (fun s0 H0 C cl fp => ⟨fun pins s σ H Q I q => wE_pe.run pins s σ H Q I (q s0 H0 C cl fp)⟩) hs) ?_
  unfold eDc at h
  simp only [dcX_eq] at h
  exact tdc_of hb hi ht hek he h r sr ek c
end
theorem dcX_inv {b : TrB} {t : TrT} {tk tv : TrE} {env : DEnv} {k : List (Key × D) → Os → Prop} {gd : Gd} {ws : List D} {os : Os} (I : Nat → List (Key × D) → Os → Prop) (h0 : I 0 [] os)
    (hs : ∀ (j : Nat) (w : D) (acc : List (Key × D)) (os : Os) (N : List (Key × D) → Os → Prop), ws[j]? = some w → I j acc os → (∀ a o o2, WkO o o2 → I (j + 1) a o2 → N a o) →
      b w env fun env1 => t kx0 env1 os fun bo os1 => (bo = true → tk kx0 env1 os1 fun y os2 => tv kx0 env1 os2 fun z os3 => keyK y fun ky => N (putD acc ky z) os3) ∧ (bo = false → N acc os1))
    (hd : ∀ acc os, I ws.length acc os → k acc os) (hG : ∀ j acc os, I j acc os → gOk gd os) : dcX b t tk tv env k gd ws os := by
  rw [dcX_eq]
  have gen : ∀ (m j : Nat) (acc : List (Key × D)) (os os2 : Os), m = ws.length - j → j ≤ ws.length → WkO os os2 → I j acc os2 → dcW b t tk tv env k gd (ws.drop j) acc os := by
    intro m
    induction m with
    | zero =>
      intro j acc os os2 hm hj hw h
      have e : j = ws.length := by omega
      subst e
      rw [List.drop_length]
      exact ⟨os2, hw, gK_mk (hG _ acc os2 h) (hd acc os2 h)⟩
    | succ m ih =>
      intro j acc os os2 hm hj hw h
      have hlt : j < ws.length := by omega
      rw [List.drop_eq_getElem_cons hlt]
      exact ⟨os2, hw, gK_mk (hG j acc os2 h) (hs j ws[j] acc os2 (fun a o => dcW b t tk tv env k gd (ws.drop (j + 1)) a o) (List.getElem?_eq_getElem hlt) h fun a o o2 hw2 z => ih (j + 1) a o o2 (by omega) hlt hw2 z)⟩
  exact gen _ 0 [] os os rfl (Nat.zero_le _) (.refl _) h0
end EV

set_option Elab.async false
set_option linter.all false
set_option maxRecDepth 100000
/-! E11: more methods of lists. -/
namespace EV
open PySem PySem.Spec PyProof.Rows L2
theorem idx_ne : ∀ (ns : List Int) (i : Int) (m : Nat), m < ns.idxOf i → ns[m]? ≠ some i
  | [], i, m, h => by simp at h
  | a :: r, i, 0, h => by
    rw [List.idxOf_cons] at h
    intro e
    have e : a = i := by simpa using e
    rw [e] at h
    simp at h
  | a :: r, i, m + 1, h => by
    rw [List.idxOf_cons] at h
    rw [List.getElem?_cons_succ]
    by_cases e : a = i
    · rw [e] at h; simp at h
    · rw [show (a == i) = false from beq_eq_false_iff_ne.mpr e] at h
      exact idx_ne r i m (by simpa using h)
section
variable {X : Cx} {kx : Kx} {env : DEnv} {os : Os} {k : D → Os → Prop} {pos pos' apos cpos tpos : Pos} {o e f i value : Expr} {to te tf ti tv : TrE} {lvl : Nat}
/-- a list at hand, data or owned -/
def lstK (w : D) (os : Os) (k : List D → Prop) : Prop := match w with
  | .lst ds => k ds
  | .ref p => ∃ (n : Nat) (ws : List D), os[n]? = some (p, OO.lst ws) ∧ k ws
  | _ => False
theorem lstK_of {w : D} {os : Os} {kk : List D → Prop} (h : lstK w os kk) : ∃ ds, LstOf os w ds ∧ kk ds := by
  unfold lstK at h
  split at h
  · exact ⟨_, rfl, h⟩
  · obtain ⟨n, ws, ho, q⟩ := h
    exact ⟨ws, ⟨n, ho⟩, q⟩
  · exact h.elim
/-- its ints -/
def lstI (w : D) (os : Os) (k : List Int → Prop) : Prop := ∃ ns : List Int, LstOf os w (ns.map D.int) ∧ k ns
/-- xs.count(e): ints -/
def eLCnt (to te : TrE) : TrE := fun kx env os k => to kx env os fun w os1 => lstH w os1 (te kx env os1 fun y os2 => match y with
  | .int i => ∃ ns : List Int, LstOf os2 w (ns.map D.int) ∧ k (.int (ns.count i : Nat)) os2
  | _ => False)
where lstH (w : D) (os : Os) (k : Prop) : Prop := lstK w os fun _ => k
theorem tyL_of {F V0 H : Hp} {v : V} {w : D} {q : Prop} (r : Rel X.K F V0 os H) (rv : Rp X.K V0 v w) (h : lstK w os fun _ => q) : ∃ a, v = .ref a ∧ tyV X.K "list" (.ref a) H ∧ q := by
  obtain ⟨ds, hd, q⟩ := lstK_of h
  obtain ⟨a, vs, rfl, h1, h2⟩ := lstOf_of r rv hd
  exact ⟨a, rfl, .inl ⟨rfl, vs, h1⟩, q⟩
theorem cm_lcnt (h : Cm X o to) (h2 : Cm X e te) (hbase : attributeBase o "count" X.env (eval o X.env) = eval o X.env)
    (hfew : ((backTo cpos (starEach [e] X.env)).all (fun x => !x.1) && (backToKw cpos (keywordEach [] X.env)).all (fun x => x.1.isSome)
      && decide ([e].length + ([] : List Keyword).length + (if ([] : List Keyword).isEmpty then 0 else 1) < 30)) = true)
    (hline : (apos.endLine == cpos.line) = true) (hs : starEach [e] X.env = (false, eval e X.env) :: starEach [] X.env) :
    Cm X (.Call (.Attribute o "count" apos) [e] [] cpos) (eLCnt to te) := by
  intro kx env os k q F V0 H σ Q W r sr ek c
  refine wE_of (pe_bm PySem.F.plainAttrs_list PySem.F.slot_list_count PySem.F.type_list_count mt_lcount wE_pe (pa_cons wE_pe pa_nil hs) hbase hfew hline hs) ?_
  refine h _ _ _ _ q F V0 H σ _ W r sr ek fun V1 os1 H1 v w s1 r1 rv q => ?_
  obtain ⟨a, rfl, ty, q⟩ := tyL_of r1 rv q
  refine ⟨ty, ?_⟩
  refine h2 _ _ _ _ q F V1 H1 σ _ W r1 (sr.mono s1) (ek.mono s1) fun V2 os2 H2 u y s2 r2 ru q => ?_
  split at q
  · obtain ⟨ns, hl, q⟩ := q
    obtain ⟨a', vs, e', h3, h4⟩ := lstOf_of r2 (rv.mono s2) hl
    cases e'
    have e3 := rpA_int h4
    subst e3
    cases ru
    exact ⟨a, ns, _, rfl, rfl, h3, c V2 os2 H2 _ _ (s1.trans s2) r2 rwI q⟩
  · exact q.elim
/-- xs.index(e): ints -/
def eLIdx (to te : TrE) : TrE := fun kx env os k => to kx env os fun w os1 => eLCnt.lstH w os1 (te kx env os1 fun y os2 => match y with
  | .int i => ∃ ns : List Int, LstOf os2 w (ns.map D.int) ∧ i ∈ ns ∧ k (.int (ns.idxOf i : Nat)) os2
  | _ => False)
theorem cm_lidx (h : Cm X o to) (h2 : Cm X e te) (hbase : attributeBase o "index" X.env (eval o X.env) = eval o X.env)
    (hfew : ((backTo cpos (starEach [e] X.env)).all (fun x => !x.1) && (backToKw cpos (keywordEach [] X.env)).all (fun x => x.1.isSome)
      && decide ([e].length + ([] : List Keyword).length + (if ([] : List Keyword).isEmpty then 0 else 1) < 30)) = true)
    (hline : (apos.endLine == cpos.line) = true) (hs : starEach [e] X.env = (false, eval e X.env) :: starEach [] X.env) :
    Cm X (.Call (.Attribute o "index" apos) [e] [] cpos) (eLIdx to te) := by
  intro kx env os k q F V0 H σ Q W r sr ek c
  refine wE_of (pe_bm PySem.F.plainAttrs_list PySem.F.slot_list_index PySem.F.type_list_index mt_index wE_pe (pa_cons wE_pe pa_nil hs) hbase hfew hline hs) ?_
  refine h _ _ _ _ q F V0 H σ _ W r sr ek fun V1 os1 H1 v w s1 r1 rv q => ?_
  obtain ⟨a, rfl, ty, q⟩ := tyL_of r1 rv q
  refine ⟨ty, ?_⟩
  refine h2 _ _ _ _ q F V1 H1 σ _ W r1 (sr.mono s1) (ek.mono s1) fun V2 os2 H2 u y s2 r2 ru q => ?_
  split at q
  · rename_i i
    obtain ⟨ns, hl, hi, q⟩ := q
    obtain ⟨a', vs, e', h3, h4⟩ := lstOf_of r2 (rv.mono s2) hl
    cases e'
    have e3 := rpA_int h4
    subst e3
    cases ru
    have hj := List.idxOf_lt_length_iff.mpr hi
    refine ⟨a, _, .int i, ns.idxOf i, .int i, rfl, rfl, h3, rfl, List.all_eq_true.mpr fun x hx => ?_, ?_, ?_, fun m z' hm hz => ?_, c V2 os2 H2 _ _ (s1.trans s2) r2 rwI q⟩
    · obtain ⟨n, _, rfl⟩ := List.mem_map.mp hx; rfl
    · rw [List.getElem?_map, List.getElem?_eq_getElem hj, List.getElem_idxOf hj]; rfl
    · simp [eqV]
    · rw [List.getElem?_map] at hz
      obtain ⟨n, hn, rfl⟩ := Option.map_eq_some_iff.mp hz
      have ne : n ≠ i := fun e => idx_ne ns i m hm (by rw [hn, e])
      simpa [eqV] using ne
  · exact q.elim
/-- a, b = x, y: plain local names, stored from the right -/
def sPar (i j : Nat) (tl : TrA) : TrS := fun N R env os => tl (R.xk env) env os fun ws os1 => match ws with
  | [v, w] => N (setE (setE env i (some v)) j (some w)) os1
  | _ => False
theorem c1_par {i j : Nat} {x y : Str} {a b : Expr} {tl : TrA} {px py pt : Pos} {kt k2 pt2} (hc : X.calm = true) (hN : X.N.Nodup) (hi : X.N[i]? = some x) (hj : X.N[j]? = some y) (hij : i ≠ j)
    (hx : X.env.scope.names.lookup x = some .local) (hy : X.env.scope.names.lookup y = some .local) (ha : CmA X [a, b] tl 2)
    (hw : swappedStores [.Tuple [.Name x px, .Name y py] kt pt] (.Tuple [a, b] k2 pt2) X.env = pure (some [x, y]))
    (hs : swapsWithSole [.Tuple [.Name x px, .Name y py] kt pt] (.Tuple [a, b] k2 pt2) pos.line X.env = pure false) : CmS X (.Assign [.Tuple [.Name x px, .Name y py] kt pt] (.Tuple [a, b] k2 pt2) pos) (sPar i j tl) := by
  intro N R env os q F V0 H σ D W r sr ek
  refine wS1_of (ps_par hc hN hi hj hij hx hy wA_pa hw hs) ?_
  refine ha.2 _ _ _ _ q F V0 H σ _ W r sr (ek.xk sr) fun V1 os1 H1 vs ws s1 r1 rs ⟨_, q⟩ => ?_
  split at q
  · obtain ⟨v, w, rfl, rv, rw'⟩ := rs.two
    exact ⟨v, w, rfl, ek.nx V1 os1 H1 _ _ s1 r1 (sr_setE (sr_setE (sr.mono s1) rv i) rw' j) q⟩
  · exact q.elim
/-- xs.extend(ys) -/
def eExt (to te : TrE) : TrE := fun kx env os k => to kx env os fun w os1 => onL w os1 fun p => te kx env os1 fun y os2 => ∃ (m : Nat) (us ds : List D), os2[m]? = some (p, .lst us) ∧ LstOf os2 y ds ∧ us.length + ds.length ≤ sizeLine ∧ k .non (os2.set m (p, .lst (us ++ ds)))
end
end EV

set_option Elab.async false
set_option linter.all false
set_option maxRecDepth 100000
/-! E12: exceptions of own classes: made, raised, caught. -/
namespace EV
open PySem PySem.Spec PyProof.Rows L2
/-- an own class that has ValueError's __init__ -/
structure InhC (K : PySem.W.Frag) (C : Addr) : Prop where
  rd : PySem.W.readsIn K C (.type "type") = true
  tyC : PySem.W.typeIn K (.ref C) = some (.type "type")
  ga : PySem.W.specialIn K (.ref C) "__getattribute__" = some (some (.builtin "type.__getattribute__"))
  at_ : PySem.W.findCls K (.ref C) (.type "type") "__init__" = some (.val (.builtin "ValueError.__init__"))
section
variable {X : Cx} {o e : Expr} {es : List Expr} {to te : TE} {ta : TA} {f : Str} {p p' p1 p2 pos : Pos}
theorem pe_clsinit {pl : Sem Bool} {x : Str} {D : Addr} (hg : Gl X x) (hm : X.mg x = some (.ref D)) (hdb : (x == ("__debug__" : Str)) = false) (T : InhC X.K D) (ha : PA X (e :: es) ta)
    (hc : eval (.Call (.Attribute (.Name x p1) "__init__" p2) (e :: es) [] pos) X.env = (do
      let ov ← eval (.Name x p1) X.env
      standAt p2.atName
      let (f, first) ← holding [ov] (getMethod ov "__init__" pl)
      callWith pos f first (backTo pos (starEach (e :: es) X.env)) (backToKw pos (keywordEach [] X.env))) := by rfl)
    (he : starEach (e :: es) X.env = (false, eval e X.env) :: starEach es X.env := by rfl) (hpl : (backTo pos (starEach es X.env)).any (·.1) = false := by rfl) :
    PE X (.Call (.Attribute (.Name x p1) "__init__" p2) (e :: es) [] pos) (tVeI X.K ta) := by
  refine ⟨fun pins s σ H Q I h => ?_⟩
  obtain ⟨m, fr⟩ := I.fr
  refine PySem.W.methodCall_KW (ld_glob I hg hm (PySem.W.method_of_cls fr I.ok.mod.kin T.ga (PySem.W.cls_val fr I.ok.mod.kin T.tyC T.rd T.at_ (by decide +kernel) ?_)) hdb) hc
  show wpAny _ _ (callWith pos (.builtin "ValueError.__init__") [] (backTo pos (starEach (e :: es) X.env)) []) _ X.xe _
  refine PyProof.Rows.callWith_method1 (thn (ha.run pos pins _ σ H _ (I.tok _) h) fun us s1 hh => ?_) he hpl
  obtain ⟨vs, H1, I1, r1, a, C, ws, ev, hl, O, ea, q⟩ := hh
  subst ev
  cases r1 with
  | @cons _ u0 _ ur ra rr => cases (show u0 = Value.ref a from ra); exact oinit_ok O I1 ea (by have := Paired.length rr; have := sizeLine_eq; omega) fun s' J => ⟨.non, H1, J, rfl, q⟩
end
/-- what an own exception's __init__(self, x) does: D.__init__(self, ..); self.f = x -/
def spInit (K : PySem.W.Frag) (C : Addr) (fx : Str) : Sp := fun vs H Q _ => ∃ a v, vs = [.ref a, v] ∧ OexC K C ∧ PySem.W.findIn K (.ref C) fx = some none ∧ H a = some (exo a C none) ∧ ∀ d, H d = none → d ≠ a → Q .non (upd (upd H d (exd d [(fx, v)])) a (exo a C (some d)))
section
variable {P : Program} {w : World} {K : PySem.W.Frag} {mg : Str → Option Value} {base : Heap}
theorem okInit {x qual pn fx dn ms : Str} {st : Stmt} {f D C : Addr} {fd : FuncData} {p1 p2 p3 p4 p5 p6 q1 q2 q3 q4 : Pos} {j} (F : Fun K x qual st f fd) (sc : FnScope ["self", pn] ["self", pn] (defScope st))
    (hb : defBody st = [.Expr (.Call (.Attribute (.Name dn p1) "__init__" p2) [.Name "self" p3, .Constant (.str ms) j p4] [] p5) p6, .Assign [.Attribute (.Name "self" q1) fx q2] (.Name pn q3) q4])
    (gd : (defScope st).names.lookup dn = some .globalImplicit) (hm : mg dn = some (.ref D)) (hdb : (dn == ("__debug__" : Str)) = false) (T : InhC K D)
    (hcl : ∀ env : Env, ∃ pl : Sem Bool, eval (.Call (.Attribute (.Name dn p1) "__init__" p2) [.Name "self" p3, .Constant (.str ms) j p4] [] p5) env = (do
      let ov ← eval (.Name dn p1) env
      standAt p2.atName
      let (f, first) ← holding [ov] (getMethod ov "__init__" pl)
      callWith p5 f first (backTo p5 (starEach [.Name "self" p3, .Constant (.str ms) j p4] env)) (backToKw p5 (keywordEach [] env))))
    (v1 : Vis (defScope st) "self") (v2 : Vis (defScope st) pn) (nd2 : (pn == ("__debug__" : Str)) = false) (nc2 : (pn == ("__classdict__" : Str)) = false) :
    FnOk P w K mg base (L2.CX P w) 1 f fd ["self", pn] (spInit K C fx) := by
  refine F.okX sc (fun vs H Q E h => by obtain ⟨a, v, rfl, _⟩ := h; rfl) fun cdv A outer s H vs Q E hr hsp => ?_
  obtain ⟨a, v, rfl, O, hno, ha, q⟩ := hsp
  rw [hb]
  obtain ⟨pl, hcl⟩ := hcl (cxOf (L2.CX P w) P w K mg base ["self", pn] qual (defScope st) f cdv A outer s H E).env
  refine ⟨_, pss_cons (ps_expr (pe_clsinit gd hm hdb T (pa_cons (pe_var (i := 0) rfl v1 (by decide +kernel) (by decide +kernel)) (pa_cons pe_str pa_nil rfl) rfl) hcl rfl rfl) rfl) (pss_one (ps_ost (pe_var (i := 0) rfl v1 (by decide +kernel) (by decide +kernel)) (pe_var (i := 1) rfl v2 nd2 nc2) rfl)), ?_⟩
  refine ⟨.ref a, rfl, ?_⟩
  refine ⟨a, C, [.str ms], rfl, (by show 1 ≤ 1000; decide), O, ha, ?_⟩
  refine ⟨v, rfl, .ref a, rfl, a, C, rfl, O, hno, .inl ⟨ha, fun d hd hda => ?_⟩⟩
  exact q d hd hda
/-- an own exception's class, by its name -/
structure CalE (P : Program) (w : World) (K : PySem.W.Frag) (mg : Str → Option Value) (base : Heap) (x : Str) (C : Addr) (fn : Nat) : Prop where
  ex : ∃ (fI : Addr) (fd : FuncData) (ps : List Str), FnOk P w K mg base (L2.CX P w) 1 fI fd ps (spInit K C (nm fn)) ∧ Binds K fd ps [] ∧ PySem.W.findIn K (.ref C) "__init__" = some (some (.ref fI)) ∧ PySem.W.typeIn K (.ref fI) = some (.type "function") ∧ mg x = some (.ref C)
  ox : OexC K C
  no : PySem.W.findIn K (.ref C) (nm fn) = some none
end
/-- raise C(e) -/
def sRz (C : Addr) (fn : Nat) (te : TrE) : TrS := fun N R env os => te (R.xk env) env os fun w os1 => R.ex ⟨C, [(fn, w)]⟩ env os1
theorem c1_rz {X : Cx} {C : Addr} {fn : Nat} {x : Str} {e : Expr} {te : TrE} {p pos pos2 : Pos} (hc : X.calm = true) (CE : CalE X.prog X.w X.K X.mg X.base x C fn) (hr : Room 2 X.A) (hg : Gl X x) (h : Cm X e te) (hdb : (x == ("__debug__" : Str)) = false)
    (he : starEach [e] X.env = (false, eval e X.env) :: starEach [] X.env) (hpl : (backTo pos (starEach [] X.env)).any (·.1) = false) : CmS X (.Raise (some (.Call (.Name x p) [e] [] pos)) none pos2) (sRz C fn te) := by
  obtain ⟨⟨fI, fd, ps, G, hb, hi, ht, hm⟩, O, hno⟩ := CE
  intro N R env os q F V0 H σ D W r sr ek
  refine wS1_of (ps_raise hc ek.tk (pmk_oex O hi ht G hr hb .nil passL hg hm (pa_cons wE_pe pa_nil he) hdb he hpl)) ?_
  refine h _ _ _ _ q F V0 H σ _ W r sr (ek.xk sr) fun V1 os1 H1 v w' s1 r1 rv q => ?_
  refine ⟨(by show 1 ≤ 1000; decide), fun a ha => ?_⟩
  refine ⟨a, v, rfl, O, hno, upd_same, fun d hd hda => ?_⟩
  have hd1 : H1 d = none := by rw [upd_ne hda] at hd; exact hd
  refine ⟨rfl, d, [(nm fn, v)], upd_same, by rw [upd_ne hda, upd_same], hd1, ?_⟩
  have eH : upd (del (upd (upd (upd H1 a (exo a C none)) d (exd d [(nm fn, v)])) a (exo a C (some d))) a) d (.xd [(nm fn, v)]) = upd H1 d (.xd [(nm fn, v)]) := by
    funext b
    by_cases hbd : b = d
    · subst hbd; rw [upd_same, upd_same]
    · rw [upd_ne hbd, upd_ne hbd]
      by_cases hba : b = a
      · subst hba; rw [del_same, ha]
      · rw [del_ne hba, upd_ne hba, upd_ne hbd, upd_ne hba]
  rw [eH]
  have sv : Same V1 (upd V1 d (.xd [(nm fn, v)])) := same_upd (r1.vi.free hd1)
  refine ek.ex (upd V1 d (.xd [(nm fn, v)])) os1 _ σ env (.ref C) (some d) ⟨C, [(fn, w')]⟩ (s1.trans sv) (r1.addV hd1 _) ((sr.mono s1).mono sv) ⟨rfl, d, _, rfl, upd_same, .cons ⟨rfl, rv.mono sv⟩ .nil⟩ q

/-! ### try, except C as n -/
def sTry (i : Nat) (C : Addr) (fn : Nat) (tb : TrS) (ts : Addr → Addr → TrS) : TrS := fun N R env os =>
  tb N { R with ex := fun x env1 os1 => match x.fs with
    | [(f, w)] => x.C = C ∧ f = fn ∧ ∀ a dx, ts a dx (fun e o => N (setE e i none) o) { rt := R.rt, bk := fun e o => R.bk (setE e i none) o, ct := fun e o => R.ct (setE e i none) o } (setE env1 i (some (.exn a dx C fn w))) os1
    | _ => False } env os
theorem c1_try {X : Cx} {i fn : Nat} {C : Addr} {x n : Str} {body suite : List Stmt} {b₀ : Stmt} {np pos pos' : Pos} {tb : TrS} {ts : Addr → Addr → TrS} (hs : X.stack = X.env :: X.outer) (hf : X.env.frame = some X.env.locals) (hN : X.N.Nodup) (hi : X.N[i]? = some n) (hln : X.env.kindOf n = some .local)
    (hg : Gl X x) (hdb : (x == ("__debug__" : Str)) = false) (hm : X.mg x = some (.ref C)) (hx : PySem.W.exmOne X.K (.ref C) (.ref C) = some true)
    (hb : ∀ (pn : List (Addr × Obj)) (xe : Value → Shared → Prop), PassesOwn (model X.prog X.w) X.A X.env xe → CmSs (X.tr pn xe) body tb)
    (hsu : ∀ (a : Addr) (oe : Obj) (dx : Addr) (pn : List (Addr × Obj)), Zc (.ref C) (some dx) oe → (∃ vs, oe.data = .fields vs) → CmSs (X.suite a ((a, oe) :: pn)) (b₀ :: suite) (ts a dx)) :
    CmS X (.Try body [.ExceptHandler (some (.Name x np)) (some n) (b₀ :: suite) pos'] [] [] pos) (sTry i C fn tb ts) := by
  intro N R env os q F V0 H σ D W r sr ek
  refine wS1_of (ps_try_as (i := i) (tb := fun W D σ H => ∀ (pn : List (Addr × Obj)) (xe : Value → Shared → Prop), Takes (X.tr pn xe) W → PassesOwn (model X.prog X.w) X.A X.env xe → wSs (X.tr pn xe) body D σ H)
    (ts := fun a cls d D σ H => ∀ (oe : Obj) (pn : List (Addr × Obj)), Zc cls d oe → (∃ vs, oe.data = .fields vs) → wSs (X.suite a ((a, oe) :: pn)) (b₀ :: suite) D σ H)
    hs hf hN hi hln ⟨hg, hdb, .inl hm⟩ ek.tk (fun W pn xe tk po => ⟨fun pins s σ H D I q => wSs_pss.run pins s σ H D I (q pn xe tk po)⟩) (fun a oe cls d pn hz hf => ⟨fun pins s σ H D I q => wSs_pss.run pins s σ H D I (q oe pn hz hf)⟩)) ?_
  intro pn xe tk po
  refine hb pn xe po _ _ _ _ q F V0 H σ D _ r sr ⟨ek.nx, ek.rt, ek.bk, ek.ct, tk, fun V1 os1 H1 σ1 env1 cls d x s1 r1 sr1 exr qx => ?_⟩
  obtain ⟨ec, dx, vf, ed, ev, rf⟩ := exr
  have qx : (match x.fs with
    | [(f, w)] => x.C = C ∧ f = fn ∧ ∀ a dx, ts a dx (fun e o => N (setE e i none) o) { rt := R.rt, bk := fun e o => R.bk (setE e i none) o, ct := fun e o => R.ct (setE e i none) o } (setE env1 i (some (.exn a dx C fn w))) os1
    | _ => False) := qx
  split at qx
  · rename_i f w' hfs
    obtain ⟨eC, rfl, qx⟩ := qx
    rw [hfs] at rf
    cases rf with
    | @cons p _ ps _ hp rt =>
      cases rt
      obtain ⟨pn1, pv⟩ := p
      obtain ⟨e1, rv⟩ := hp
      have e1 : pn1 = nm f := e1
      subst e1
      rw [ec, ed, eC]
      refine ⟨true, hx, fun _ a ha oe pn2 hz hfl => ?_, fun z => nomatch z⟩
      refine hsu a oe dx pn2 hz hfl _ _ _ _ (qx a dx) F V1 H1 _ _ (fun _ _ _ _ => False) r1 (sr_setE sr1 (.exn ev rv) i) ⟨fun V2 o2 H2 σ2 e2 s2 r2 sr2 q2 => ?_, fun V2 o2 H2 v w s2 r2 rv2 q2 => ?_, fun V2 o2 H2 σ2 e2 s2 r2 sr2 q2 => ?_, fun V2 o2 H2 σ2 e2 s2 r2 sr2 q2 => ?_, takes0, fun _ _ _ _ _ _ _ _ _ _ _ _ z => z⟩
      · exact ek.nx V2 o2 H2 _ _ (s1.trans s2) r2 (set_none sr2 i) q2
      · exact ek.rt V2 o2 H2 v w (s1.trans s2) r2 rv2 q2
      · exact ek.bk V2 o2 H2 _ _ (s1.trans s2) r2 (set_none sr2 i) q2
      · exact ek.ct V2 o2 H2 _ _ (s1.trans s2) r2 (set_none sr2 i) q2
  · exact qx.elim
/-- n.f, in the suite -/
def eXf (a dx C : Addr) (fn i : Nat) : TrE := fun _ env os k => match getE env i with
  | some (.exn a' dx' C' f' w) => a' = a ∧ dx' = dx ∧ C' = C ∧ f' = fn ∧ k w os
  | _ => False
theorem cm_xf {X : Cx} {a dx C : Addr} {fn i : Nat} {oe : Obj} {pn : List (Addr × Obj)} {x : Str} {fx : Str} {p pos : Pos} (hfx : fx = nm fn) (T : XfC X.K C) (hno : PySem.W.findIn X.K (.ref C) fx = some none) (hz : Zc (.ref C) (some dx) oe) (hf : ∃ vs, oe.data = .fields vs)
    (hN : X.N[i]? = some x) (hv : Vis X.env.scope x) (hd : (x == ("__debug__" : Str)) = false) (hcd : (x == ("__classdict__" : Str)) = false) (hb : ∀ env, attributeBase (.Name x p) fx env (eval (.Name x p) env) = eval (.Name x p) env) :
    Cm (X.suite a ((a, oe) :: pn)) (.Attribute (.Name x p) fx pos) (eXf a dx C fn i) := by
  subst hfx
  intro kx env os k h F V0 H σ Q W r sr ek c
  unfold eXf at h
  split at h
  · rename_i a' dx' C' f' w he
    obtain ⟨rfl, rfl, rfl, rfl, q⟩ := h
    obtain ⟨v, e1, r1⟩ := sr.2 i _ (getE_eq _ _ _ he)
    cases r1 with
    | exn h1 h2 =>
      rename_i u
      refine wE_of (pe_xf T hno hz hf (pe_var (X := X.suite a' ((a', oe) :: pn)) hN hv hd hcd) (hb _)) ?_
      exact ⟨_, e1, rfl, rfl, _, _, u, rfl, r.vi _ _ h1, by simp [List.lookup], c V0 os H u w (Same.refl _) r h2 q⟩
  · exact h.elim
/-- isinstance(n, T), in the suite -/
def cIsE (a dx C : Addr) (fn : Nat) (dT : D) (b : Bool) : TrC := fun ws os k => match ws with
  | [.exn a' dx' C' f' _, t] => a' = a ∧ dx' = dx ∧ C' = C ∧ f' = fn ∧ t = dT ∧ k (.bl b) os
  | _ => False
theorem cmc_isE {X : Cx} {a dx C : Addr} {fn : Nat} {oe : Obj} {pn : List (Addr × Obj)} {dT : D} {cv : Value} {b : Bool} (T : ExcC X.K C) (hz : Zc (.ref C) (some dx) oe) (hf : ∃ vs, oe.data = .fields vs)
    (hT : (∃ t, dT = .ref t ∧ cv = .ref t) ∨ ∃ m, dT = .ty m ∧ cv = .type m) (hk : PySem.W.kitOne X.K (.ref C) cv = some b) : CmC (X.suite a ((a, oe) :: pn)) (.builtin "isinstance") (cIsE a dx C fn dT b) := by
  intro ws os k h
  unfold cIsE at h
  split at h
  · rename_i a' dx' C' f' w' t
    obtain ⟨rfl, rfl, rfl, rfl, rfl, q⟩ := h
    intro F V0 H vs Q r rs c pins s σ us I rv
    obtain ⟨v, v2, rfl, rx, rt⟩ := rs.two
    cases rx with
    | exn h1 h2 =>
      cases rv with
      | cons ru rv =>
        cases rv with
        | @cons _ u2 _ _ ru2 rv2 =>
        cases rv2
        cases ru
        have ec : u2 = cv := by
          rcases hT with ⟨t, rfl, rfl⟩ | ⟨m, rfl, rfl⟩
          · obtain rfl := rt.toRef; exact ru2
          · cases rt; exact ru2
        subst ec
        obtain ⟨hget, _⟩ := I.pin (a', oe) (List.mem_append.mpr (.inl List.mem_cons_self))
        obtain ⟨vs, hv⟩ := hf
        have hx : ObjOk X.prog X.w H s.heap dx' (.xd [(nm f', _)]) := I.hok dx' _ (r.vi _ _ h1)
        obtain ⟨mA, hns, _⟩ := hx
        obtain ⟨od, ho, _⟩ := lookIn_ns hns
        have J : PySem.W.InstAt s.heap a' oe C' (some od) := ⟨hget, hz.1, by unfold PySem.W.notCls; rw [hv] <;> rfl, by rw [hz.2]; exact ho⟩
        exact PySem.W.kia_one (PySem.W.kitx_exc (by obtain ⟨cd, hc, _⟩ := PySem.W.any_some T.hd; rw [hc]; rfl) T.hg T.hk T.hs T.ha T.hn T.ht T.hm) I.kIn J hk (fun z => nomatch z) fun tk => ⟨.bl b, H, I.kept (t' := tk) fun _ _ z => z, rfl, c V0 os H _ _ (Same.refl _) r rwB q⟩
  · exact h.elim
end EV

set_option Elab.async false
set_option linter.all false
set_option maxRecDepth 100000
/-! E13: enumerate over owned lists. -/
namespace EV
open PySem PySem.Spec PyProof.Rows L2
theorem gi_enum_own {K : PySem.W.Frag} {V1 : Hp} {p : Addr} {ds : List D} : GI K V1 (Ite K p) (enumW 0 ds) (some (p, ds)) := by
  have key : ∀ (F V2 : Hp) (os : Os) (H : Hp), Rel K F V2 os H → gOk (some (p, ds)) os → ∃ vs, SqL K H p vs ∧ RpA K V2 vs ds := fun F V2 os H r2 ⟨n, ho⟩ => by
    obtain ⟨_, _, ho', h3, vs, rfl, h4⟩ := r2.own _ (List.mem_of_getElem? ho)
    exact ⟨vs, SqL.of h3, h4⟩
  refine ⟨fun i F V2 os H s2 r2 g hi => ?_, fun i F V2 os H s2 r2 g hi => ?_, fun i F V2 os H x H' w s2 r2 g y e => ?_⟩
  · obtain ⟨vs, h, ra⟩ := key F V2 os H r2 g
    have hl := ra.length
    rw [enumW_len] at hi
    exact ⟨vs, vs[i]'(by omega), h, by simp [hl, hi]⟩
  · obtain ⟨vs, h, ra⟩ := key F V2 os H r2 g
    have hl := ra.length
    rw [enumW_len] at hi
    exact ⟨vs, h, by omega⟩
  · obtain ⟨vs, h, ra⟩ := key F V2 os H r2 g
    obtain ⟨T, v, rfl, hT, rfl, y⟩ := y
    have ex := y vs h
    obtain ⟨d, ed, rd⟩ := ra.getV ex
    obtain ⟨d', ed', rfl⟩ := enumW_get e
    rw [ed] at ed'; cases ed'
    obtain ⟨s3, r3, rp⟩ := rel_newT (vs := [.int (i : Nat), v]) (ds := [.int (i : Nat), d]) r2 hT (.cons (.int _) (.cons rd .nil))
    rw [Int.zero_add]
    exact ⟨_, s3, r3, rp⟩
/-- enumerate(a list), the list owned or data -/
def iEnO (te : TrE) : TrI := fun kx env os ki => te kx env os fun w os1 => match w with
  | .lst ds => ki (enumW 0 ds) none os1
  | .ref p => ∃ (n : Nat) (ws : List D), os1[n]? = some (p, OO.lst ws) ∧ ki (enumW 0 ws) (some (p, ws)) os1
  | _ => False
theorem ci_enO {X : Cx} {e : Expr} {te : TrE} {p pos : Pos} {elts : List Expr} {kk : Nat} {tpos : Pos} (hg : Gl X "enumerate") (hm : X.mg "enumerate" = none) (h : Cm X e te) (hs : starEach [e] X.env = [(false, eval e X.env)]) :
    CmI X (.Tuple elts kk tpos) (.Call (.Name "enumerate" p) [e] [] pos) (iEnO te) := by
  intro kx env os ki q F V0 H σ R W r sr ek c
  refine wPI_of (pi_enum hg hm (pa_cons wE_pe pa_nil hs) hs) ?_
  refine h _ _ _ _ q F V0 H σ _ W r sr ek fun V1 os1 H1 v w s1 r1 rv q => ?_
  split at q
  · obtain ⟨p, xs, rfl, h1, h2⟩ := rp_lst rv
    exact ⟨p, xs, rfl, r1.vi.seq h1, c V1 os1 H1 _ _ _ s1 r1 (gi_enum h1 h2) q⟩
  · obtain ⟨n, ws, ho, q⟩ := q
    obtain rfl := rv.toRef
    obtain ⟨_, _, ho', h3, vs, rfl, h4⟩ := r1.own _ (List.mem_of_getElem? ho)
    exact ⟨_, vs, rfl, SqL.of h3, c V1 os1 H1 _ _ _ s1 r1 gi_enum_own q⟩
  · exact q.elim
/-! ### tuples that are constants of the module -/
theorem rp_fix {K : PySem.W.Frag} {a : Addr} {xs : List V} {ds : List D} {od : Option Addr} {its : Array Value} {n : Nat} {sl : Array (Option Value)} (hl : K.lookup a = some ⟨.type "tuple", od, .seq its n, sl⟩) (hz : its.size ≤ sizeLine) (hv : Vals xs its.toList) (hr : ∀ V0 : Hp, RpA K V0 xs ds) :
    ∀ V0 : Hp, Rp K V0 (.ref a) (.tup ds) := fun V0 => .tup (.inr ⟨_, its, n, hl, rfl, rfl, hz, hv⟩) (hr V0)
theorem glb_tup {K : PySem.W.Frag} {mg : Str → Option Value} {x : Str} {a : Addr} {d : D} (h : mg x = some (.ref a)) (hr : ∀ V0 : Hp, Rp K V0 (.ref a) d) : Glb K mg x d := ⟨.ref a, _, h, rfl, hr⟩
end EV

set_option Elab.async false
set_option linter.all false
set_option maxRecDepth 100000
/-! E14: an instance == a number (its class has no __eq__ of its own). -/
namespace EV
open PySem PySem.Spec PyProof.Rows L2
section
variable {M : Model} {P : Program} {w : World} {A : Around} {E : Value → Shared → Prop} {s : Shared} {K : PySem.W.Frag} {o C dx : Addr} {oo : Obj} {od : Option Obj} {i : Int} {t : Tok}
theorem oi_same {R : Bool → Shared → Prop} (h : R false s) : wpAny M A (isSame (.ref o) (.int i t)) R E s :=
  wpAny_of_eq (rfl : isSame (.ref o) (.int i t) = pure false) h
theorem oi_entry {R : Fin → Shared → Prop} (h : R (.done (.ret .notImplemented)) s) : wpAny M A (Builtin.«object.__eq__» ⟨[.ref o, .int i t], []⟩) R E s := by
  unfold Builtin.«object.__eq__»
  repeat (first | with_reducible refine oi_same ?_ | wp_step)
  exact h
theorem oi_call {R : Value → Shared → Prop} (X : K.In s.heap) (I : PySem.W.InstAt s.heap o oo C od) (hm : PySem.W.mroIn K C (.type "object") = some true) (h : R .notImplemented s) :
    wpAny (model P w) A (call (.builtin "object.__eq__") [.ref o, .int i t]) R E s := by
  refine wpAny_call (codeAny_call_builtin F.cmp_object.eq.plain F.cmpEntry_eq ?_)
  exact PySem.W.check_slot F.cmpKind_eq F.cmpSplit_eq (I.type.andThen (PySem.W.looks_mroIn X hm)) (F.cmpArgs_eq _ _) (oi_entry h)
theorem oi_int (n : Int) (u : Tok) (a B d : Addr) :
    Meets (Builtin.«int.__eq__» ⟨[.int n u, .ref a], []⟩) (fun _ R z => z.heap.get? a = some (PySem.W.instObj B d) ∧ R (.ok (.ret .notImplemented)) z) :=
  .of_wp fun pr wd Ar R z h => by
    obtain ⟨hp, g, dr, tk, os⟩ := z
    obtain ⟨hl, h⟩ := h
    unfold PySem.W.instObj at hl
    wp_walk using wpAny_loadPart' hl, wpAny_load hl
    exact ⟨_, rfl, h⟩
theorem oi_sub : PySem.W.subIn K (.type "int") (.ref C) = some false := by
  have e : fastBuiltinMro "int" = some [.type "int", .type "object"] := by decide +kernel
  show (fastBuiltinMro "int").map (fun l => l.contains (.ref C)) = some false
  rw [e]
  first
    | rfl
    | simp
theorem oi_rc (hu : A.units < cLine) (X : K.In s.heap) (I : PySem.W.InstAt s.heap o (PySem.W.instObj C dx) C od) (hm : PySem.W.mroIn K C (.type "object") = some true)
    (hs : PySem.W.findIn K (.ref C) "__eq__" = some (some (.builtin "object.__eq__"))) {R : Value → Shared → Prop} (h : R (.bool false) s) : wpAny (model P w) A (richCompare .Eq (.ref o) (.int i t)) R E s := by
  have m1 : wpAny (model P w) A (tryCompare (.ref o) "__eq__" (.int i t)) (fun r z => r = none ∧ z = s) E s := by
    unfold tryCompare
    refine wpAny_bind (HN.ifBound_objEq X I hs (oi_call X I hm ?_))
    exact wpAny_pure ⟨rfl, rfl⟩
  have m2 : wpAny (model P w) A (tryCompare (.int i t) "__eq__" (.ref o)) (fun r z => r = none ∧ z = s) E s :=
    wpAny_tryCompare_declines (typeIs_int s i t) F.slot_int_eq_refl (call_meets F.slot_int_eq_refl (typeIs_int s i t) F.entry_int_eq (F.args_int_eq_2 _ _) (oi_int i t o C dx) ⟨I.at_, ⟨rfl, rfl, rfl⟩⟩)
  simp only [richCompare, cmpInfo_Eq, oneThing_ref]
  refine wpAny_holding (wpAny_bind (wpAny_cRoomFor hu ?_))
  refine wpAny_bind (I.type.here (wpAny_bind (wpAny_typeOf (typeIs_int s i t) ?_)))
  split
  · refine wpAny_bind ((PySem.W.looks_subIn X oi_sub).here ?_)
    simp only [Bool.false_eq_true, if_false, Bool.not_false, if_true]
    refine wpAny_bind (m := tryCompare (.ref o) _ (.int i t)) (wpAny_mono m1 (fun r s1 z => ?_) fun _ _ e => e)
    obtain ⟨rfl, rfl⟩ := z
    refine wpAny_bind (m := tryCompare (.int i t) _ (.ref o)) (wpAny_mono m2 (fun r s2 z => ?_) fun _ _ e => e)
    obtain ⟨rfl, rfl⟩ := z
    exact wpAny_bind (wpAny_rule (wpAny_bind (oi_same (wpAny_pure h))))
  · rename_i z
    exact absurd (by simp) z
end
/-! the answers of except and isinstance for own classes -/
theorem exm_self {K : PySem.W.Frag} {C : Addr} (be : PySem.W.subIn K (.ref C) (.type "BaseException") = some true) (iC : PySem.W.isClsIn K C = true) (tC : PySem.W.typeIn K (.ref C) = some (.type "type")) (sC : PySem.W.subIn K (.ref C) (.ref C) = some true) :
    PySem.W.exmOne K (.ref C) (.ref C) = some true := by
  unfold PySem.W.isClsIn at iC
  unfold PySem.W.exmOne PySem.W.kitCls
  simp only [be, iC, tC, sC]
  rfl
theorem kit_ref {K : PySem.W.Frag} {C D : Addr} (iD : PySem.W.isClsIn K D = true) (tD : PySem.W.typeIn K (.ref D) = some (.type "type")) (s : PySem.W.subIn K (.ref C) (.ref D) = some true) : PySem.W.kitOne K (.ref C) (.ref D) = some true := by
  unfold PySem.W.isClsIn at iD
  unfold PySem.W.kitOne PySem.W.kitCls
  simp only [iD, tD, s]
  split <;> rfl
theorem kit_typ {K : PySem.W.Frag} {C : Addr} {T : String} {b : Bool} (m : PySem.W.kitMeta T = true) (s : PySem.W.subIn K (.ref C) (.type T) = some b) : PySem.W.kitOne K (.ref C) (.type T) = some b := by
  unfold PySem.W.kitOne PySem.W.kitCls
  simp only [m, s]
  rfl
/-- a class without an __eq__ of its own -/
structure EqC (K : PySem.W.Frag) (C : Addr) : Prop where
  mo : PySem.W.mroIn K C (.type "object") = some true
  eq : PySem.W.findIn K (.ref C) "__eq__" = some (some (.builtin "object.__eq__"))
def rEqI (K : PySem.W.Frag) : R2 := fun x y H Q => ∃ a C dx fs i, x = .ref a ∧ y = .int i ∧ H a = some (.ins C dx fs) ∧ EqC K C ∧ Q (.bl false) H
theorem op_eqI {X : Cx} (hu : X.A.units < cLine) : OpR X (compareOp .Eq) (rEqI X.K) := by
  intro pins s σ H x y v u Q I rx ry h
  obtain ⟨a, C, dx, fs, i, rfl, rfl, ha, hE, q⟩ := h
  cases rx
  obtain ⟨t, rfl⟩ := ry
  obtain ⟨mA, O, _⟩ := ins_get I.hok ha
  obtain ⟨od, J, _⟩ := O.look
  exact oi_rc hu I.kIn J hE.mo hE.eq ⟨.bl false, H, I, rfl, q⟩
/-- x == i, where x may be an instance of the classes Cs -/
def oEqI (C : Addr) : TrO := fun x y os k => match x, y with
  | .ref a, .int _ => ∃ (n : Nat) (fs : List (Nat × D)), os[n]? = some (a, OO.ins C fs) ∧ k (.bl false) os
  | x, y => oEq x y os k
theorem cmo_eqI {lvl : Nat} {X : Cx} {C : Addr} (hr : Room lvl X.A) (hC : EqC X.K C) : CmO X (compareOp .Eq) (oEqI C) := by
  intro x y os k h
  unfold oEqI at h
  split at h
  · rename_i a i
    obtain ⟨n, fs, ho, q⟩ := h
    refine JO.mk (op_eqI (by have := hr.units; omega)) fun F V0 H v u Q r rx ry c => ?_
    obtain rfl := rx.toRef
    cases ry
    obtain ⟨_, _, ho', h3, dx, vf, rfl, _⟩ := r.own _ (List.mem_of_getElem? ho)
    exact ⟨a, C, dx, vf, i, rfl, rfl, h3, hC, c V0 os H _ _ (Same.refl _) r rwB q⟩
  · exact cmo_eq hr x y os k h
end EV

set_option Elab.async false
set_option linter.all false
set_option maxRecDepth 100000
/-! E15: calls with keywords. -/
namespace EV
open PySem PySem.Spec PyProof.Rows L2
/-- the weakest judgement of keywords -/
@[irreducible] def wK (X : Cx) (kws : List Keyword) : TA := fun σ H Q => ∀ (pos : Pos) (pins : List (Addr × Obj)) (s : Shared), Inv X pins σ H s → wpAny (model X.prog X.w) X.A (evalAll ((backToKw pos (keywordEach kws X.env)).map (·.2))) (AP X pins σ Q) X.xe s
theorem wK_pk {X : Cx} {kws : List Keyword} : PK X kws (wK X kws) := by unfold wK; exact ⟨fun pos pins s _ _ _ I h => h pos pins s I⟩
theorem wK_of {X : Cx} {kws : List Keyword} {t : TA} (h : PK X kws t) {σ : L2.St} {H : Hp} {Q : List V → Hp → Prop} (q : t σ H Q) : wK X kws σ H Q := by unfold wK; exact fun pos pins s I => h.run pos pins s σ H Q I q
def JK (X : Cx) (kx : Kx) (kws : List Keyword) (env : DEnv) (os : Os) (k : List D → Os → Prop) : Prop :=
  ∀ (F V0 H : Hp) (σ : L2.St) (Q : List V → Hp → Prop) (W : WX), Rel X.K F V0 os H → SR X.K V0 σ env → XkOk X F V0 σ kx W →
    (∀ (V1 : Hp) (os1 : Os) (H1 : Hp) (vs : List V) (ws : List D), Same V0 V1 → Rel X.K F V1 os1 H1 → RpA X.K V1 vs ws → k ws os1 → Q vs H1) → wK X kws σ H Q
def CmK (X : Cx) (kws : List Keyword) (t : TrA) (n : Nat) : Prop := ∀ kx env os k, t kx env os k → JK X kx kws env os fun ws os1 => ws.length = n ∧ k ws os1
section
variable {X : Cx} {e : Expr} {es : List Expr} {kws : List Keyword} {te : TrE} {tl tk : TrA} {n m : Nat} {nn : Option Str} {kpos p pos : Pos} {x : Str} {lvl : Nat} {T : FT} {C : Addr}
theorem ck_nil : CmK X [] aN 0 := fun kx env os kl q F V0 H σ Q W r sr ek c => wK_of pk_nil (c V0 os H [] [] (Same.refl _) r .nil ⟨rfl, q⟩)
theorem ck_cons (h : Cm X e te) (h2 : CmK X kws tk n) : CmK X (⟨nn, e, kpos⟩ :: kws) (aC te tk) (n + 1) := by
  intro kx env os kl q F V0 H σ Q W r sr ek c
  refine wK_of (pk_cons wE_pe wK_pk) ?_
  refine h _ _ _ _ q F V0 H σ _ W r sr ek fun V1 os1 H1 v w s1 r1 rv q => ?_
  exact h2 _ _ _ _ q F V1 H1 σ _ W r1 (sr.mono s1) (ek.mono s1) fun V2 os2 H2 vs ws s2 r2 rs ⟨hl, q2⟩ => c V2 os2 H2 (v :: vs) (w :: ws) (s1.trans s2) r2 (.cons (rv.mono s2) rs) ⟨congrArg (· + 1) hl, q2⟩
/-- a class by its name, made with keywords alone -/
structure CalKI (P : Program) (w : World) (K : PySem.W.Frag) (mg : Str → Option Value) (base : Heap) (lvl : Nat) (C : Addr) (x : Str) (n : Nat) (T : FT) (ks : List Str) (gD : List D → List D) : Prop where
  ex : ∃ (f : Addr) (fd : FuncData) (ps : List Str) (g : List Value → List Value → List Value) (gV : List V → List V → List V) (gT : List V → List V),
    FnOk P w K mg base (L2.CX P w) lvl f fd ps (spX K n T) ∧ Mk K C f ∧ KBn K fd ps 1 ks g gV ∧ mg x = some (.ref C) ∧ (∀ o zs, gV [o] zs = o :: gT zs) ∧
      (∀ (V0 : Hp) (zs : List V) (ws : List D), RpA K V0 zs ws → RpA K V0 (gT zs) (gD ws)) ∧ ∀ zs : List V, zs.length = ks.length → (gT zs).length + 1 = n
theorem run_makeKS {CX : CXT} {sp : Sp} {E : XK} {f : Addr} {fd : FuncData} {ps ks : List Str} {pins : List (Addr × Obj)} {σ : L2.St} {H : Hp} {s : Shared} {Q : VK} {g : List Value → List Value → List Value} {gV : List V → List V → List V} {ws : List Value} {zs : List V}
    (M : Mk X.K C f) (G : FnOk X.prog X.w X.K X.mg X.base CX lvl f fd ps sp) (hr : Room (lvl + 1) X.A) (hb : KBn X.K fd ps 1 ks g gV) (hx : PassesAt CX X σ E) (I : Inv X pins σ H s) (rz : Vals zs ws) (l2 : zs.length = ks.length)
    (h : ∀ x dx, H x = none → H dx = none → dx ≠ x → sp (gV [.ref x] zs) (upd (upd H dx (.own x)) x (.ins C dx [])) (fun v H2 => v = .non ∧ Q (.ref x) H2) E) :
    wpAny (model X.prog X.w) X.A (call (.ref C) [] (ks.zip ws)) (EP X pins σ Q) X.xe s := by
  have hq := h (s.heap.objs.size + 1) s.heap.objs.size (I.hok.fresh (Nat.le_add_right _ 1)) (I.hok.fresh (Nat.le_refl _)) (Nat.ne_of_lt (Nat.lt_add_one _))
  have I2 := Inv.made (C := C) I
  have r2 := hb.rel (vs := [V.ref (s.heap.objs.size + 1)]) (us := [Value.ref (s.heap.objs.size + 1)]) (.cons rfl .nil) rz
  have bd := hb.to _ [Value.ref (s.heap.objs.size + 1)] ws I2.kIn rfl (rz.length.symm.trans l2)
  refine wpAny_call (make_map (f := f) I.kIn M.makes M.init (beq_iff_eq.mp M.fn) (codeAny_mono (G.run _ X.stack _ _ ⟨[Value.ref (s.heap.objs.size + 1)], ks.zip ws⟩ _ _ _ E (hr.make C [] (ks.zip ws)) (I2.env0.make C [] (ks.zip ws)) bd r2 hq) fun r s' hq' => ?_))
  cases r with
  | error e => exact hx pins _ _ e s' I2 hq'
  | ok fl =>
    cases fl with
    | ret u =>
      obtain ⟨v, H', I3, rv, ev, q3⟩ := I2.after hq'
      subst ev
      exact ⟨rv, V.ref (s.heap.objs.size + 1), H', I3, rfl, q3⟩
    | next => exact hq'.elim
    | brk => exact hq'.elim
    | cont => exact hq'.elim
def eMakeK (C : Addr) (T : FT) (gD : List D → List D) (tk : TrA) : TrE := fun kx env os k => tk kx env os fun ws os1 => makeX T C (gD ws) os1 k kx
theorem cm_makeK {ks : List Str} {gD : List D → List D} (M : CalKI X.prog X.w X.K X.mg X.base lvl C x n T ks gD) (hr : Room (lvl + 1) X.A) (hg : Gl X x) (hk : CmK X kws tk ks.length) (hdb : (x == ("__debug__" : Str)) = false)
    (hall : (backToKw pos (keywordEach kws X.env)).all (·.1.isSome) = true) (hks : (backToKw pos (keywordEach kws X.env)).filterMap (·.1) = ks) (hpl : ((backTo pos (starEach [] X.env)).any (·.1) || (backToKw pos (keywordEach kws X.env)).any (·.1.isNone)) = false) :
    Cm X (.Call (.Name x p) [] kws pos) (eMakeK C T gD tk) := by
  obtain ⟨f, fd, ps, g, gV, gT, G, mk, hb, hm, h1, h2, h3⟩ := M.ex
  intro kx env os k h F V0 H σ Q W r sr ek c
  refine wE_mk fun pins s I => ?_
  refine wpAny_Call_Name_kw (ld_glob I hg hm ?_ hdb)
  refine PySem.W.callWith_KW0 (h₀ := X.base) I.ok.mod.kin mk.kp hall ?_ hpl
  refine thn (wK_pk.run pos pins s σ H (fun zs H1 => zs.length = ks.length ∧ ∀ x dx, H1 x = none → H1 dx = none → dx ≠ x → spX X.K n T (.ref x :: gT zs) (upd (upd H1 dx (.own x)) x (.ins C dx [])) (fun v H2 => v = .non ∧ Q (.ref x) H2) (WE W σ)) I ?_) fun ws s2 ⟨zs, H2, I2, rz, l2, q2⟩ => ⟨I2.kIn, ?_⟩
  · exact hk _ _ _ _ h F V0 H σ _ W r sr ek fun V1 os1 H1 vs ws s1 r1 rs ⟨hl, q⟩ => ⟨rs.length.trans hl, made_of r1 (h2 _ _ _ rs) (h3 _ (rs.length.trans hl)) q (ek.mono s1) fun V2 os2 H2 v w s2 r2 rv q2 => c V2 os2 H2 v w (s1.trans s2) r2 rv q2⟩
  · rw [hks]
    exact run_makeKS mk G hr hb (passAt ek.tk σ) I2 rz l2 fun x dx a b d => by rw [h1]; exact q2 x dx a b d
/-- a def by its name, called with n0 values and keywords -/
structure CalKX (P : Program) (w : World) (K : PySem.W.Frag) (mg : Str → Option Value) (base : Heap) (lvl : Nat) (x : Str) (n n0 : Nat) (T : FT) (ks : List Str) (gD : List D → List D → List D) : Prop where
  ex : ∃ (f : Addr) (fd : FuncData) (ps : List Str) (g : List Value → List Value → List Value) (gV : List V → List V → List V),
    FnOk P w K mg base (L2.CX P w) lvl f fd ps (spX K n T) ∧ mg x = some (.ref f) ∧ PySem.W.keepIn K (.ref f) = true ∧ KBn K fd ps n0 ks g gV ∧
      (∀ (V0 : Hp) (vs zs : List V) (us ws : List D), RpA K V0 vs us → RpA K V0 zs ws → RpA K V0 (gV vs zs) (gD us ws)) ∧ ∀ vs zs : List V, vs.length = n0 → zs.length = ks.length → (gV vs zs).length = n
theorem run_fnKS {CX : CXT} {sp : Sp} {E : XK} {f : Addr} {fd : FuncData} {ps ks : List Str} {pins : List (Addr × Obj)} {σ : L2.St} {H : Hp} {s : Shared} {Q : VK} {g : List Value → List Value → List Value} {gV : List V → List V → List V} {us ws : List Value} {vs zs : List V}
    (G : FnOk X.prog X.w X.K X.mg X.base CX lvl f fd ps sp) (hr : Room lvl X.A) (hb : KBn X.K fd ps n ks g gV) (hx : PassesAt CX X σ E) (I : Inv X pins σ H s) (rv : Vals vs us) (rz : Vals zs ws) (l1 : vs.length = n) (l2 : zs.length = ks.length) (h : sp (gV vs zs) H Q E) :
    wpAny (model X.prog X.w) X.A (call (.ref f) us (ks.zip ws)) (EP X pins σ Q) X.xe s := by
  have r2 := hb.rel rv rz
  have bd := hb.to s us ws I.kIn (rv.length.symm.trans l1) (rz.length.symm.trans l2)
  refine wpAny_call (codeAny_mono (G.run X.A X.stack s H ⟨us, ks.zip ws⟩ _ _ Q E hr I.env0 bd r2 h) fun r s' hq => ?_)
  cases r with
  | error e => exact hx pins H s e s' I hq
  | ok fl =>
    cases fl with
    | ret u => exact I.after hq
    | next => exact hq.elim
    | brk => exact hq.elim
    | cont => exact hq.elim
def eCallK (T : FT) (gD : List D → List D → List D) (tl tk : TrA) : TrE := fun kx env os k => tl kx env os fun us os1 => tk kx env os1 fun ws os2 => callX T (gD us ws) os2 k kx
theorem cm_callK {ks : List Str} {gD : List D → List D → List D} (CC : CalKX X.prog X.w X.K X.mg X.base lvl x n m T ks gD) (hr : Room lvl X.A) (hg : Gl X x) (ha : CmA X (e :: es) tl m) (hk : CmK X kws tk ks.length) (hdb : (x == ("__debug__" : Str)) = false)
    (hall : (backToKw pos (keywordEach kws X.env)).all (·.1.isSome) = true) (hks : (backToKw pos (keywordEach kws X.env)).filterMap (·.1) = ks) (he : starEach (e :: es) X.env = (false, eval e X.env) :: starEach es X.env)
    (hpl : ((backTo pos (starEach (e :: es) X.env)).any (·.1) || (backToKw pos (keywordEach kws X.env)).any (·.1.isNone)) = false) :
    Cm X (.Call (.Name x p) (e :: es) kws pos) (eCallK T gD tl tk) := by
  obtain ⟨f, fd, ps, g, gV, G, hm, hkp, hb, h2, h3⟩ := CC.ex
  intro kx env os k h F V0 H σ Q W r sr ek c
  refine wE_mk fun pins s I => ?_
  refine wpAny_Call_Name_kw (ld_glob I hg hm ?_ hdb)
  refine PySem.W.callWith_KW (h₀ := X.base) I.ok.mod.kin hkp hall (thn (wA_pa.run pos pins s σ H (fun vs H1 => wK X kws σ H1 fun zs H2 => vs.length = m ∧ zs.length = ks.length ∧ spX X.K n T (gV vs zs) H2 Q (WE W σ)) I ?_) fun us s1 ⟨vs, H1, I1, r1, q⟩ => ?_) hpl he
  · refine ha.2 _ _ _ _ h F V0 H σ _ W r sr ek fun V1 os1 H1 vs us s1 r1 rs ⟨hl, q⟩ => ?_
    refine hk _ _ _ _ q F V1 H1 σ _ W r1 (sr.mono s1) (ek.mono s1) fun V2 os2 H2 zs ws s2 r2 rz ⟨hl2, q⟩ => ?_
    have l1 := rs.length.trans hl
    have l2 := rz.length.trans hl2
    exact ⟨l1, l2, sp_of r2 (h2 _ _ _ _ _ (rs.mono s2) rz) (h3 _ _ l1 l2) q (ek.mono (s1.trans s2)) fun V3 os3 H3 v w s3 r3 rv q2 => c V3 os3 H3 v w ((s1.trans s2).trans s3) r3 rv q2⟩
  · refine thn (wK_pk.run pos pins s1 σ H1 _ I1 q) fun ws s2 ⟨zs, H2, I2, rz, l1, l2, q2⟩ => ⟨I2.kIn, ?_⟩
    rw [hks]
    exact run_fnKS G hr hb (passAt ek.tk σ) I2 r1 rz l1 l2 q2
end
/-! the parameters in their order: from the keywords' values (true), or a default (false) -/
def pick {α : Type} : List (Bool × Nat) → List α → List α → List α
  | [], _, _ => []
  | (true, i) :: r, ms, zs => zs[i]?.toList ++ pick r ms zs
  | (false, i) :: r, ms, zs => ms[i]?.toList ++ pick r ms zs
theorem paired_at {α β : Type} {R : α → β → Prop} : ∀ {xs : List α} {ys : List β} (i : Nat), Paired R xs ys → Paired R xs[i]?.toList ys[i]?.toList
  | _, _, _, .nil => by simp; exact .nil
  | _, _, 0, .cons h _ => .cons h .nil
  | _, _, i + 1, .cons _ r => by simp only [List.getElem?_cons_succ]; exact paired_at i r
theorem paired_app {α β : Type} {R : α → β → Prop} : ∀ {xs xs2 : List α} {ys ys2 : List β}, Paired R xs ys → Paired R xs2 ys2 → Paired R (xs ++ xs2) (ys ++ ys2)
  | _, _, _, _, .nil, h => h
  | _, _, _, _, .cons a r, h => .cons a (paired_app r h)
theorem paired_pick {α β : Type} {R : α → β → Prop} {ms zs : List α} {ns ws : List β} (h1 : Paired R ms ns) (h2 : Paired R zs ws) : ∀ idx : List (Bool × Nat), Paired R (pick idx ms zs) (pick idx ns ws)
  | [] => .nil
  | (true, i) :: r => paired_app (paired_at i h2) (paired_pick h1 h2 r)
  | (false, i) :: r => paired_app (paired_at i h1) (paired_pick h1 h2 r)
theorem rpA_at {K : PySem.W.Frag} {V0 : Hp} : ∀ {xs : List V} {ys : List D} (i : Nat), RpA K V0 xs ys → RpA K V0 xs[i]?.toList ys[i]?.toList
  | _, _, _, .nil => by simp; exact .nil
  | _, _, 0, .cons h _ => .cons h .nil
  | _, _, i + 1, .cons _ r => by simp only [List.getElem?_cons_succ]; exact rpA_at i r
theorem rpA_pick {K : PySem.W.Frag} {V0 : Hp} {ms zs : List V} {ns ws : List D} (h1 : RpA K V0 ms ns) (h2 : RpA K V0 zs ws) : ∀ idx : List (Bool × Nat), RpA K V0 (pick idx ms zs) (pick idx ns ws)
  | [] => .nil
  | (true, i) :: r => (rpA_at i h2).append (rpA_pick h1 h2 r)
  | (false, i) :: r => (rpA_at i h1).append (rpA_pick h1 h2 r)
def pickOk (a b : Nat) : List (Bool × Nat) → Bool
  | [] => true
  | (true, i) :: r => decide (i < a) && pickOk a b r
  | (false, i) :: r => decide (i < b) && pickOk a b r
theorem pick_len {α : Type} {ms zs : List α} : ∀ {idx : List (Bool × Nat)}, pickOk zs.length ms.length idx = true → (pick idx ms zs).length = idx.length
  | [], _ => rfl
  | (true, i) :: r, h => by
    rw [pickOk, Bool.and_eq_true, decide_eq_true_eq] at h
    rw [pick, List.getElem?_eq_getElem h.1, List.length_append, pick_len h.2]
    simp; omega
  | (false, i) :: r, h => by
    rw [pickOk, Bool.and_eq_true, decide_eq_true_eq] at h
    rw [pick, List.getElem?_eq_getElem h.1, List.length_append, pick_len h.2]
    simp; omega
theorem len_cons {α : Type} {l : List α} {n : Nat} (h : l.length = n + 1) : ∃ a r, l = a :: r ∧ r.length = n := by
  cases l with
  | nil => exact absurd h (by simp)
  | cons a r => exact ⟨a, r, rfl, by simpa using h⟩
section
variable {P : Program} {w : World} {K : PySem.W.Frag} {mg : Str → Option Value} {base : Heap} {lvl n n0 : Nat} {C f : Addr} {x : Str} {T : FT} {fd : FuncData} {ps ks : List Str} {idx : List (Bool × Nat)} {mV : List V} {mD : List D}
theorem calKI_of (G : FnOk P w K mg base (L2.CX P w) lvl f fd ps (spX K n T)) (M : Mk K C f) (hb : ∃ mv : List Value, KBn K fd ps 1 ks (fun us ws => us ++ pick idx mv ws) (fun vs zs => vs ++ pick idx mV zs)) (hm : mg x = some (.ref C))
    (hr : ∀ V0 : Hp, RpA K V0 mV mD) (hi : pickOk ks.length mV.length idx = true) (hn : idx.length + 1 = n) : CalKI P w K mg base lvl C x n T ks (fun ws => pick idx mD ws) := by
  obtain ⟨mv, hb⟩ := hb
  refine ⟨f, fd, ps, _, _, fun zs => pick idx mV zs, G, M, hb, hm, fun _ _ => rfl, fun V0 zs ws h => rpA_pick (hr V0) h idx, fun zs hz => ?_⟩
  rw [pick_len (by rw [hz]; exact hi), hn]
theorem calKX_of (G : FnOk P w K mg base (L2.CX P w) lvl f fd ps (spX K n T)) (hk : PySem.W.keepIn K (.ref f) = true) (hb : ∃ mv : List Value, KBn K fd ps n0 ks (fun us ws => us ++ pick idx mv ws) (fun vs zs => vs ++ pick idx mV zs)) (hm : mg x = some (.ref f))
    (hr : ∀ V0 : Hp, RpA K V0 mV mD) (hi : pickOk ks.length mV.length idx = true) (hn : n0 + idx.length = n) : CalKX P w K mg base lvl x n n0 T ks (fun us ws => us ++ pick idx mD ws) := by
  obtain ⟨mv, hb⟩ := hb
  refine ⟨f, fd, ps, _, _, G, hm, hk, hb, fun V0 vs zs us ws h1 h2 => h1.append (rpA_pick (hr V0) h2 idx), fun vs zs hv hz => ?_⟩
  rw [List.length_append, pick_len (by rw [hz]; exact hi), hv, hn]
end
end EV

set_option Elab.async false
set_option linter.all false
set_option maxRecDepth 100000
namespace EV
open PySem PySem.Spec PyProof.Rows L2
/-! keywords at any number: the binder's loops -/
theorem forIn_steps {α σ : Type} {f : α → σ → Sem (ForInStep σ)} (g : σ → α → σ) (P : List α → σ → Prop) (hs : ∀ a r s, P (a :: r) s → f a s = pure (.yield (g s a)) ∧ P r (g s a)) : ∀ (l : List α) (s : σ), P l s → forIn l s f = pure (l.foldl g s)
  | [], s, _ => rfl
  | a :: l, s, h => by
    obtain ⟨e, h2⟩ := hs a l s h
    rw [List.forIn_cons, e, pure_bind]
    exact forIn_steps g P hs l _ h2
theorem lk_none {k : Str} : ∀ {l : List (Str × Value)}, k ∉ l.map (·.1) → l.lookup k = none
  | [], _ => rfl
  | (a, b) :: l, h => by
    rw [List.map_cons, List.mem_cons, not_or] at h
    rw [List.lookup_cons, show (k == a) = false from by simpa using h.1]
    exact lk_none h.2
theorem lk_some {k : Str} : ∀ {l : List (Str × Value)}, k ∈ l.map (·.1) → (l.lookup k).isSome = true
  | [], h => by simp at h
  | (a, b) :: l, h => by
    rw [List.lookup_cons]
    by_cases e : k = a
    · rw [show (k == a) = true from by simpa using e]; rfl
    · rw [show (k == a) = false from by simpa using e]
      rw [List.map_cons, List.mem_cons] at h
      exact lk_some (h.resolve_left e)
theorem foldl_snoc {β : Type} : ∀ (l : List (Str × Value)) (s : List (Str × Value)) (e : β), l.foldl (fun (z : List (Str × Value) × β) x => (z.1 ++ [(x.1, x.2)], z.2)) (s, e) = (s ++ l, e)
  | [], s, e => by simp
  | x :: l, s, e => by
    rw [List.foldl_cons, foldl_snoc l]
    simp
def fillUp : List Str → List (Str × Value) → List (Str × Value) → List (Str × Value) → Prop
  | [], sl, [], sl2 => sl2 = sl
  | n :: r, sl, q, sl2 => if (sl.lookup n).isSome = true then fillUp r sl q sl2 else match q with
    | [] => False
    | (m, v) :: q => m = n ∧ fillUp r (sl ++ [(n, v)]) q sl2
  | [], _, _ :: _, _ => False
theorem chain_loop {α β : Type} {D : Addr} {R : α} {f : Str → List (Str × Value) × β → Sem (ForInStep (List (Str × Value) × β))} {k1 : Str → List (Str × Value) × β → Option Value → Sem (ForInStep (List (Str × Value) × β))} {cont : List (Str × Value) × β → Sem α} {sl2 : List (Str × Value)} {e : β}
    (hf : ∀ n s, f n s = if (s.1.lookup n).isNone = true then nsGet D n >>= k1 n s else pure (.yield s)) (hk : ∀ n s v, k1 n s (some v) = pure (.yield (s.1 ++ [(n, v)], s.2))) (hc : cont (sl2, e) = pure R) :
    ∀ (ko : List Str) (sl : List (Str × Value)) (q : List (Str × Value)), fillUp ko sl q sl2 → KwChain D q (forIn ko (sl, e) f >>= cont) R
  | [], sl, [], h => by
    have h : sl2 = sl := h
    subst h
    show (pure (sl2, e) >>= cont) = pure R
    rw [pure_bind]; exact hc
  | [], _, _ :: _, h => False.elim h
  | n :: r, sl, q, h => by
    rw [List.forIn_cons, hf]
    unfold fillUp at h
    cases hl : (sl.lookup n).isSome with
    | true =>
      rw [hl, if_pos rfl] at h
      rw [if_neg (by rw [Option.isNone_iff_eq_none]; intro z; rw [z] at hl; cases hl), pure_bind]
      exact chain_loop hf hk hc r sl q h
    | false =>
      rw [hl, if_neg Bool.false_ne_true] at h
      rw [if_pos (by rw [Option.isNone_iff_eq_none]; cases z : sl.lookup n with
        | none => rfl
        | some _ => rw [z] at hl; cases hl)]
      cases q with
      | nil => exact False.elim h
      | cons a q =>
        obtain ⟨m, v⟩ := a
        obtain ⟨rfl, h⟩ := h
        exact ⟨_, _, _, _, _, _, rfl, hk _ _ v, chain_loop hf hk hc r _ q h⟩
theorem bind_kw {fd : FuncData} {D : Addr} {ns ko : List Str} {kw q sl2 R : List (Str × Value)} {us : List Value} (h1 : fd.params.posonlyargs = []) (h2 : fd.params.args.map (·.arg) = ns) (h3 : fd.params.kwonlyargs.map (·.arg) = ko) (h4 : fd.params.vararg = none) (h5 : fd.params.kwarg = none) (h6 : fd.defaults = .none) (h7 : fd.kwdefaults = .ref D)
    (hu : us.length = ns.length) (hn : (ns ++ kw.map (·.1)).Nodup) (hm : ∀ p ∈ kw, ko.contains p.1 = true) (hq : fillUp ko (ns.zip us ++ kw) q sl2) (hR : (ns ++ ko).filterMap (fun n => (sl2.lookup n).map (n, ·)) = R) : KwChain D q (bindArgs fd ⟨us, kw⟩) R := by
  unfold bindArgs
  simp only [h1, h2, h3, h4, h5, h6, h7, List.map_nil, List.nil_append]
  rw [forIn_steps (fun z x => (z.1 ++ [(x.1, x.2)], z.2)) (fun l s => (∀ p ∈ l, ko.contains p.1 = true) ∧ (l.map (·.1)).Nodup ∧ ∀ p ∈ l, p.1 ∉ s.1.map (·.1))]
  · rw [foldl_snoc, pure_bind]
    show KwChain D q (do
      let z ← (pure none : Sem (Option (Array Value)))
      _) R
    rw [pure_bind]
    have e0 : ((none : Option (Array Value)).getD #[]).toList = [] := rfl
    simp only [e0, List.drop_nil, List.length_nil, Nat.sub_zero, List.take_length, List.drop_length, List.zip_nil_right, List.forIn_nil, pure_bind]
    rw [if_neg (by rw [hu]; simp)]
    have e1 : ns.filter (fun n => (List.lookup n (ns.zip us ++ kw)).isNone) = [] := by
      rw [List.filter_eq_nil_iff]
      intro n hn' z
      have hz : n ∈ (ns.zip us ++ kw).map (·.1) := by
        rw [List.map_append, List.map_fst_zip (by omega)]
        exact List.mem_append_left _ hn'
      have := lk_some hz
      rw [Option.isNone_iff_eq_none] at z
      rw [z] at this
      cases this
    rw [e1, if_neg (by simp)]
    refine chain_loop (sl2 := sl2) (e := []) (k1 := fun n s d => match d with
      | some v => pure (.yield (s.1 ++ [(n, v)], s.2))
      | none => pure (.yield (s.1, s.2 ++ [n]))) (fun n s => ?_) (fun n s v => rfl) ?_ ko _ q hq
    · rfl
    · dsimp only
      rw [if_neg (by simp), hR]
  · intro a r s ⟨c1, c2, c3⟩
    dsimp only
    rw [if_pos (by rw [c1 a (List.mem_cons_self ..)]; simp), if_neg (by rw [lk_none (c3 a (List.mem_cons_self ..))]; exact Bool.false_ne_true)]
    refine ⟨rfl, fun p hp => c1 p (List.mem_cons_of_mem _ hp), (List.nodup_cons.mp c2).2, fun p hp => ?_⟩
    rw [List.map_append, List.mem_append, not_or]
    refine ⟨c3 p (List.mem_cons_of_mem _ hp), ?_⟩
    intro z
    rw [List.map_cons, List.map_nil, List.mem_singleton] at z
    have z : p.1 = a.1 := z
    exact (List.nodup_cons.mp c2).1 (List.mem_map.mpr ⟨p, hp, z⟩)
  · obtain ⟨_, n2, n3⟩ := List.nodup_append.mp hn
    refine ⟨hm, n2, fun p hp z => ?_⟩
    rw [List.map_fst_zip (by omega)] at z
    exact n3 _ z _ (List.mem_map_of_mem hp) rfl
theorem fillUp_lack : ∀ (ko : List Str) (sl : List (Str × Value)) (mv : List Value), ko.Nodup → mv.length = (ko.filter fun n => !(sl.map (·.1)).contains n).length →
    fillUp ko sl ((ko.filter fun n => !(sl.map (·.1)).contains n).zip mv) (sl ++ (ko.filter fun n => !(sl.map (·.1)).contains n).zip mv)
  | [], sl, mv, _, _ => by simp [fillUp]
  | n :: r, sl, mv, hn, hm => by
    rw [List.nodup_cons] at hn
    unfold fillUp
    by_cases e : n ∈ sl.map (·.1)
    · rw [List.filter_cons_of_neg (by simpa using e)] at hm ⊢
      rw [if_pos (lk_some e)]
      exact fillUp_lack r sl mv hn.2 hm
    · rw [List.filter_cons_of_pos (by simpa using e)] at hm ⊢
      rw [lk_none e, if_neg (by exact Bool.false_ne_true)]
      cases mv with
      | nil => cases hm
      | cons v mv =>
        rw [List.zip_cons_cons]
        refine ⟨rfl, ?_⟩
        have ef : (r.filter fun n => !(sl.map (·.1)).contains n) = r.filter fun m => !((sl ++ [(n, v)]).map (·.1)).contains m := by
          refine List.filter_congr fun m hm' => ?_
          have hne : m ≠ n := fun z => hn.1 (z ▸ hm')
          simp [hne]
        have ih := fillUp_lack r (sl ++ [(n, v)]) mv hn.2 (by rw [← ef]; simpa using hm)
        rw [← ef, List.append_assoc, List.singleton_append] at ih
        exact ih
/-- the chain of a call with keywords, by closed facts about the names -/
theorem kw_chain {fd : FuncData} {D : Addr} {us ws mv : List Value} {R : List (Str × Value)} (ns ko ks lack : List Str) (h1 : fd.params.posonlyargs = []) (h2 : fd.params.args.map (·.arg) = ns) (h3 : fd.params.kwonlyargs.map (·.arg) = ko) (h4 : fd.params.vararg = none) (h5 : fd.params.kwarg = none) (h6 : fd.defaults = .none) (h7 : fd.kwdefaults = .ref D)
    (hu : us.length = ns.length) (hw : ws.length = ks.length) (hm : mv.length = lack.length) (hnd : (ns ++ ks).Nodup) (hc : ks.all ko.contains = true) (hl : (ko.filter fun n => !(ns ++ ks).contains n) = lack) (hko : ko.Nodup)
    (hR : (ns ++ ko).filterMap (fun n => (((ns.zip us ++ ks.zip ws) ++ lack.zip mv).lookup n).map (n, ·)) = R) : KwChain D (lack.zip mv) (bindArgs fd ⟨us, ks.zip ws⟩) R := by
  have ek : (ks.zip ws).map (·.1) = ks := List.map_fst_zip (by omega)
  have es : (ns.zip us ++ ks.zip ws).map (·.1) = ns ++ ks := by rw [List.map_append, ek, List.map_fst_zip (by omega)]
  refine bind_kw h1 h2 h3 h4 h5 h6 h7 hu (by rw [ek]; exact hnd) (fun p hp => ?_) ?_ hR
  · exact List.all_eq_true.mp hc p.1 (by rw [← ek]; exact List.mem_map_of_mem hp)
  · have h := fillUp_lack ko (ns.zip us ++ ks.zip ws) mv hko (by rw [es, hl]; exact hm)
    rw [es, hl] at h
    exact h
end EV

set_option Elab.async false
set_option linter.all false
set_option maxRecDepth 100000
/-! E17: enumerate over a tuple and a text, zip over tuples, for over a text, tuple(xs), index of texts. -/
namespace EV
open PySem PySem.Spec PyProof.Rows L2
/-! ### enumerate over anything that draws -/
/-- items told by yv, n of them, while C stands; each in a new pair -/
def Jen (n : Nat) (yv : Nat → V → Prop) (C : Hp → Prop) : It :=
  ⟨fun i H => i < n ∧ C H, fun i H v H' => ∃ T x, v = .ref T ∧ H T = none ∧ H' = upd H T (.tup [.int (i : Nat), x]) ∧ yv i x, fun i H => n ≤ i ∧ C H⟩
theorem turn_enumD {P : Program} {w : World} {K : PySem.W.Frag} {elts : List Expr} {kk : Nat} {tpos : Pos} {e it : Addr} {ty : String} {n : Nat} {yv : Nat → V → Prop} {C : Hp → Prop} {In : Nat → Heap → Prop} (hne : e ≠ it)
    (hobj : ∀ i h, In i h → ∃ o vs, h.get? it = some o ∧ o.cls = .type ty ∧ o.data = .fields vs)
    (hkp : ∀ i h h', In i h → (∀ o, h.get? it = some o → h'.get? it = some o) → In i h')
    (hd : ∀ (X : Cx), X.prog = P → X.w = w → X.K = K → X.calm = true → ∀ (pins : List (Addr × Obj)) (s : Shared) (σ : L2.St) (H : Hp) (i : Nat) (old : Value) (c : Int), Inv X pins σ H s → In i s.heap → IsEnum s.heap e it c old → C H →
      ∃ (fp : List Addr) (Pv : Nat → Value → Prop) (St : Nat → Heap → Prop), Draws P w X.A.in1 it fp n Pv St ∧ e ∉ fp ∧ St i s.heap ∧ (∀ j h, St j h → In j h) ∧ (i ≤ n) ∧ ∀ v, Pv i v → ∃ x, RelV x v ∧ yv i x) :
    Turn P w K (.Tuple elts kk tpos) (Jen n yv C) [e, it] e (fun i h => (∃ old, IsEnum h e it ((i : Nat) : Int) old) ∧ In i h) where
  mem := by simp
  obj := fun i h st b hb => by
    obtain ⟨⟨old, he⟩, hI⟩ := st
    obtain ⟨o, vs, ho, hc, hdd⟩ := hobj i h hI
    have e' : b = e ∨ b = it := by simpa using hb
    rcases e' with z | z
    · rw [z]; exact ⟨_, he, fun v q => nomatch q⟩
    · rw [z]; exact ⟨o, ho, fun v q => by rw [hdd] at q; cases q⟩
  keep := fun i h h' st k => let ⟨⟨old, he⟩, hi⟩ := st; ⟨⟨old, k e (by simp) _ he⟩, hkp i h h' hi fun o q => k it (by simp) o q⟩
  item := by
    intro X hP hw hK hc i pins s σ H E I hf st hg
    obtain ⟨hlt, hC⟩ := hg
    obtain ⟨⟨old, he⟩, hit⟩ := st
    obtain ⟨fp, Pv, St, D, hef, hst, hin, _, hyv⟩ := hd X hP hw hK hc pins s σ H i old _ I hit he hC
    subst hP hw hK
    obtain ⟨oi, vi, hoi, _, _⟩ := hobj i _ hit
    have hel : e < s.heap.objs.size := Heap.lt_size he
    have hil : it < s.heap.objs.size := Heap.lt_size hoi
    refine wpAny_pyNext_enum_itemD D he hst hlt hne hef fun x' h' tk hpx ho hst' hT hsz hk => ?_
    obtain ⟨x, rx, hy⟩ := hyv x' hpx
    refine ⟨_, rfl, wpAny_letOwnedTupleGo_enum (s := { s with heap := h', toks := tk + 1 }) ho fun h'' he' sb => ?_⟩
    have hT2 : h''.get? s.heap.objs.size = some { cls := .type "tuple", data := .seq #[.int i tk, x'] } := (sb.2 _ (Nat.ne_of_gt hel)).trans hT
    have nw : ObjOk X.prog X.w (upd H s.heap.objs.size (.tup [.int (i : Nat), x])) h'' s.heap.objs.size (.tup [.int (i : Nat), x]) :=
      ⟨by show 2 ≤ sizeLine; decide, [.int i tk, x'], .cons ⟨_, rfl⟩ (.cons rx .nil), ⟨_, hT2, rfl, _, rfl⟩⟩
    have I1 : Inv X pins σ (upd H s.heap.objs.size (.tup [.int (i : Nat), x])) { s with heap := h'', toks := tk + 1 } :=
      I.turnedNew (ch := [e, it]) (fun b ob hb q => (sb.2 b (fun z => hb (by simp [z]))).trans (hk b ob (fun z => hb (by simp [z])) (fun z => hb (by simp [z])) q)) hf (Nat.le_refl _) nw
    refine ⟨.ref s.heap.objs.size, _, I1, rfl, ⟨_, x, rfl, I.hok.fresh (Nat.le_refl _), rfl, hy⟩, ⟨⟨x', ?_⟩, hkp _ _ _ (hin _ _ hst') fun o q => (sb.2 it (Ne.symm hne)).trans q⟩, fun b hb => ?_⟩
    · have e1 : ((i + 1 : Nat) : Int) = (i : Int) + 1 := by omega
      rw [e1]; exact he'
    · have hb' : b < s.heap.objs.size := by
        have e' : b = e ∨ b = it := by simpa using hb
        rcases e' with z | z
        · rw [z]; exact hel
        · rw [z]; exact hil
      rw [upd_ne (Nat.ne_of_lt hb')]
      exact (hf b hb).1
  done := by
    intro X hP hw hK hc i pins s σ H E I hf st hg
    obtain ⟨hle, hC⟩ := hg
    obtain ⟨⟨old, he⟩, hit⟩ := st
    obtain ⟨fp, Pv, St, D, hef, hst, hin, hle2, hyv⟩ := hd X hP hw hK hc pins s σ H i old _ I hit he hC
    subst hP hw hK
    obtain ⟨f0, f1, f2, f3, f4, f5⟩ := hf it (by simp)
    have ei : i = n := Nat.le_antisymm hle2 hle
    rw [ei] at hst
    exact wpAny_pyNext_enum_endD D he hst fun h' eb => ⟨rfl, I.turned (t' := s.toks) (fun b o hb q => eb b o hb q) f0 f1 f3 f4 f5⟩
  self := fun A i s Q E st h => let ⟨⟨_, he⟩, _⟩ := st; wpAny_pyIter_enum he h
/-- the characters of a text -/
def chs (x : Str) : List D := x.cps.toList.map fun c => D.str ⟨#[c]⟩
set_option maxHeartbeats 1000000 in
theorem new_enumB {v : Value} {ob : Obj} {HB : Heap → Prop} (B : Begins v ob HB) :
    Meets (Builtin.«enumerate.__new__» ⟨[.type "enumerate", v], []⟩) (fun _ R sh => HB sh.heap ∧
      R (.ok (.ret (.ref (sh.heap.push ob).objs.size))) { sh with heap := (sh.heap.push ob).push { cls := .type "enumerate", data := .fields #[.none, .bool false, .ref sh.heap.objs.size, rawInt 0, .none, .none] } }) :=
  .of_wp fun prog w A R sh hh => by
    obtain ⟨hp, g, dr, tk, os⟩ := sh
    obtain ⟨hB, hR⟩ := hh
    have hsub := sub_enumerate
    have it1 : ∀ {A' : Around} {E' : Value → Shared → Prop} {Q' : Value → Shared → Prop}, Q' (.ref hp.objs.size) ⟨hp.push ob, g, dr, tk, os⟩ → wpAny (model prog w) A' (pyIter v) Q' E' ⟨hp, g, dr, tk, os⟩ :=
      fun q => B.iter prog w _ _ ⟨hp, g, dr, tk, os⟩ _ hB q
    wp_walk using it1
    refine wpAny_stack_any fun st => wpAny_pure ?_
    split
    · rename_i c _ _ _ _ _
      cases (c == Value.type "enumerate")
      all_goals (wp_walk using it1; exact ⟨_, rfl, hR⟩)
    · wp_walk using it1
      exact ⟨_, rfl, hR⟩
theorem call_enumB {prog : Program} {w : World} {A : Around} {E : Value → Shared → Prop} {sh : Shared} {v : Value} {ob : Obj} {HB : Heap → Prop} {Q : Value → Shared → Prop} (B : Begins v ob HB) (hB : HB sh.heap)
    (hq : ∀ h', IsEnum h' (sh.heap.objs.size + 1) sh.heap.objs.size 0 .none → h'.get? sh.heap.objs.size = some ob → h'.objs.size = sh.heap.objs.size + 2 →
      (∀ b o, sh.heap.get? b = some o → h'.get? b = some o) → Q (.ref (sh.heap.objs.size + 1)) { sh with heap := h' }) :
    wpAny (model prog w) A (call (.type "enumerate") [v]) Q E sh := by
  refine callType_new F.called_enumerate (by decide) (F.typeCall_enumerate_1 _) (F.newCall_enumerate_1 _) (fun obj => F.args_object_init_2 obj _) F.entry_enumerate_new (new_enumB B) ⟨hB, ?_⟩
  have hz : (sh.heap.push ob).objs.size = sh.heap.objs.size + 1 := Heap.size_push ..
  show _ ∧ _
  rw [hz]
  have he := Heap.get?_push_size (sh.heap.push ob) (o := { cls := .type "enumerate", data := .fields #[.none, .bool false, .ref sh.heap.objs.size, rawInt 0, .none, .none] }) rfl
  rw [hz] at he
  exact ⟨⟨_, he, rfl⟩, hq _ he (Heap.get?_push_of_some _ (Heap.get?_push_size _ B.free)) (by rw [Heap.size_push, hz]) fun b o y => Heap.get?_push_of_some _ (Heap.get?_push_of_some _ y)⟩
def JenT (K : PySem.W.Frag) (a : Addr) (xs : List V) : It := Jen xs.length (fun i v => xs[i]? = some v) (fun H => SqT K H a xs)
def JenS (x : Str) : It := Jen x.cps.size (fun i v => ∃ c, x.cps[i]? = some c ∧ v = .str ⟨#[c]⟩) (fun _ => True)
theorem turn_enumT {P : Program} {w : World} {K : PySem.W.Frag} {elts : List Expr} {kk : Nat} {tpos : Pos} {a : Addr} {xs : List V} (e it : Addr) (hne : e ≠ it) :
    Turn P w K (.Tuple elts kk tpos) (JenT K a xs) [e, it] e (fun i h => (∃ old, IsEnum h e it ((i : Nat) : Int) old) ∧ h.IsTupleIter it a i ∧ i ≤ xs.length) := by
  refine turn_enumD (ty := "tuple_iterator") hne (fun i h hi => ?_) (fun i h h' hi hk => ⟨hi.1.at fun o q => hk o q, hi.2⟩) fun X hP hw hK hc pins s σ H i old c I hi he hC => ?_
  · obtain ⟨⟨o, ho, hc, hd⟩, _⟩ := hi
    exact ⟨o, _, ho, hc, hd⟩
  · subst hP hw hK
    obtain ⟨its, rv, p, hz⟩ := I.tuple hC
    have hl := rv.length
    have hh : X.A.in1.handled = none := I.ok.hd hc
    have ht : a ≠ it := fun z => by
      obtain ⟨⟨o1, h1, c1, _⟩, _⟩ := hi
      obtain ⟨o2, h2, c2, _⟩ := p
      rw [z, h1] at h2; cases h2
      rw [c1] at c2; exact absurd c2 (by decide)
    have hte : e ≠ a := fun z => by
      obtain ⟨o2, h2, c2, _⟩ := p
      rw [← z] at h2
      rw [show s.heap.get? e = _ from he] at h2; cases h2
      exact absurd (show Value.type "enumerate" = Value.type "tuple" from c2) (by decide)
    have D := Draws.tuple (prog := X.prog) (w := X.w) hh it a ht its.toArray
    rw [show its.toArray.size = xs.length by simp only [List.size_toArray]; omega] at D
    refine ⟨_, _, fun j h => (h.IsTupleIter it a j ∧ h.IsTuple a its.toArray) ∧ j ≤ xs.length, ⟨fun j h st => D.live j h st.1, fun j h h' st q => ⟨D.frame j h h' st.1 q, st.2⟩, fun j s Q E hj st hQ => D.item j s Q E hj st.1 fun x h' tk p1 p2 p3 => hQ x h' tk p1 ⟨p2, hj⟩ p3, fun s Q E st hE => D.done s Q E st.1 hE⟩, by simp [hne, hte], ⟨⟨hi.1, p⟩, hi.2⟩, fun j h st => ⟨st.1.1, st.2⟩, hi.2, fun v hv => ?_⟩
    have hv : its[i]? = some v := by simpa using hv
    have hlt : i < xs.length := by have := (List.getElem?_eq_some_iff.mp hv).1; omega
    obtain ⟨u, hu, ru⟩ := rv.get (List.getElem?_eq_getElem hlt)
    rw [hv] at hu; cases hu
    exact ⟨_, ru, List.getElem?_eq_getElem hlt⟩
theorem turn_enumS {P : Program} {w : World} {K : PySem.W.Frag} {elts : List Expr} {kk : Nat} {tpos : Pos} {x : Str} {t : Tok} (e it : Addr) (hne : e ≠ it) :
    Turn P w K (.Tuple elts kk tpos) (JenS x) [e, it] e (fun i h => (∃ old, IsEnum h e it ((i : Nat) : Int) old) ∧ h.IsStrIter it (strIterType x) x t i ∧ i ≤ x.cps.size) := by
  refine turn_enumD (ty := strIterType x) hne (fun i h hi => ?_) (fun i h h' hi hk => ⟨let ⟨o, ho, r⟩ := hi.1; ⟨o, hk o ho, r⟩, hi.2⟩) fun X hP hw hK hc pins s σ H i old c I hi he hC => ?_
  · obtain ⟨⟨o, ho, hc, hd⟩, _⟩ := hi
    exact ⟨o, _, ho, hc, hd⟩
  · subst hP hw hK
    have hh : X.A.in1.handled = none := I.ok.hd hc
    have D := Draws.text (prog := X.prog) (w := X.w) hh it x t
    refine ⟨_, _, fun j h => h.IsStrIter it (strIterType x) x t j ∧ j ≤ x.cps.size, ⟨fun j h st => D.live j h st.1, fun j h h' st q => ⟨D.frame j h h' st.1 q, st.2⟩, fun j s Q E hj st hQ => D.item j s Q E hj st.1 fun v h' tk p1 p2 p3 => hQ v h' tk p1 ⟨p2, hj⟩ p3, fun s Q E st hE => D.done s Q E st.1 hE⟩, by simp [hne], hi, fun j h st => st, hi.2, fun v hv => ?_⟩
    obtain ⟨c, u, hcx, rfl⟩ := hv
    exact ⟨.str ⟨#[c]⟩, ⟨u, rfl⟩, c, hcx, rfl⟩
def iEnAny (K : PySem.W.Frag) (ta : TA) : TI := fun σ H R => ta σ H fun vs H1 => ∃ v, vs = [v] ∧ ((∃ a xs, v = .ref a ∧ SqL K H1 a xs ∧ R (Ite K a) H1) ∨ (∃ a xs, v = .ref a ∧ SqT K H1 a xs ∧ R (JenT K a xs) H1) ∨ ∃ x, v = .str x ∧ R (JenS x) H1)
theorem pi_enumAny {X : Cx} {e : Expr} {ta : TA} {p pos tpos : Pos} {elts : List Expr} {kk : Nat} (hg : Gl X "enumerate") (hm : X.mg "enumerate" = none) (ha : PA X [e] ta) (hs : starEach [e] X.env = [(false, eval e X.env)]) :
    PI X (.Tuple elts kk tpos) (.Call (.Name "enumerate" p) [e] [] pos) (iEnAny X.K ta) := by
  refine ⟨fun pins s σ H R I h => ?_⟩
  refine Call_ (ld_blt I hg hm boot_enumerate (PyProof.Rows.callWith_type1 (thn (ha.run pos pins s σ H _ I h) fun us s1 ⟨vs, H1, I1, r1, q1⟩ => ?_) hs rfl))
  have fpo : ∀ b ∈ [s1.heap.objs.size + 1, s1.heap.objs.size], FpOk X pins H1 b := fun b hb => by
    have e' : b = s1.heap.objs.size + 1 ∨ b = s1.heap.objs.size := by simpa using hb
    have hle : s1.heap.objs.size ≤ b := by
      rcases e' with z | z
      · rw [z]; exact Nat.le_add_right _ _
      · rw [z]; exact Nat.le_refl _
    exact I1.fpOk hle (I1.hok.fresh hle)
  obtain ⟨v, ex, q1⟩ := q1
  subst ex
  cases r1 with
  | cons r rr =>
    cases rr
    rcases q1 with ⟨a, xs, rfl, hq, q⟩ | ⟨a, xs, rfl, hq, q⟩ | ⟨x, rfl, q⟩
    · cases r
      obtain ⟨its, rv, p', hz⟩ := I1.list hq
      refine call_enumerate_list p'.isList fun h' he hit hsz hk => wpAny_pyIter_enum he ?_
      exact ⟨_, _, _, _, H1, rfl, I1.kept (t' := s1.toks) hk, turn_enum a (s1.heap.objs.size + 1) s1.heap.objs.size, ⟨⟨.none, he⟩, hit, Nat.succ_ne_self _⟩, fpo, q⟩
    · cases r
      obtain ⟨its, rv, p', hz⟩ := I1.tuple hq
      refine call_enumB (begins_tuple a its.toArray) p' fun h' he hit hsz hk => wpAny_pyIter_enum he ?_
      exact ⟨_, _, _, _, H1, rfl, I1.kept (t' := s1.toks) hk, turn_enumT (s1.heap.objs.size + 1) s1.heap.objs.size (Nat.succ_ne_self _), ⟨⟨.none, he⟩, ⟨_, hit, rfl, rfl⟩, Nat.zero_le _⟩, fpo, q⟩
    · obtain ⟨t, rfl⟩ := r
      refine call_enumB (begins_text x t) trivial fun h' he hit hsz hk => wpAny_pyIter_enum he ?_
      exact ⟨_, _, _, _, H1, rfl, I1.kept (t' := s1.toks) hk, turn_enumS (x := x) (t := t) (s1.heap.objs.size + 1) s1.heap.objs.size (Nat.succ_ne_self _), ⟨⟨.none, he⟩, ⟨_, hit, rfl, rfl⟩, Nat.zero_le _⟩, fpo, q⟩

theorem gi_enumT {K : PySem.W.Frag} {V1 : Hp} {a : Addr} {xs : List V} {ds : List D} (h : SqT K V1 a xs) (r : RpA K V1 xs ds) : GI K V1 (JenT K a xs) (enumW 0 ds) none := by
  have hl := r.length
  have hs : ∀ {F V2 : Hp} {os : Os} {H : Hp}, Same V1 V2 → Rel K F V2 os H → SqT K H a xs := fun s2 r2 => same_sqT (s2.trans r2.vi) h
  refine ⟨fun i F V2 os H s2 r2 _ hi => ⟨by rw [enumW_len] at hi; omega, hs s2 r2⟩, fun i F V2 os H s2 r2 _ hi => ⟨by rw [enumW_len] at hi; omega, hs s2 r2⟩, fun i F V2 os H x H' w s2 r2 _ y e => ?_⟩
  obtain ⟨T, v, rfl, hT, rfl, ex⟩ := y
  obtain ⟨d, ed, rd⟩ := r.getV ex
  obtain ⟨d', ed', rfl⟩ := enumW_get e
  rw [ed] at ed'; cases ed'
  obtain ⟨s3, r3, rp⟩ := rel_newT (vs := [.int (i : Nat), v]) (ds := [.int (i : Nat), d]) r2 hT (.cons (.int _) (.cons (Rp.mono s2 rd) .nil))
  rw [Int.zero_add]
  exact ⟨_, s3, r3, rp⟩
theorem chs_len (x : Str) : (chs x).length = x.cps.size := by simp [chs]
theorem chs_get {x : Str} {i : Nat} {w : D} (h : (chs x)[i]? = some w) : ∃ c, x.cps[i]? = some c ∧ w = .str ⟨#[c]⟩ := by
  unfold chs at h
  rw [List.getElem?_map] at h
  obtain ⟨c, hc, rfl⟩ := Option.map_eq_some_iff.mp h
  exact ⟨c, by simpa using hc, rfl⟩
theorem gi_enumS {K : PySem.W.Frag} {V1 : Hp} {x : Str} : GI K V1 (JenS x) (enumW 0 (chs x)) none := by
  refine ⟨fun i F V2 os H s2 r2 _ hi => ⟨by rw [enumW_len, chs_len] at hi; exact hi, trivial⟩, fun i F V2 os H s2 r2 _ hi => ⟨by rw [enumW_len, chs_len] at hi; exact hi, trivial⟩, fun i F V2 os H v H' w s2 r2 _ y e => ?_⟩
  obtain ⟨T, v, rfl, hT, rfl, c, hc, rfl⟩ := y
  obtain ⟨d', ed', rfl⟩ := enumW_get e
  obtain ⟨c', hc', rfl⟩ := chs_get ed'
  rw [hc] at hc'; cases hc'
  obtain ⟨s3, r3, rp⟩ := rel_newT (vs := [.int (i : Nat), .str ⟨#[c]⟩]) (ds := [.int (i : Nat), .str ⟨#[c]⟩]) r2 hT (.cons (.int _) (.cons (.str _) .nil))
  rw [Int.zero_add]
  exact ⟨_, s3, r3, rp⟩
theorem gi_str {K : PySem.W.Frag} {V1 : Hp} {x : Str} : GI K V1 (Its x) (chs x) none := by
  refine ⟨fun i F V2 os H s2 r2 _ hi => by rw [chs_len] at hi; exact hi, fun i F V2 os H s2 r2 _ hi => by rw [chs_len] at hi; exact hi, fun i F V2 os H v H' w s2 r2 _ y e => ?_⟩
  obtain ⟨rfl, c, hc, rfl⟩ := y
  obtain ⟨c', hc', rfl⟩ := chs_get e
  rw [hc] at hc'; cases hc'
  exact ⟨V2, Same.refl _, r2, .str _⟩
/-- enumerate(..): a list, owned or data, a tuple, a text -/
def iEnA (te : TrE) : TrI := fun kx env os ki => te kx env os fun w os1 => match w with
  | .lst ds => ki (enumW 0 ds) none os1
  | .tup ds => ki (enumW 0 ds) none os1
  | .str x => ki (enumW 0 (chs x)) none os1
  | .ref p => ∃ (n : Nat) (ws : List D), os1[n]? = some (p, OO.lst ws) ∧ ki (enumW 0 ws) (some (p, ws)) os1
  | _ => False
theorem ci_enA {X : Cx} {e : Expr} {te : TrE} {p pos : Pos} {elts : List Expr} {kk : Nat} {tpos : Pos} (hg : Gl X "enumerate") (hm : X.mg "enumerate" = none) (h : Cm X e te) (hs : starEach [e] X.env = [(false, eval e X.env)]) :
    CmI X (.Tuple elts kk tpos) (.Call (.Name "enumerate" p) [e] [] pos) (iEnA te) := by
  intro kx env os ki q F V0 H σ R W r sr ek c
  refine wPI_of (pi_enumAny hg hm (pa_cons wE_pe pa_nil hs) hs) ?_
  refine h _ _ _ _ q F V0 H σ _ W r sr ek fun V1 os1 H1 v w s1 r1 rv q => ?_
  split at q
  · obtain ⟨p, xs, rfl, h1, h2⟩ := rp_lst rv
    exact ⟨_, rfl, .inl ⟨p, xs, rfl, r1.vi.seq h1, c V1 os1 H1 _ _ _ s1 r1 (gi_enum h1 h2) q⟩⟩
  · obtain ⟨p, xs, rfl, h1, h2⟩ := rp_tup rv
    exact ⟨_, rfl, .inr (.inl ⟨p, xs, rfl, same_sqT r1.vi h1, c V1 os1 H1 _ _ _ s1 r1 (gi_enumT h1 h2) q⟩)⟩
  · cases rv
    exact ⟨_, rfl, .inr (.inr ⟨_, rfl, c V1 os1 H1 _ _ _ s1 r1 gi_enumS q⟩)⟩
  · obtain ⟨n, ws, ho, q⟩ := q
    obtain rfl := rv.toRef
    obtain ⟨_, _, ho', h3, vs, rfl, h4⟩ := r1.own _ (List.mem_of_getElem? ho)
    exact ⟨_, rfl, .inl ⟨_, vs, rfl, SqL.of h3, c V1 os1 H1 _ _ _ s1 r1 gi_enum_own q⟩⟩
  · exact q.elim
/-- for c in a text -/
def iStrD (te : TrE) : TrI := fun kx env os ki => te kx env os fun w os1 => match w with
  | .str x => ki (chs x) none os1
  | _ => False
theorem ci_strD {X : Cx} {e tge : Expr} {te : TrE} (h : Cm X e te) : CmI X tge e (iStrD te) := by
  intro kx env os ki q F V0 H σ R W r sr ek c
  refine wPI_of (pi_str wE_pe) ?_
  refine h _ _ _ _ q F V0 H σ _ W r sr ek fun V1 os1 H1 v w s1 r1 rv q => ?_
  split at q
  · cases rv
    exact ⟨_, rfl, c V1 os1 H1 _ _ _ s1 r1 gi_str q⟩
  · exact q.elim
theorem gi_zipT {K : PySem.W.Frag} {V1 : Hp} {a b : Addr} {xs ys : List V} {ds es : List D} (h : SqT K V1 a xs) (r : RpA K V1 xs ds) (h' : SqT K V1 b ys) (r' : RpA K V1 ys es) : GI K V1 (RZ.ItzT K a b) (zipW ds es) none := by
  have hl := r.length
  have hl' := r'.length
  have hs : ∀ {F V2 : Hp} {os : Os} {H : Hp}, Same V1 V2 → Rel K F V2 os H → SqT K H a xs ∧ SqT K H b ys := fun s2 r2 => ⟨same_sqT (s2.trans r2.vi) h, same_sqT (s2.trans r2.vi) h'⟩
  refine ⟨fun i F V2 os H s2 r2 _ hi => ?_, fun i F V2 os H s2 r2 _ hi => ?_, fun i F V2 os H x H' w s2 r2 _ y e => ?_⟩
  · rw [zipW_len] at hi
    exact ⟨xs, ys, xs[i]'(by omega), ys[i]'(by omega), (hs s2 r2).1, (hs s2 r2).2, by simp, by simp⟩
  · rw [zipW_len] at hi
    exact ⟨xs, ys, (hs s2 r2).1, (hs s2 r2).2, by omega⟩
  · obtain ⟨T, u, v, rfl, hT, rfl, y1, y2⟩ := y
    obtain ⟨d, ed, rd⟩ := r.getV (y1 xs (hs s2 r2).1)
    obtain ⟨d2, ed2, rd2⟩ := r'.getV (y2 ys (hs s2 r2).2)
    obtain ⟨d', e', ed', ee', rfl⟩ := zipW_get e
    rw [ed] at ed'; cases ed'
    rw [ed2] at ee'; cases ee'
    obtain ⟨s3, r3, rp⟩ := rel_newT (vs := [u, v]) (ds := [d, d2]) r2 hT (.cons (Rp.mono s2 rd) (.cons (Rp.mono s2 rd2) .nil))
    exact ⟨_, s3, r3, rp⟩
/-- zip of two lists, of two tuples -/
def iZipA (ta tb : TrE) : TrI := fun kx env os ki => ta kx env os fun w os1 => tb kx env os1 fun u os2 => match w with
  | .lst ds => (match u with
    | .lst es => ki (zipW ds es) none os2
    | _ => False)
  | .tup ds => (match u with
    | .tup es => ki (zipW ds es) none os2
    | _ => False)
  | _ => False
theorem ci_zipA {X : Cx} {a b : Expr} {ta tb : TrE} {p pos : Pos} {elts : List Expr} {kk : Nat} {tpos : Pos} (hg : Gl X "zip") (hm : X.mg "zip" = none) (h : Cm X a ta) (h2 : Cm X b tb)
    (hs : starEach [a, b] X.env = (false, eval a X.env) :: starEach [b] X.env) (hs2 : starEach [b] X.env = [(false, eval b X.env)]) (hpl : (backTo pos (starEach [b] X.env)).any (·.1) = false) :
    CmI X (.Tuple elts kk tpos) (.Call (.Name "zip" p) [a, b] [] pos) (iZipA ta tb) := by
  intro kx env os ki q F V0 H σ R W r sr ek c
  refine wPI_of (RZ.pi_zipA hg hm (pa_cons wE_pe (pa_cons wE_pe pa_nil hs2) hs) hs hpl) ?_
  refine h _ _ _ _ q F V0 H σ _ W r sr ek fun V1 os1 H1 v w s1 r1 rv q => ?_
  refine h2 _ _ _ _ q F V1 H1 σ _ W r1 (sr.mono s1) (ek.mono s1) fun V2 os2 H2 u y s2 r2 ru q => ?_
  split at q
  · split at q
    · obtain ⟨p, xs, rfl, h1, h2⟩ := rp_lst rv
      obtain ⟨p', ys, rfl, h3, h4⟩ := rp_lst ru
      exact ⟨p, p', xs, ys, rfl, .inl ⟨(s2.trans r2.vi).seq h1, r2.vi.seq h3, c V2 os2 H2 _ _ _ (s1.trans s2) r2 (gi_zip (s2.seq h1) (RpA.mono s2 h2) h3 h4) q⟩⟩
    · exact q.elim
  · split at q
    · obtain ⟨p, xs, rfl, h1, h2⟩ := rp_tup rv
      obtain ⟨p', ys, rfl, h3, h4⟩ := rp_tup ru
      exact ⟨p, p', xs, ys, rfl, .inr ⟨same_sqT (s2.trans r2.vi) h1, same_sqT r2.vi h3, c V2 os2 H2 _ _ _ (s1.trans s2) r2 (gi_zipT (same_sqT s2 h1) (RpA.mono s2 h2) h3 h4) q⟩⟩
    · exact q.elim
  · exact q.elim
/-- tuple(xs) -/
def cTup : TrC := fun ws os k => match ws with
  | [w] => (match w with
    | .tup ds => k (.tup ds) os
    | w => lstK w os fun ds => k (.tup ds) os)
  | _ => False
theorem cmc_tup {X : Cx} : CmC X (.type "tuple") cTup := by
  intro ws os k h
  unfold cTup at h
  split at h
  · split at h
    · exact JC.mk call_tuple_of fun F V0 H vs Q r rs c => by
        obtain ⟨v, rfl, rv⟩ := rs.one
        obtain ⟨a, xs, rfl, h1, h2⟩ := rp_tup rv
        exact ⟨a, xs, rfl, .inr ⟨same_sqT r.vi h1, c V0 os H _ _ (Same.refl _) r rv h⟩⟩
    · obtain ⟨ds, hd, q⟩ := lstK_of h
      exact JC.mk call_tuple_of fun F V0 H vs Q r rs c => by
        obtain ⟨v, rfl, rv⟩ := rs.one
        obtain ⟨a, xs, rfl, h1, h2⟩ := lstOf_of r rv hd
        refine ⟨a, xs, rfl, .inl ⟨h1, fun l hl => ?_⟩⟩
        obtain ⟨s2, r2, rp⟩ := rel_newT r hl h2
        exact c _ os _ _ (.tup ds) s2 r2 rp q
  · exact h.elim
/-! ### index of texts -/
theorem sidx_ne : ∀ (ns : List Str) (i : Str) (m : Nat), m < ns.idxOf i → ns[m]? ≠ some i
  | [], i, m, h => by simp at h
  | a :: r, i, 0, h => by
    rw [List.idxOf_cons] at h
    intro e
    have e : a = i := by simpa using e
    rw [e] at h
    simp at h
  | a :: r, i, m + 1, h => by
    rw [List.idxOf_cons] at h
    rw [List.getElem?_cons_succ]
    by_cases e : a = i
    · rw [e] at h; simp at h
    · rw [show (a == i) = false from beq_eq_false_iff_ne.mpr e] at h
      exact sidx_ne r i m (by simpa using h)
theorem rpA_str {K : PySem.W.Frag} {V0 : Hp} : ∀ {ys : List Str} {vs : List V}, RpA K V0 vs (ys.map D.str) → vs = ys.map V.str
  | [], _, h => by cases h; rfl
  | y :: ys, _, h => by
    cases h with
    | cons a b => cases a; rw [rpA_str b]; rfl
section
variable {X : Cx} {pos pos' apos cpos tpos : Pos} {o e : Expr} {to te : TrE}
/-- a tuple of texts that is a constant of the module -/
structure GlbT (K : PySem.W.Frag) (mg : Str → Option Value) (x : Str) (ys : List Str) : Prop where
  ex : ∃ (a : Addr) (ob : Obj), mg x = some (.ref a) ∧ K.lookup a = some ob ∧ ob.cls = .type "tuple" ∧ ob.dict = none ∧ ∀ V0 : Hp, Rp K V0 (.ref a) (.tup (ys.map D.str))
/-- T.index(e), T a constant -/
def eTIdx (ys : List Str) (te : TrE) : TrE := fun kx env os k => te kx env os fun y os2 => match y with
  | .str z => z ∈ ys ∧ k (.int (ys.idxOf z : Nat)) os2
  | _ => False
/-- xs.index(e): texts -/
def eLIdxS (to te : TrE) : TrE := fun kx env os k => to kx env os fun w os1 => eLCnt.lstH w os1 (te kx env os1 fun y os2 => match y with
  | .str z => ∃ ys : List Str, LstOf os2 w (ys.map D.str) ∧ z ∈ ys ∧ k (.int (ys.idxOf z : Nat)) os2
  | _ => False)
theorem cm_lidxS (h : Cm X o to) (h2 : Cm X e te) (hbase : attributeBase o "index" X.env (eval o X.env) = eval o X.env)
    (hfew : ((backTo cpos (starEach [e] X.env)).all (fun x => !x.1) && (backToKw cpos (keywordEach [] X.env)).all (fun x => x.1.isSome)
      && decide ([e].length + ([] : List Keyword).length + (if ([] : List Keyword).isEmpty then 0 else 1) < 30)) = true)
    (hline : (apos.endLine == cpos.line) = true) (hs : starEach [e] X.env = (false, eval e X.env) :: starEach [] X.env) :
    Cm X (.Call (.Attribute o "index" apos) [e] [] cpos) (eLIdxS to te) := by
  intro kx env os k q F V0 H σ Q W r sr ek c
  refine wE_of (pe_bm PySem.F.plainAttrs_list PySem.F.slot_list_index PySem.F.type_list_index mt_index wE_pe (pa_cons wE_pe pa_nil hs) hbase hfew hline hs) ?_
  refine h _ _ _ _ q F V0 H σ _ W r sr ek fun V1 os1 H1 v w s1 r1 rv q => ?_
  obtain ⟨a, rfl, ty, q⟩ := tyL_of r1 rv q
  refine ⟨ty, ?_⟩
  refine h2 _ _ _ _ q F V1 H1 σ _ W r1 (sr.mono s1) (ek.mono s1) fun V2 os2 H2 u y s2 r2 ru q => ?_
  split at q
  · rename_i i
    obtain ⟨ns, hl, hi, q⟩ := q
    obtain ⟨a', vs, e', h3, h4⟩ := lstOf_of r2 (rv.mono s2) hl
    cases e'
    have e3 := rpA_str h4
    subst e3
    cases ru
    have hj := List.idxOf_lt_length_iff.mpr hi
    refine ⟨a, _, .str i, ns.idxOf i, .str i, rfl, rfl, h3, rfl, List.all_eq_true.mpr fun x hx => ?_, ?_, ?_, fun m z' hm hz => ?_, c V2 os2 H2 _ _ (s1.trans s2) r2 rwI q⟩
    · obtain ⟨n, _, rfl⟩ := List.mem_map.mp hx; rfl
    · rw [List.getElem?_map, List.getElem?_eq_getElem hj, List.getElem_idxOf hj]; rfl
    · simp [eqV]
    · rw [List.getElem?_map] at hz
      obtain ⟨n, hn, rfl⟩ := Option.map_eq_some_iff.mp hz
      have ne : n ≠ i := fun e => sidx_ne ns i m hm (by rw [hn, e])
      simp [eqV, ne]
  · exact q.elim
theorem cm_tidx {x : Str} {ys : List Str} {p : Pos} (g : GlbT X.K X.mg x ys) (hg : Gl X x) (hd : (x == ("__debug__" : Str)) = false) (h2 : Cm X e te) (hbase : attributeBase (.Name x p) "index" X.env (eval (.Name x p) X.env) = eval (.Name x p) X.env)
    (hfew : ((backTo cpos (starEach [e] X.env)).all (fun x => !x.1) && (backToKw cpos (keywordEach [] X.env)).all (fun x => x.1.isSome)
      && decide ([e].length + ([] : List Keyword).length + (if ([] : List Keyword).isEmpty then 0 else 1) < 30)) = true)
    (hline : (apos.endLine == cpos.line) = true) (hs : starEach [e] X.env = (false, eval e X.env) :: starEach [] X.env) :
    Cm X (.Call (.Attribute (.Name x p) "index" apos) [e] [] cpos) (eTIdx ys te) := by
  obtain ⟨a, ob, h1, h3, h4, h5, h6⟩ := g.ex
  intro kx env os k q F V0 H σ Q W r sr ek c
  refine wE_of (pe_bm PySem.F.plainAttrs_tuple PySem.F.slot_tuple_index PySem.F.type_tuple_index mt_tup_index (pe_glob hg h1 (v := .ref a) rfl hd) (pa_cons wE_pe pa_nil hs) hbase hfew hline hs) ?_
  refine ⟨.inr (.inl ⟨rfl, ob, h3, h4, h5⟩), ?_⟩
  refine h2 _ _ _ _ q F V0 H σ _ W r sr ek fun V2 os2 H2 u y s2 r2 ru q => ?_
  unfold eTIdx at q
  split at q
  · rename_i z
    obtain ⟨hi, q⟩ := q
    cases ru
    obtain ⟨a', xs, e', h7, h8⟩ := rp_tup (h6 V2)
    cases e'
    have e3 := rpA_str h8
    subst e3
    have hj := List.idxOf_lt_length_iff.mpr hi
    exact ⟨a, ys, z, ys.idxOf z, rfl, rfl, same_sqT r2.vi h7, by rw [List.getElem?_eq_getElem hj, List.getElem_idxOf hj], fun m hm => sidx_ne ys z m hm, c V2 os2 H2 _ _ s2 r2 rwI q⟩
  · exact q.elim
end
end EV

set_option Elab.async false
set_option linter.all false
set_option maxRecDepth 100000
/-! E8: lemmas that a reading uses. -/
namespace EV
open PySem PySem.Spec PyProof.Rows L2
section
variable {A B P : Prop} {b : Bool}
theorem brT (h : A) : (true = true → A) ∧ (true = false → B) := ⟨fun _ => h, fun e => nomatch e⟩
theorem brF (h : B) : (false = true → A) ∧ (false = false → B) := ⟨fun e => (nomatch e), fun _ => h⟩
theorem brD [Decidable P] (h1 : P → A) (h2 : ¬ P → B) : (decide P = true → A) ∧ (decide P = false → B) := ⟨fun h => h1 (of_decide_eq_true h), fun h => h2 (of_decide_eq_false h)⟩
theorem brDN [Decidable P] (h1 : ¬ P → A) (h2 : P → B) : ((!decide P) = true → A) ∧ ((!decide P) = false → B) := by
  by_cases hp : P
  · rw [decide_eq_true hp]
    exact ⟨fun e => (nomatch e), fun _ => h2 hp⟩
  · rw [decide_eq_false hp]
    exact ⟨fun _ => h1 hp, fun e => nomatch e⟩
theorem brDT [Decidable P] (hp : P) (h : A) : (decide P = true → A) ∧ (decide P = false → B) := ⟨fun _ => h, fun e => absurd hp (of_decide_eq_false e)⟩
theorem brDF [Decidable P] (hp : ¬ P) (h : B) : (decide P = true → A) ∧ (decide P = false → B) := ⟨fun e => absurd (of_decide_eq_true e) hp, fun _ => h⟩
theorem brDNT [Decidable P] (hp : ¬ P) (h : A) : ((!decide P) = true → A) ∧ ((!decide P) = false → B) := ⟨fun _ => h, fun e => absurd e (by rw [decide_eq_false hp]; exact fun z => nomatch z)⟩
theorem brDNF [Decidable P] (hp : P) (h : B) : ((!decide P) = true → A) ∧ ((!decide P) = false → B) := ⟨fun e => absurd e (by rw [decide_eq_true hp]; exact fun z => nomatch z), fun _ => h⟩
theorem br2 (h1 : b = true → A) (h2 : b = false → B) : (b = true → A) ∧ (b = false → B) := ⟨h1, h2⟩
theorem brN2 (h1 : b = false → A) (h2 : b = true → B) : ((!b) = true → A) ∧ ((!b) = false → B) := by
  cases b
  · exact ⟨fun _ => h1 rfl, fun e => nomatch e⟩
  · exact ⟨fun e => (nomatch e), fun _ => h2 rfl⟩
theorem orT (h : B) : (true = false → A) ∧ (true = true → B) := ⟨fun e => (nomatch e), fun _ => h⟩
theorem orF (h : A) : (false = false → A) ∧ (false = true → B) := ⟨fun _ => h, fun e => nomatch e⟩
theorem orD [Decidable P] (h1 : ¬ P → A) (h2 : P → B) : (decide P = false → A) ∧ (decide P = true → B) := ⟨fun h => h1 (of_decide_eq_false h), fun h => h2 (of_decide_eq_true h)⟩
theorem orDT [Decidable P] (hp : P) (h : B) : (decide P = false → A) ∧ (decide P = true → B) := ⟨fun e => absurd hp (of_decide_eq_false e), fun _ => h⟩
theorem orDF [Decidable P] (hp : ¬ P) (h : A) : (decide P = false → A) ∧ (decide P = true → B) := ⟨fun _ => h, fun e => absurd (of_decide_eq_true e) hp⟩
theorem orDN [Decidable P] (h1 : P → A) (h2 : ¬ P → B) : ((!decide P) = false → A) ∧ ((!decide P) = true → B) := ⟨(brDN h2 h1).2, (brDN h2 h1).1⟩
theorem or2 (h1 : b = false → A) (h2 : b = true → B) : (b = false → A) ∧ (b = true → B) := ⟨h1, h2⟩
theorem orN2 (h1 : b = true → A) (h2 : b = false → B) : ((!b) = false → A) ∧ ((!b) = true → B) := ⟨(brN2 h2 h1).2, (brN2 h2 h1).1⟩
end
theorem szI {n : Nat} (h : n ≤ 1000) : n ≤ sizeLine := Nat.le_of_lt (small1000 h)
theorem szJ {n : Nat} (h : n ≤ 1000) : n < sizeLine := small1000 h
theorem atI_len {α : Type} {ds : List α} {i : Int} (h0 : 0 ≤ i) (h1 : i < ds.length) (d : α) : atI ds i = some (ds.getD i.toNat d) := by
  obtain ⟨j, rfl⟩ : ∃ j : Nat, i = (j : Int) := ⟨i.toNat, by omega⟩
  have hj : j < ds.length := by omega
  refine atI_nat ?_
  simp [hj]
theorem atI_ints {ns : List Int} {i : Int} (h0 : 0 ≤ i) (h1 : i < ns.length) : atI (ns.map D.int) i = some (.int (ns.getD i.toNat 0)) := by
  obtain ⟨j, rfl⟩ : ∃ j : Nat, i = (j : Int) := ⟨i.toNat, by omega⟩
  have hj : j < ns.length := by omega
  refine atI_nat ?_
  simp [hj]
theorem atI_some {α : Type} {ds : List α} {i : Int} {d : α} (h0 : 0 ≤ i) (h1 : ds[i.toNat]? = some d) : atI ds i = some d := by
  obtain ⟨j, rfl⟩ : ∃ j : Nat, i = (j : Int) := ⟨i.toNat, by omega⟩
  exact atI_nat (by simpa using h1)
theorem ixN_some {n : Nat} {i : Int} (h0 : 0 ≤ i) (h1 : i < n) : ixN n i = some i.toNat := by
  have e := atI_len (ds := List.replicate n ()) h0 (by simpa using h1) ()
  unfold atI at e
  rw [List.length_replicate] at e
  cases q : ixN n i with
  | none => rw [q] at e; cases e
  | some j =>
    unfold ixN at q
    simp only [h0, h1] at q
    split at q <;> simp_all
theorem scal_ints : ∀ ns : List Int, (ns.map D.int).all isScal = true
  | [] => rfl
  | _ :: ns => scal_ints ns
theorem inD_ints {i : Int} : ∀ ns : List Int, inD (.int i) (ns.map D.int) = decide (i ∈ ns)
  | [] => by simp [inD, inV]
  | n :: ns => by
    have h := inD_ints (i := i) ns
    unfold inD inV at h ⊢
    rw [List.map_cons, List.map_cons, List.any_cons, h]
    by_cases e : n = i
    · subst e; simp [eqV, scalD]
    · have e' : i ≠ n := fun x => e x.symm
      simp [eqV, scalD, e, e']
theorem shpA_ints (ns : List Int) (n : Nat) : shpA (ns.map D.int) n = true := shpA_all.mpr fun d hd => by
  obtain ⟨i, _, rfl⟩ := List.mem_map.mp hd
  rfl
theorem shp_ints (ns : List Int) : shp (.lst (ns.map D.int)) 60 = true := by
  rw [shp, shpA_ints]; rfl
theorem eqvA_ints : ∀ ns ms : List Int, PyData.eqvAll (toPs (ns.map D.int)) (toPs (ms.map D.int)) = decide (ns = ms)
  | [], [] => by simp [toPs, PyData.eqvAll]
  | [], _ :: _ => by simp [toPs, PyData.eqvAll]
  | _ :: _, [] => by simp [toPs, PyData.eqvAll]
  | n :: r, m :: q => by
    simp only [List.map_cons, toPs, toP, PyData.eqvAll, PyData.eqv, eqvA_ints r q]
    by_cases h : n = m <;> simp [h]
theorem eqD_ints (ns ms : List Int) : eqD (.lst (ns.map D.int)) (.lst (ms.map D.int)) = decide (ns = ms) := by
  unfold eqD
  rw [toP, toP, PyData.eqv]
  exact eqvA_ints ns ms
theorem kit_NoneType_bool : kitB "NoneType" "bool" = some false := by decide +kernel
theorem kit_NoneType_int : kitB "NoneType" "int" = some false := by decide +kernel
theorem kit_NoneType_str : kitB "NoneType" "str" = some false := by decide +kernel
theorem kit_NoneType_tuple : kitB "NoneType" "tuple" = some false := by decide +kernel
theorem kit_NoneType_list : kitB "NoneType" "list" = some false := by decide +kernel
theorem kit_bool_bool : kitB "bool" "bool" = some true := by decide +kernel
theorem kit_bool_int : kitB "bool" "int" = some true := by decide +kernel
theorem kit_bool_str : kitB "bool" "str" = some false := by decide +kernel
theorem kit_bool_tuple : kitB "bool" "tuple" = some false := by decide +kernel
theorem kit_bool_list : kitB "bool" "list" = some false := by decide +kernel
theorem kit_int_bool : kitB "int" "bool" = some false := by decide +kernel
theorem kit_int_int : kitB "int" "int" = some true := by decide +kernel
theorem kit_int_str : kitB "int" "str" = some false := by decide +kernel
theorem kit_int_tuple : kitB "int" "tuple" = some false := by decide +kernel
theorem kit_int_list : kitB "int" "list" = some false := by decide +kernel
theorem kit_str_bool : kitB "str" "bool" = some false := by decide +kernel
theorem kit_str_int : kitB "str" "int" = some false := by decide +kernel
theorem kit_str_str : kitB "str" "str" = some true := by decide +kernel
theorem kit_str_tuple : kitB "str" "tuple" = some false := by decide +kernel
theorem kit_str_list : kitB "str" "list" = some false := by decide +kernel
theorem kit_tuple_bool : kitB "tuple" "bool" = some false := by decide +kernel
theorem kit_tuple_int : kitB "tuple" "int" = some false := by decide +kernel
theorem kit_tuple_str : kitB "tuple" "str" = some false := by decide +kernel
theorem kit_tuple_tuple : kitB "tuple" "tuple" = some true := by decide +kernel
theorem kit_tuple_list : kitB "tuple" "list" = some false := by decide +kernel
theorem kit_list_bool : kitB "list" "bool" = some false := by decide +kernel
theorem kit_list_int : kitB "list" "int" = some false := by decide +kernel
theorem kit_list_str : kitB "list" "str" = some false := by decide +kernel
theorem kit_list_tuple : kitB "list" "tuple" = some false := by decide +kernel
theorem kit_list_list : kitB "list" "list" = some true := by decide +kernel

/-! ### a block of some written things and of a rest -/
theorem perm_front (a b c : Os) : (a ++ (b ++ c)).Perm (b ++ (a ++ c)) := by
  have h := (List.perm_append_comm (l₁ := a) (l₂ := b)).append_right c
  rw [List.append_assoc, List.append_assoc] at h
  exact h
theorem blk_perm (a h b t c : Os) : (a ++ (h ++ (b ++ (t ++ c)))).Perm ((h ++ t) ++ (a ++ (b ++ c))) := by
  rw [List.append_assoc]
  refine (perm_front a h _).trans (List.Perm.append_left h ?_)
  exact ((perm_front b t c).append_left a).trans (perm_front a t _)
theorem blk_back (n : Nat) (a b c o : Os) : (o ++ (a ++ (b ++ c))).Perm (a ++ (o.take n ++ (b ++ (o.drop n ++ c)))) := by
  have h := (blk_perm a (o.take n) b (o.drop n) c).symm
  rw [List.take_append_drop] at h
  exact h
theorem callX_blk {T : FT} {ws : List D} {a h b t c : Os} {k : D → Os → Prop} {kx : Kx} (q : T ws (h ++ t) (fun w o => k w (a ++ (o.take h.length ++ (b ++ (o.drop h.length ++ c))))) (fun x o => kx x (a ++ (o.take h.length ++ (b ++ (o.drop h.length ++ c)))))) :
    callX T ws (a ++ (h ++ (b ++ (t ++ c)))) k kx := by
  rw [callX_eq]
  exact ⟨h ++ t, a ++ (b ++ c), fun o => a ++ (o.take h.length ++ (b ++ (o.drop h.length ++ c))), blk_perm a h b t c, fun o => blk_back h.length a b c o, q⟩
theorem callX_blk0 {T : FT} {ws : List D} {a h b t : Os} {k : D → Os → Prop} {kx : Kx} (q : T ws (h ++ t) (fun w o => k w (a ++ (o.take h.length ++ (b ++ o.drop h.length)))) (fun x o => kx x (a ++ (o.take h.length ++ (b ++ o.drop h.length))))) :
    callX T ws (a ++ (h ++ (b ++ t))) k kx := by
  have e : ∀ o : Os, a ++ (o.take h.length ++ (b ++ (o.drop h.length ++ []))) = a ++ (o.take h.length ++ (b ++ o.drop h.length)) := fun o => by rw [List.append_nil]
  have r := callX_blk (T := T) (ws := ws) (a := a) (h := h) (b := b) (t := t) (c := []) (k := k) (kx := kx) (by simp only [e]; exact q)
  rw [List.append_nil] at r
  exact r
/-- the first thing stays -/
theorem callX_tl {T : FT} {ws : List D} {x : Addr × OO} {os : Os} {k : D → Os → Prop} {kx : Kx} (q : T ws os (fun w o => k w (x :: o)) (fun y o => kx y (x :: o))) : callX T ws (x :: os) k kx := by
  rw [callX_eq]
  exact ⟨os, [x], fun o => x :: o, List.perm_append_comm (l₁ := [x]), fun o => List.perm_append_comm (l₁ := o) (l₂ := [x]), q⟩
theorem ex3 {α β γ : Type} {P : α → β → Prop} {Q : α → β → γ → Prop} {K : α → β → γ → Prop} (h : ∃ n ws, P n ws ∧ ∃ w, Q n ws w ∧ K n ws w) : ∃ n ws w, P n ws ∧ Q n ws w ∧ K n ws w :=
  let ⟨n, ws, h1, w, h2, h3⟩ := h; ⟨n, ws, w, h1, h2, h3⟩
theorem exO {os : Os} {n : Nat} {a C : Addr} {fs : List (Nat × D)} {f : Nat} (h : os[n]? = some (a, .ins C fs)) (h2 : lkF f fs = none) : ∃ (n : Nat) (fs : List (Nat × D)), os[n]? = some (a, .ins C fs) ∧ lkF f fs = none := ⟨n, fs, h, h2⟩
theorem callX_tlE {T : FT} {ws : List D} {x : Addr × OO} {os2 os : Os} {k : D → Os → Prop} {kx : Kx} (e : os2 = x :: os) (q : T ws os (fun w o => k w (x :: o)) (fun y o => kx y (x :: o))) : callX T ws os2 k kx := e ▸ callX_tl q
theorem callX_pm {T : FT} {ws : List D} {os of or : Os} {k : D → Os → Prop} {kx : Kx} (hp : os.Perm (of ++ or)) (q : T ws of (fun w o => k w (o ++ or)) (fun y o => kx y (o ++ or))) : callX T ws os k kx := by
  rw [callX_eq]
  exact ⟨of, or, fun o => o ++ or, hp, fun o => .refl _, q⟩
/-- a part in the middle -/
theorem callX_mid {T : FT} {ws : List D} {a h c : Os} {k : D → Os → Prop} {kx : Kx} (q : T ws h (fun w o => k w (a ++ (o ++ c))) (fun x o => kx x (a ++ (o ++ c)))) : callX T ws (a ++ (h ++ c)) k kx := by
  rw [callX_eq]
  exact ⟨h, a ++ c, fun o => a ++ (o ++ c), perm_front a h c, fun o => perm_front o a c, q⟩
/-- a family of owned lists -/
def inn : List Addr → List (List D) → Os
  | a :: as, l :: ls => (a, .lst l) :: inn as ls
  | _, _ => []
theorem inn_at : ∀ {as : List Addr} {ls : List (List D)} {n : Nat} {a : Addr} {l : List D}, as[n]? = some a → ls[n]? = some l → (inn as ls)[n]? = some (a, .lst l)
  | _ :: _, _ :: _, 0, _, _, h1, h2 => by cases h1; cases h2; rfl
  | _ :: as, _ :: ls, n + 1, _, _, h1, h2 => inn_at (as := as) (ls := ls) (n := n) h1 h2
  | [], _, _, _, _, h1, _ => by simp at h1
  | _ :: _, [], _, _, _, _, h2 => by simp at h2
theorem inn_set : ∀ {as : List Addr} {ls : List (List D)} {n : Nat} {a : Addr} {l : List D}, as[n]? = some a → (inn as ls).set n (a, .lst l) = inn as (ls.set n l)
  | _ :: _, _ :: _, 0, _, _, h1 => by cases h1; rfl
  | _ :: as, _ :: ls, n + 1, _, _, h1 => congrArg (_ :: ·) (inn_set (as := as) (ls := ls) (n := n) h1)
  | [], _, _, _, _, h1 => by simp at h1
  | _ :: _, [], n, _, _, _ => by cases n <;> rfl
theorem inn_len : ∀ {as : List Addr} {ls : List (List D)}, as.length = ls.length → (inn as ls).length = ls.length
  | [], [], _ => rfl
  | _ :: as, _ :: ls, h => congrArg (· + 1) (inn_len (as := as) (ls := ls) (by simpa using h))
  | [], _ :: _, h => by cases h
  | _ :: _, [], h => by cases h
theorem inn_app : ∀ {as : List Addr} {ls : List (List D)} {a : Addr} {l : List D}, as.length = ls.length → inn (as ++ [a]) (ls ++ [l]) = inn as ls ++ [(a, .lst l)]
  | [], [], _, _, _ => rfl
  | _ :: as, _ :: ls, _, _, h => congrArg (_ :: ·) (inn_app (as := as) (ls := ls) (by simpa using h))
  | [], _ :: _, _, _, h => by cases h
  | _ :: _, [], _, _, h => by cases h
theorem inn_appA : ∀ {as as2 : List Addr} {ls ls2 : List (List D)}, as.length = ls.length → inn (as ++ as2) (ls ++ ls2) = inn as ls ++ inn as2 ls2
  | [], _, [], _, _ => rfl
  | _ :: as, as2, _ :: ls, ls2, h => congrArg (_ :: ·) (inn_appA (as := as) (ls := ls) (as2 := as2) (ls2 := ls2) (by simpa using h))
  | [], _, _ :: _, _, h => by cases h
  | _ :: _, _, [], _, h => by cases h
/-- a new list takes a place; the old one goes -/
theorem inn_swap : ∀ {as : List Addr} {ls : List (List D)} {n : Nat} {a : Addr} {l : List D}, as.length = ls.length → n < ls.length → WkO ((a, .lst l) :: inn as ls) (inn (as.set n a) (ls.set n l))
  | b :: as, m :: ls, 0, a, l, _, _ => ⟨[(b, .lst m)], by
      show ((a, OO.lst l) :: (b, .lst m) :: inn as ls).Perm (((a, .lst l) :: inn as ls) ++ [(b, .lst m)])
      exact (List.perm_append_comm (l₁ := [(b, OO.lst m)]) (l₂ := inn as ls)).cons _⟩
  | b :: as, m :: ls, n + 1, a, l, h, hn => by
      have ih := inn_swap (as := as) (ls := ls) (n := n) (a := a) (l := l) (by simpa using h) (by simpa using hn)
      exact WkO.trans (.perm (.swap _ _ _)) (.cons ih)
  | [], [], _, _, _, _, hn => by simp at hn
  | [], _ :: _, _, _, _, h, _ => by cases h
  | _ :: _, [], _, _, _, h, _ => by cases h
theorem atI_mapN {α : Type} {f : α → D} {xs : List α} {i : Int} {x : α} (h0 : 0 ≤ i) (h1 : xs[i.toNat]? = some x) : atI (xs.map f) i = some (f x) := atI_some h0 (by rw [List.getElem?_map, h1]; rfl)
theorem app_at {A B : Os} {n : Nat} {x : Addr × OO} (h : B[n]? = some x) : (A ++ B)[A.length + n]? = some x := by
  rw [List.getElem?_append_right (Nat.le_add_right _ _), Nat.add_sub_cancel_left]; exact h
theorem app_set {A B : Os} {n : Nat} {x : Addr × OO} : (A ++ B).set (A.length + n) x = A ++ B.set n x := by
  rw [List.set_append_right _ _ (Nat.le_add_right _ _), Nat.add_sub_cancel_left]
theorem appL_at {A B : Os} {n : Nat} {x : Addr × OO} (h : A[n]? = some x) : (A ++ B)[n]? = some x := by
  rw [List.getElem?_append_left (List.getElem?_eq_some_iff.mp h).1]; exact h
theorem appL_set {A B : Os} {n : Nat} {x : Addr × OO} (h : n < A.length) : (A ++ B).set n x = A.set n x ++ B := List.set_append_left _ _ h
theorem ixN_last {n : Nat} : ixN (n + 1) (-1) = some n := by
  unfold ixN
  rw [if_neg (by omega), if_pos (by omega)]
  congr 1
  omega
theorem ixN_lastL {α : Type} {xs : List α} {x : α} : ixN (xs ++ [x]).length (-1) = some xs.length := by
  rw [List.length_append]; exact ixN_last
theorem ixN_lastM {α β : Type} {f : α → β} {xs : List α} {x : α} : ixN ((xs ++ [x]).map f).length (-1) = some xs.length := by
  rw [List.length_map]; exact ixN_lastL
theorem atI_last {α : Type} {xs : List α} {x : α} : atI (xs ++ [x]) (-1) = some x := by
  unfold atI
  rw [ixN_lastL]
  simp
theorem atI_lastM {α β : Type} {f : α → β} {xs : List α} {x : α} : atI ((xs ++ [x]).map f) (-1) = some (f x) := by
  rw [List.map_append]; exact atI_last
theorem cutA_init {α : Type} (xs : List α) (x : α) : cutA (xs ++ [x]) none (some (-1)) = xs := by
  unfold cutA HT.sIx
  have e : (-1 + ((xs.length : Int) + 1)).toNat = xs.length := by omega
  simp [e]
theorem cutA_initM {α β : Type} {f : α → β} (xs : List α) (x : α) : cutA ((xs ++ [x]).map f) none (some (-1)) = xs.map f := by
  rw [List.map_append]; exact cutA_init _ _
theorem cutA_lastM {α β : Type} {f : α → β} (xs : List α) (x : α) : cutA ((xs ++ [x]).map f) (some (-1)) none = [f x] := by
  rw [List.map_append]
  unfold cutA HT.sIx
  have e : (-1 + ((xs.length : Int) + 1)).toNat = xs.length := by omega
  have e2 : (List.map f xs ++ [f x]).drop xs.length = [f x] := by
    have := List.drop_left (l₁ := List.map f xs) (l₂ := [f x])
    rw [List.length_map] at this
    exact this
  simp [e, e2]
theorem cutA_from {α : Type} (xs : List α) (n : Nat) : cutA xs (some (n : Int)) none = xs.drop n := by
  unfold cutA
  rw [HT.sIx_nat, HT.sIx_none]
  rcases Nat.le_total n xs.length with h | h
  · rw [Nat.min_eq_left h]
    exact List.take_of_length_le (by rw [List.length_drop]; exact Nat.le_refl _)
  · rw [Nat.min_eq_right h, List.drop_of_length_le (Nat.le_refl _), List.drop_of_length_le h, List.take_nil]
theorem cutA_to {α : Type} (xs : List α) (n : Nat) : cutA xs none (some (n : Int)) = xs.take n := by
  unfold cutA
  rw [HT.sIx_nat, HT.sIx_none, List.drop_zero, Nat.sub_zero]
  rcases Nat.le_total n xs.length with h | h
  · rw [Nat.min_eq_left h]
  · rw [Nat.min_eq_right h, List.take_of_length_le (Nat.le_refl _), List.take_of_length_le h]
theorem cutA_all {α : Type} (xs : List α) : cutA xs none none = xs := by
  unfold cutA
  rw [HT.sIx_none, HT.sIx_none, List.drop_zero, Nat.sub_zero, List.take_of_length_le (Nat.le_refl _)]
theorem cutA_mid {α : Type} (xs : List α) (n m : Nat) : cutA xs (some (n : Int)) (some (m : Int)) = (xs.take m).drop n := by
  unfold cutA
  rw [HT.sIx_nat, HT.sIx_nat, List.drop_take]
  rcases Nat.le_total n xs.length with h | h
  · rw [Nat.min_eq_left h]
    rcases Nat.le_total m xs.length with h2 | h2
    · rw [Nat.min_eq_left h2]
    · rw [Nat.min_eq_right h2, List.take_of_length_le (by rw [List.length_drop]; exact Nat.le_refl _), List.take_of_length_le (by rw [List.length_drop]; omega)]
  · rw [Nat.min_eq_right h, List.drop_of_length_le (Nat.le_refl _), List.drop_of_length_le h, List.take_nil, List.take_nil]
theorem sx0 {n : Nat} (h : 0 < n) : seqIndex? 0 n = some 0 := by
  unfold seqIndex?
  have h2 : (0 : Int) < n := by omega
  simp
  omega
theorem atI_c0 {α : Type} {x : α} {ws : List α} : atI (x :: ws) 0 = some x := atI_some (by decide) (by simp)
theorem atI_c1 {α : Type} {x y : α} {ws : List α} : atI (x :: y :: ws) 1 = some y := atI_some (by decide) (by simp)
theorem atI_c2 {α : Type} {x y z : α} {ws : List α} : atI (x :: y :: z :: ws) 2 = some z := atI_some (by decide) (by simp)
theorem atI_c3 {α : Type} {x y z u : α} {ws : List α} : atI (x :: y :: z :: u :: ws) 3 = some u := atI_some (by decide) (by simp)
theorem kI {k : D → Os → Prop} {os : Os} {x y : Int} (h : k (.int y) os) (e : x = y) : k (.int x) os := e ▸ h
theorem kB {k : D → Os → Prop} {os : Os} {x y : Bool} (h : k (.bl y) os) (e : x = y) : k (.bl x) os := e ▸ h
theorem kD {k : D → Os → Prop} {os : Os} {x y : D} (h : k y os) (e : x = y) : k x os := e ▸ h
end EV
set_option Elab.async false
set_option linter.all false
set_option maxRecDepth 100000
set_option maxHeartbeats 0
namespace My
open PySem PySem.Spec PyProof.Rows L2 EV
def top (i : Nat) : Stmt := PySem.Challenge.pw_deadbeat_k18_words_of_instructions.main.body.getD i (.Pass ⟨0, 0, 0, 0⟩)
structure Txt (K : PySem.W.Frag) (mg : Str → Option Value) (CS : Nat → Addr) : Prop where
  c_CALCULATIONS : Glb K mg "CALCULATIONS" (.tup [.str "add", .str "sub", .str "mul", .str "div", .str "mod", .str "and", .str "or", .str "xor", .str "shl", .str "shr", .str "ult", .str "ule", .str "slt", .str "sle", .str "eq", .str "ne", .str "nor"])
  c_NAMED : Glb K mg "NAMED" (.tup [.int 0, .int 16, .int 13, .int 32, .int 0])
  c_FORMS : Glb K mg "FORMS" (.tup [.tup [.str "set", .tup [.int 0, .int 8, .int 26, .int 16, .int 0], .tup [.int (-32768), .int 32767, .int 0, .int 65536, .int 0]], .tup [.str "high", .tup [.int 0, .int 8, .int 26, .int 16, .int 0], .tup [.int 0, .int 65535, .int 0, .int 65536, .int 0]], .tup [.str "calc", .tup [.int 0, .int 16, .int 13, .int 32, .int 0], .tup [.int 0, .int 8, .int 26, .int 16, .int 0], .tup [.int 0, .int 8, .int 22, .int 16, .int 0], .tup [.int 0, .int 8, .int 18, .int 16, .int 0]], .tup [.str "load", .tup [.int 0, .int 8, .int 26, .int 16, .int 0], .tup [.int 0, .int 16383, .int 0, .int 16384, .int 0]], .tup [.str "store", .tup [.int 0, .int 8, .int 26, .int 16, .int 0], .tup [.int 0, .int 16383, .int 0, .int 16384, .int 0]], .tup [.str "loadx", .tup [.int 0, .int 8, .int 26, .int 16, .int 0], .tup [.int 0, .int 8, .int 22, .int 16, .int 0], .tup [.int 0, .int 16383, .int 0, .int 16384, .int 0], .tup [.int 1, .int 64, .int 14, .int 64, .int 1]], .tup [.str "storex", .tup [.int 0, .int 8, .int 26, .int 16, .int 0], .tup [.int 0, .int 8, .int 22, .int 16, .int 0], .tup [.int 0, .int 16383, .int 0, .int 16384, .int 0], .tup [.int 1, .int 64, .int 14, .int 64, .int 1]], .tup [.str "jump", .tup [.int 0, .int 4095, .int 0, .int 4096, .int 0]], .tup [.str "jzero", .tup [.int 0, .int 8, .int 26, .int 16, .int 0], .tup [.int 0, .int 4095, .int 0, .int 4096, .int 0]], .tup [.str "count", .tup [.int 0, .int 255, .int 22, .int 256, .int 0], .tup [.int 1, .int 64, .int 0, .int 64, .int 1]], .tup [.str "again", .tup [.int 0, .int 255, .int 22, .int 256, .int 0], .tup [.int 0, .int 4095, .int 0, .int 4096, .int 0]], .tup [.str "link", .tup [.int 0, .int 4095, .int 0, .int 4096, .int 0]], .tup [.str "back"], .tup [.str "done"], .tup [.str "enter", .tup [.int 0, .int 3, .int 0, .int 16, .int 0]], .tup [.str "leave", .tup [.int 0, .int 3, .int 0, .int 16, .int 0]], .tup [.str "in", .tup [.int 0, .int 8, .int 26, .int 16, .int 0], .tup [.int 0, .int 7, .int 0, .int 16, .int 0]], .tup [.str "out", .tup [.int 0, .int 8, .int 26, .int 16, .int 0], .tup [.int 0, .int 7, .int 0, .int 16, .int 0]]])
  c_OPCODE_SHIFT : Glb K mg "OPCODE_SHIFT" (.int 30)
  c_WORDS : Glb K mg "WORDS" (.int 68719476736)
  c_MEMORY : Glb K mg "MEMORY" (.int 16384)
  ti_CALCULATIONS : GlbT K mg "CALCULATIONS" ["add", "sub", "mul", "div", "mod", "and", "or", "xor", "shl", "shr", "ult", "ule", "slt", "sle", "eq", "ne", "nor"]
  b_int : mg "int" = none
  b_list : mg "list" = none
  b_tuple : mg "tuple" = none
  b_len : mg "len" = none
  b_enumerate : mg "enumerate" = none
  b_isinstance : mg "isinstance" = none
  b_zip : mg "zip" = none
  b_range : mg "range" = none
  b_bool : mg "bool" = none
  b_abs : mg "abs" = none
  b_min : mg "min" = none
  v_DeadbeatError : Glb K mg "DeadbeatError" (.ref (CS 0))
  mg_DeadbeatError : mg "DeadbeatError" = some (.ref (CS 0))
  v_CodeError : Glb K mg "CodeError" (.ref (CS 1))
  mg_CodeError : mg "CodeError" = some (.ref (CS 1))
  xm_CodeError : PySem.W.exmOne K (.ref (CS 1)) (.ref (CS 1)) = some true
  xf_CodeError : XfC K (CS 1)
  xc_CodeError : ExcC K (CS 1)
  no_CodeError : PySem.W.findIn K (.ref (CS 1)) "at" = some none
  ki_CodeError_DeadbeatError : PySem.W.kitOne K (.ref (CS 1)) (.ref (CS 0)) = some true
theorem nd__law_script : (("_law_script" : Str) == ("__debug__" : Str)) = false ∧ (("_law_script" : Str) == ("__classdict__" : Str)) = false := by decide +kernel
theorem nd__law_seed : (("_law_seed" : Str) == ("__debug__" : Str)) = false ∧ (("_law_seed" : Str) == ("__classdict__" : Str)) = false := by decide +kernel
theorem nd__law_cell : (("_law_cell" : Str) == ("__debug__" : Str)) = false ∧ (("_law_cell" : Str) == ("__classdict__" : Str)) = false := by decide +kernel
theorem nd_int : (("int" : Str) == ("__debug__" : Str)) = false ∧ (("int" : Str) == ("__classdict__" : Str)) = false := by decide +kernel
theorem nd_list : (("list" : Str) == ("__debug__" : Str)) = false ∧ (("list" : Str) == ("__classdict__" : Str)) = false := by decide +kernel
theorem nd__law_opcode : (("_law_opcode" : Str) == ("__debug__" : Str)) = false ∧ (("_law_opcode" : Str) == ("__classdict__" : Str)) = false := by decide +kernel
theorem nd__law_shapes : (("_law_shapes" : Str) == ("__debug__" : Str)) = false ∧ (("_law_shapes" : Str) == ("__classdict__" : Str)) = false := by decide +kernel
theorem nd__law_names : (("_law_names" : Str) == ("__debug__" : Str)) = false ∧ (("_law_names" : Str) == ("__classdict__" : Str)) = false := by decide +kernel
theorem nd__law_kind : (("_law_kind" : Str) == ("__debug__" : Str)) = false ∧ (("_law_kind" : Str) == ("__classdict__" : Str)) = false := by decide +kernel
theorem nd__law_at : (("_law_at" : Str) == ("__debug__" : Str)) = false ∧ (("_law_at" : Str) == ("__classdict__" : Str)) = false := by decide +kernel
theorem nd__law_word_here : (("_law_word_here" : Str) == ("__debug__" : Str)) = false ∧ (("_law_word_here" : Str) == ("__classdict__" : Str)) = false := by decide +kernel
theorem nd__law_rest : (("_law_rest" : Str) == ("__debug__" : Str)) = false ∧ (("_law_rest" : Str) == ("__classdict__" : Str)) = false := by decide +kernel
theorem nd__law_items : (("_law_items" : Str) == ("__debug__" : Str)) = false ∧ (("_law_items" : Str) == ("__classdict__" : Str)) = false := by decide +kernel
theorem nd__law_scale : (("_law_scale" : Str) == ("__debug__" : Str)) = false ∧ (("_law_scale" : Str) == ("__classdict__" : Str)) = false := by decide +kernel
theorem nd__law_many : (("_law_many" : Str) == ("__debug__" : Str)) = false ∧ (("_law_many" : Str) == ("__classdict__" : Str)) = false := by decide +kernel
theorem nd__law_number : (("_law_number" : Str) == ("__debug__" : Str)) = false ∧ (("_law_number" : Str) == ("__classdict__" : Str)) = false := by decide +kernel
theorem nd__law_name : (("_law_name" : Str) == ("__debug__" : Str)) = false ∧ (("_law_name" : Str) == ("__classdict__" : Str)) = false := by decide +kernel
theorem nd__law_shape : (("_law_shape" : Str) == ("__debug__" : Str)) = false ∧ (("_law_shape" : Str) == ("__classdict__" : Str)) = false := by decide +kernel
theorem nd__law_place : (("_law_place" : Str) == ("__debug__" : Str)) = false ∧ (("_law_place" : Str) == ("__classdict__" : Str)) = false := by decide +kernel
theorem nd__law_greatest : (("_law_greatest" : Str) == ("__debug__" : Str)) = false ∧ (("_law_greatest" : Str) == ("__classdict__" : Str)) = false := by decide +kernel
theorem nd__law_operation : (("_law_operation" : Str) == ("__debug__" : Str)) = false ∧ (("_law_operation" : Str) == ("__classdict__" : Str)) = false := by decide +kernel
theorem nd_tuple : (("tuple" : Str) == ("__debug__" : Str)) = false ∧ (("tuple" : Str) == ("__classdict__" : Str)) = false := by decide +kernel
theorem nd_word : (("word" : Str) == ("__debug__" : Str)) = false ∧ (("word" : Str) == ("__classdict__" : Str)) = false := by decide +kernel
theorem nd_field : (("field" : Str) == ("__debug__" : Str)) = false ∧ (("field" : Str) == ("__classdict__" : Str)) = false := by decide +kernel
theorem nd_number : (("number" : Str) == ("__debug__" : Str)) = false ∧ (("number" : Str) == ("__classdict__" : Str)) = false := by decide +kernel
theorem nd_value : (("value" : Str) == ("__debug__" : Str)) = false ∧ (("value" : Str) == ("__classdict__" : Str)) = false := by decide +kernel
theorem nd_NAMED : (("NAMED" : Str) == ("__debug__" : Str)) = false ∧ (("NAMED" : Str) == ("__classdict__" : Str)) = false := by decide +kernel
theorem nd_len : (("len" : Str) == ("__debug__" : Str)) = false ∧ (("len" : Str) == ("__classdict__" : Str)) = false := by decide +kernel
theorem nd_CALCULATIONS : (("CALCULATIONS" : Str) == ("__debug__" : Str)) = false ∧ (("CALCULATIONS" : Str) == ("__classdict__" : Str)) = false := by decide +kernel
theorem nd_name : (("name" : Str) == ("__debug__" : Str)) = false ∧ (("name" : Str) == ("__classdict__" : Str)) = false := by decide +kernel
theorem nd_at : (("at" : Str) == ("__debug__" : Str)) = false ∧ (("at" : Str) == ("__classdict__" : Str)) = false := by decide +kernel
theorem nd_form : (("form" : Str) == ("__debug__" : Str)) = false ∧ (("form" : Str) == ("__classdict__" : Str)) = false := by decide +kernel
theorem nd_enumerate : (("enumerate" : Str) == ("__debug__" : Str)) = false ∧ (("enumerate" : Str) == ("__classdict__" : Str)) = false := by decide +kernel
theorem nd_FORMS : (("FORMS" : Str) == ("__debug__" : Str)) = false ∧ (("FORMS" : Str) == ("__classdict__" : Str)) = false := by decide +kernel
theorem nd_isinstance : (("isinstance" : Str) == ("__debug__" : Str)) = false ∧ (("isinstance" : Str) == ("__classdict__" : Str)) = false := by decide +kernel
theorem nd_item : (("item" : Str) == ("__debug__" : Str)) = false ∧ (("item" : Str) == ("__classdict__" : Str)) = false := by decide +kernel
theorem nd_opcode : (("opcode" : Str) == ("__debug__" : Str)) = false ∧ (("opcode" : Str) == ("__classdict__" : Str)) = false := by decide +kernel
theorem nd_opcode_of : (("opcode_of" : Str) == ("__debug__" : Str)) = false ∧ (("opcode_of" : Str) == ("__classdict__" : Str)) = false := by decide +kernel
theorem nd_zip : (("zip" : Str) == ("__debug__" : Str)) = false ∧ (("zip" : Str) == ("__classdict__" : Str)) = false := by decide +kernel
theorem nd_number_of : (("number_of" : Str) == ("__debug__" : Str)) = false ∧ (("number_of" : Str) == ("__classdict__" : Str)) = false := by decide +kernel
theorem nd_MEMORY : (("MEMORY" : Str) == ("__debug__" : Str)) = false ∧ (("MEMORY" : Str) == ("__classdict__" : Str)) = false := by decide +kernel
theorem nd_instruction : (("instruction" : Str) == ("__debug__" : Str)) = false ∧ (("instruction" : Str) == ("__classdict__" : Str)) = false := by decide +kernel
theorem nd_is_instruction : (("is_instruction" : Str) == ("__debug__" : Str)) = false ∧ (("is_instruction" : Str) == ("__classdict__" : Str)) = false := by decide +kernel
theorem nd_CodeError : (("CodeError" : Str) == ("__debug__" : Str)) = false ∧ (("CodeError" : Str) == ("__classdict__" : Str)) = false := by decide +kernel
theorem nd_OPCODE_SHIFT : (("OPCODE_SHIFT" : Str) == ("__debug__" : Str)) = false ∧ (("OPCODE_SHIFT" : Str) == ("__classdict__" : Str)) = false := by decide +kernel
theorem nd_found : (("found" : Str) == ("__debug__" : Str)) = false ∧ (("found" : Str) == ("__classdict__" : Str)) = false := by decide +kernel
theorem nd_WORDS : (("WORDS" : Str) == ("__debug__" : Str)) = false ∧ (("WORDS" : Str) == ("__classdict__" : Str)) = false := by decide +kernel
theorem nd_value_of : (("value_of" : Str) == ("__debug__" : Str)) = false ∧ (("value_of" : Str) == ("__classdict__" : Str)) = false := by decide +kernel
theorem nd_encode : (("encode" : Str) == ("__debug__" : Str)) = false ∧ (("encode" : Str) == ("__classdict__" : Str)) = false := by decide +kernel
theorem nd__law_expected_here : (("_law_expected_here" : Str) == ("__debug__" : Str)) = false ∧ (("_law_expected_here" : Str) == ("__classdict__" : Str)) = false := by decide +kernel
theorem nd__law_found : (("_law_found" : Str) == ("__debug__" : Str)) = false ∧ (("_law_found" : Str) == ("__classdict__" : Str)) = false := by decide +kernel
theorem nd_e : (("e" : Str) == ("__debug__" : Str)) = false ∧ (("e" : Str) == ("__classdict__" : Str)) = false := by decide +kernel
theorem nd__law_k : (("_law_k" : Str) == ("__debug__" : Str)) = false ∧ (("_law_k" : Str) == ("__classdict__" : Str)) = false := by decide +kernel
theorem nd__law_expected : (("_law_expected" : Str) == ("__debug__" : Str)) = false ∧ (("_law_expected" : Str) == ("__classdict__" : Str)) = false := by decide +kernel
theorem nd_decode : (("decode" : Str) == ("__debug__" : Str)) = false ∧ (("decode" : Str) == ("__classdict__" : Str)) = false := by decide +kernel
theorem nd_DeadbeatError : (("DeadbeatError" : Str) == ("__debug__" : Str)) = false ∧ (("DeadbeatError" : Str) == ("__classdict__" : Str)) = false := by decide +kernel
theorem nd_range : (("range" : Str) == ("__debug__" : Str)) = false ∧ (("range" : Str) == ("__classdict__" : Str)) = false := by decide +kernel
theorem nd_bool : (("bool" : Str) == ("__debug__" : Str)) = false ∧ (("bool" : Str) == ("__classdict__" : Str)) = false := by decide +kernel
theorem nd__law_state : (("_law_state" : Str) == ("__debug__" : Str)) = false ∧ (("_law_state" : Str) == ("__classdict__" : Str)) = false := by decide +kernel
theorem nd_abs : (("abs" : Str) == ("__debug__" : Str)) = false ∧ (("abs" : Str) == ("__classdict__" : Str)) = false := by decide +kernel
theorem nd__law_turn : (("_law_turn" : Str) == ("__debug__" : Str)) = false ∧ (("_law_turn" : Str) == ("__classdict__" : Str)) = false := by decide +kernel
theorem nd__law_part : (("_law_part" : Str) == ("__debug__" : Str)) = false ∧ (("_law_part" : Str) == ("__classdict__" : Str)) = false := by decide +kernel
theorem nd__law_draw : (("_law_draw" : Str) == ("__debug__" : Str)) = false ∧ (("_law_draw" : Str) == ("__classdict__" : Str)) = false := by decide +kernel
theorem nd_min : (("min" : Str) == ("__debug__" : Str)) = false ∧ (("min" : Str) == ("__classdict__" : Str)) = false := by decide +kernel
theorem nd__law_start : (("_law_start" : Str) == ("__debug__" : Str)) = false ∧ (("_law_start" : Str) == ("__classdict__" : Str)) = false := by decide +kernel
theorem nd__law_holds : (("_law_holds" : Str) == ("__debug__" : Str)) = false ∧ (("_law_holds" : Str) == ("__classdict__" : Str)) = false := by decide +kernel
theorem nd__law_word : (("_law_word" : Str) == ("__debug__" : Str)) = false ∧ (("_law_word" : Str) == ("__classdict__" : Str)) = false := by decide +kernel
theorem nd_self : (("self" : Str) == ("__debug__" : Str)) = false ∧ (("self" : Str) == ("__classdict__" : Str)) = false := by decide +kernel
theorem nn_int : ("int" : Str) ≠ "__name__" := by decide +kernel
theorem bt_int : bootBuiltins ("int" : Str) = some (.type "int") := by decide +kernel
theorem nn_list : ("list" : Str) ≠ "__name__" := by decide +kernel
theorem bt_list : bootBuiltins ("list" : Str) = some (.type "list") := by decide +kernel
theorem nn_tuple : ("tuple" : Str) ≠ "__name__" := by decide +kernel
theorem bt_tuple : bootBuiltins ("tuple" : Str) = some (.type "tuple") := by decide +kernel
theorem nn_len : ("len" : Str) ≠ "__name__" := by decide +kernel
theorem bb_len : bootBuiltins ("len" : Str) = some (.builtin "len") := by decide +kernel
theorem nn_enumerate : ("enumerate" : Str) ≠ "__name__" := by decide +kernel
theorem bt_enumerate : bootBuiltins ("enumerate" : Str) = some (.type "enumerate") := by decide +kernel
theorem nn_isinstance : ("isinstance" : Str) ≠ "__name__" := by decide +kernel
theorem bb_isinstance : bootBuiltins ("isinstance" : Str) = some (.builtin "isinstance") := by decide +kernel
theorem nn_zip : ("zip" : Str) ≠ "__name__" := by decide +kernel
theorem bt_zip : bootBuiltins ("zip" : Str) = some (.type "zip") := by decide +kernel
theorem nn_range : ("range" : Str) ≠ "__name__" := by decide +kernel
theorem bt_range : bootBuiltins ("range" : Str) = some (.type "range") := by decide +kernel
theorem nn_bool : ("bool" : Str) ≠ "__name__" := by decide +kernel
theorem bt_bool : bootBuiltins ("bool" : Str) = some (.type "bool") := by decide +kernel
theorem nn_abs : ("abs" : Str) ≠ "__name__" := by decide +kernel
theorem bb_abs : bootBuiltins ("abs" : Str) = some (.builtin "abs") := by decide +kernel
theorem nn_min : ("min" : Str) ≠ "__name__" := by decide +kernel
theorem bb_min : bootBuiltins ("min" : Str) = some (.builtin "min") := by decide +kernel
abbrev f_at : Nat := 24948
theorem fn_at : ("at" : Str) = nm f_at := by decide +kernel
section
variable {P : Program} {w : World} {K : PySem.W.Frag} {mg : Str → Option Value} {base : Heap}
abbrev s_CodeError___init__ : Stmt := inClass (top 2) 0
theorem sc_CodeError___init__ : FnScope ["self", "at"] ["self", "at"] (defScope s_CodeError___init__) := ⟨rfl, rfl, rfl, by decide +kernel, rfl, by decide +kernel, by decide +kernel⟩
theorem vs_CodeError___init___self : Vis (defScope s_CodeError___init__) "self" := by first | exact .inl rfl | exact .inr (.inl rfl)
theorem vs_CodeError___init___at : Vis (defScope s_CodeError___init__) "at" := by first | exact .inl rfl | exact .inr (.inl rfl)
theorem ok_CodeError___init__ {f D C : Addr} {fd : FuncData} (F : Fun K "__init__" "CodeError.__init__" s_CodeError___init__ f fd) (hm : mg "DeadbeatError" = some (.ref D)) (T : InhC K D) : FnOk P w K mg base (L2.CX P w) 1 f fd ["self", "at"] (spInit K C "at") :=
  okInit F sc_CodeError___init__ rfl rfl hm nd_DeadbeatError.1 T (fun env => ⟨_, rfl⟩) vs_CodeError___init___self vs_CodeError___init___at nd_at.1 nd_at.2
abbrev s__law_start : Stmt := top 29
abbrev N__law_start : List Str := ["_law_script", "_law_seed", "_law_cell"]
theorem sc__law_start : FnScope N__law_start ["_law_script"] (defScope s__law_start) := ⟨rfl, rfl, rfl, by decide +kernel, rfl, by decide +kernel, by decide +kernel⟩
theorem lo__law_start__law_script : Loc (defScope s__law_start) "_law_script" := by first | exact .inl rfl | exact .inr rfl
theorem vs__law_start__law_script : Vis (defScope s__law_start) "_law_script" := lo__law_start__law_script.elim .inl fun z => .inr (.inl z)
theorem lo__law_start__law_seed : Loc (defScope s__law_start) "_law_seed" := by first | exact .inl rfl | exact .inr rfl
theorem vs__law_start__law_seed : Vis (defScope s__law_start) "_law_seed" := lo__law_start__law_seed.elim .inl fun z => .inr (.inl z)
theorem lo__law_start__law_cell : Loc (defScope s__law_start) "_law_cell" := by first | exact .inl rfl | exact .inr rfl
theorem vs__law_start__law_cell : Vis (defScope s__law_start) "_law_cell" := lo__law_start__law_cell.elim .inl fun z => .inr (.inl z)
theorem g__law_start_int : (defScope s__law_start).names.lookup ("int" : Str) = some .globalImplicit := rfl
theorem g__law_start_list : (defScope s__law_start).names.lookup ("list" : Str) = some .globalImplicit := rfl
def T__law_start (CS : Nat → Addr) : FT := fnT 3 (sCo (sSet 1 (eC (.int 7))) (
  sCo (sFor (gName 2) (iSeq (eV 0)) (sSet 1 (eBin oMod (eCB cInt (aC (eBin oAdd (eBin oMul (eV 1) (eC (.int 31))) (eV 2)) (aN))) (eC (.int 1000003))))) (
  sRet (eLstO (aC (eCB cList (aC (eV 0) (aN))) (aC (eC (.int 0)) (aC (eC (.int 0)) (aC (eBin oAdd (eV 1) (eC (.int 1))) (aN)))))))))
theorem ok__law_start {f : Addr} {fd : FuncData} {CS : Nat → Addr} (F : Fun K "_law_start" "_law_start" s__law_start f fd) (T : Txt K mg CS) : FnOk P w K mg base (L2.CX P w) 1 f fd ["_law_script"] (spX K 1 (T__law_start CS)) :=
  okX F sc__law_start rfl rfl (by decide) fun cdv A outer s H E hr =>
  cs_cons (c1_set sc__law_start.nd rfl lo__law_start__law_seed (cm_int) rfl (.inl rfl))
  (cs_cons (c1_for (cg_name sc__law_start.nd rfl lo__law_start__law_cell (.inl rfl)) (ci_seq (cm_v (i := 0) rfl vs__law_start__law_script nd__law_script.1 nd__law_script.2)) (cs_one (c1_set sc__law_start.nd rfl lo__law_start__law_seed (cm_bin cmo_mod (cm_callTy cmc_int bt_int T.b_int g__law_start_int (ca_cons (cm_bin cmo_add (cm_bin cmo_mul (cm_v (i := 1) rfl vs__law_start__law_seed nd__law_seed.1 nd__law_seed.2) (cm_int)) (cm_v (i := 2) rfl vs__law_start__law_cell nd__law_cell.1 nd__law_cell.2)) (ca_nil) rfl) nn_int nd_int.1 rfl rfl) (cm_int)) rfl (.inl rfl))) rfl pass_cx (fun _ => rfl))
  (cs_one (c1_ret (cm_lstO (ca_cons (cm_callTy cmc_list bt_list T.b_list g__law_start_list (ca_cons (cm_v (i := 0) rfl vs__law_start__law_script nd__law_script.1 nd__law_script.2) (ca_nil) rfl) nn_list nd_list.1 rfl rfl) (ca_cons (cm_int) (ca_cons (cm_int) (ca_cons (cm_bin cmo_add (cm_v (i := 1) rfl vs__law_start__law_seed nd__law_seed.1 nd__law_seed.2) (cm_int)) (ca_nil) rfl) rfl) rfl) rfl) (by decide)))))
abbrev s__law_shape : Stmt := top 31
abbrev N__law_shape : List Str := ["_law_opcode", "_law_shapes"]
theorem sc__law_shape : FnScope N__law_shape ["_law_opcode"] (defScope s__law_shape) := ⟨rfl, rfl, rfl, by decide +kernel, rfl, by decide +kernel, by decide +kernel⟩
theorem lo__law_shape__law_opcode : Loc (defScope s__law_shape) "_law_opcode" := by first | exact .inl rfl | exact .inr rfl
theorem vs__law_shape__law_opcode : Vis (defScope s__law_shape) "_law_opcode" := lo__law_shape__law_opcode.elim .inl fun z => .inr (.inl z)
theorem lo__law_shape__law_shapes : Loc (defScope s__law_shape) "_law_shapes" := by first | exact .inl rfl | exact .inr rfl
theorem vs__law_shape__law_shapes : Vis (defScope s__law_shape) "_law_shapes" := lo__law_shape__law_shapes.elim .inl fun z => .inr (.inl z)
def T__law_shape (CS : Nat → Addr) : FT := fnT 2 (sCo (sSet 1 (eLst (aC (eC (.str "rg")) (aC (eC (.str "ru")) (aC (eC (.str "krst")) (aC (eC (.str "ra")) (aC (eC (.str "ra")) (aC (eC (.str "rsae")) (aC (eC (.str "rsae")) (aC (eC (.str "p")) (aC (eC (.str "rp")) (aC (eC (.str "cf")) (aC (eC (.str "cp")) (aC (eC (.str "p")) (aC (eC (.str "")) (aC (eC (.str "")) (aC (eC (.str "o")) (aC (eC (.str "o")) (aC (eC (.str "rq")) (aC (eC (.str "rq")) (aN))))))))))))))))))))) (
  sRet (eIx oIx (eV 1) (eBin oSub (eV 0) (eC (.int 1))))))
theorem ok__law_shape {f : Addr} {fd : FuncData} {CS : Nat → Addr} (F : Fun K "_law_shape" "_law_shape" s__law_shape f fd) (T : Txt K mg CS) : FnOk P w K mg base (L2.CX P w) 1 f fd ["_law_opcode"] (spX K 1 (T__law_shape CS)) :=
  okX F sc__law_shape rfl rfl (by decide) fun cdv A outer s H E hr =>
  cs_cons (c1_set sc__law_shape.nd rfl lo__law_shape__law_shapes (cm_lst (ca_cons (cm_str) (ca_cons (cm_str) (ca_cons (cm_str) (ca_cons (cm_str) (ca_cons (cm_str) (ca_cons (cm_str) (ca_cons (cm_str) (ca_cons (cm_str) (ca_cons (cm_str) (ca_cons (cm_str) (ca_cons (cm_str) (ca_cons (cm_str) (ca_cons (cm_str) (ca_cons (cm_str) (ca_cons (cm_str) (ca_cons (cm_str) (ca_cons (cm_str) (ca_cons (cm_str) (ca_nil) rfl) rfl) rfl) rfl) rfl) rfl) rfl) rfl) rfl) rfl) rfl) rfl) rfl) rfl) rfl) rfl) rfl) rfl) (by decide)) rfl (.inl rfl))
  (cs_one (c1_ret (cm_ix cmi_ix (cm_v (i := 1) rfl vs__law_shape__law_shapes nd__law_shapes.1 nd__law_shapes.2) (cm_bin cmo_sub (cm_v (i := 0) rfl vs__law_shape__law_opcode nd__law_opcode.1 nd__law_opcode.2) (cm_int)) (fun _ _ => rfl))))
abbrev s__law_name : Stmt := top 32
abbrev N__law_name : List Str := ["_law_opcode", "_law_names"]
theorem sc__law_name : FnScope N__law_name ["_law_opcode"] (defScope s__law_name) := ⟨rfl, rfl, rfl, by decide +kernel, rfl, by decide +kernel, by decide +kernel⟩
theorem lo__law_name__law_opcode : Loc (defScope s__law_name) "_law_opcode" := by first | exact .inl rfl | exact .inr rfl
theorem vs__law_name__law_opcode : Vis (defScope s__law_name) "_law_opcode" := lo__law_name__law_opcode.elim .inl fun z => .inr (.inl z)
theorem lo__law_name__law_names : Loc (defScope s__law_name) "_law_names" := by first | exact .inl rfl | exact .inr rfl
theorem vs__law_name__law_names : Vis (defScope s__law_name) "_law_names" := lo__law_name__law_names.elim .inl fun z => .inr (.inl z)
def T__law_name (CS : Nat → Addr) : FT := fnT 2 (sCo (sSet 1 (eLst (aC (eC (.str "set")) (aC (eC (.str "high")) (aC (eC (.str "calc")) (aC (eC (.str "load")) (aC (eC (.str "store")) (aC (eC (.str "loadx")) (aC (eC (.str "storex")) (aC (eC (.str "jump")) (aC (eC (.str "jzero")) (aC (eC (.str "count")) (aC (eC (.str "again")) (aC (eC (.str "link")) (aN))))))))))))))) (
  sCo (sSet 1 (eBin oAdd (eV 1) (eLst (aC (eC (.str "back")) (aC (eC (.str "done")) (aC (eC (.str "enter")) (aC (eC (.str "leave")) (aC (eC (.str "in")) (aC (eC (.str "out")) (aN)))))))))) (
  sRet (eIx oIx (eV 1) (eBin oSub (eV 0) (eC (.int 1)))))))
theorem ok__law_name {f : Addr} {fd : FuncData} {CS : Nat → Addr} (F : Fun K "_law_name" "_law_name" s__law_name f fd) (T : Txt K mg CS) : FnOk P w K mg base (L2.CX P w) 1 f fd ["_law_opcode"] (spX K 1 (T__law_name CS)) :=
  okX F sc__law_name rfl rfl (by decide) fun cdv A outer s H E hr =>
  cs_cons (c1_set sc__law_name.nd rfl lo__law_name__law_names (cm_lst (ca_cons (cm_str) (ca_cons (cm_str) (ca_cons (cm_str) (ca_cons (cm_str) (ca_cons (cm_str) (ca_cons (cm_str) (ca_cons (cm_str) (ca_cons (cm_str) (ca_cons (cm_str) (ca_cons (cm_str) (ca_cons (cm_str) (ca_cons (cm_str) (ca_nil) rfl) rfl) rfl) rfl) rfl) rfl) rfl) rfl) rfl) rfl) rfl) rfl) (by decide)) rfl (.inl rfl))
  (cs_cons (c1_set sc__law_name.nd rfl lo__law_name__law_names (cm_bin cmo_add (cm_v (i := 1) rfl vs__law_name__law_names nd__law_names.1 nd__law_names.2) (cm_lst (ca_cons (cm_str) (ca_cons (cm_str) (ca_cons (cm_str) (ca_cons (cm_str) (ca_cons (cm_str) (ca_cons (cm_str) (ca_nil) rfl) rfl) rfl) rfl) rfl) rfl) (by decide))) rfl (.inl rfl))
  (cs_one (c1_ret (cm_ix cmi_ix (cm_v (i := 1) rfl vs__law_name__law_names nd__law_names.1 nd__law_names.2) (cm_bin cmo_sub (cm_v (i := 0) rfl vs__law_name__law_opcode nd__law_opcode.1 nd__law_opcode.2) (cm_int)) (fun _ _ => rfl)))))
abbrev s__law_place : Stmt := top 34
abbrev N__law_place : List Str := ["_law_kind"]
theorem sc__law_place : FnScope N__law_place ["_law_kind"] (defScope s__law_place) := ⟨rfl, rfl, rfl, by decide +kernel, rfl, by decide +kernel, by decide +kernel⟩
theorem lo__law_place__law_kind : Loc (defScope s__law_place) "_law_kind" := by first | exact .inl rfl | exact .inr rfl
theorem vs__law_place__law_kind : Vis (defScope s__law_place) "_law_kind" := lo__law_place__law_kind.elim .inl fun z => .inr (.inl z)
def T__law_place (CS : Nat → Addr) : FT := fnT 1 (sCo (sIf (tCmp oEq (eV 0) (eC (.str "r"))) (sRet (eTup (aC (eC (.int 67108864)) (aC (eC (.int 16)) (aN))))) (sNo)) (
  sCo (sIf (tCmp oEq (eV 0) (eC (.str "s"))) (sRet (eTup (aC (eC (.int 4194304)) (aC (eC (.int 16)) (aN))))) (sNo)) (
  sCo (sIf (tCmp oEq (eV 0) (eC (.str "t"))) (sRet (eTup (aC (eC (.int 262144)) (aC (eC (.int 16)) (aN))))) (sNo)) (
  sCo (sIf (tCmp oEq (eV 0) (eC (.str "k"))) (sRet (eTup (aC (eC (.int 8192)) (aC (eC (.int 32)) (aN))))) (sNo)) (
  sCo (sIf (tCmp oIn (eV 0) (eTup (aC (eC (.str "g")) (aC (eC (.str "u")) (aN))))) (sRet (eTup (aC (eC (.int 1)) (aC (eC (.int 65536)) (aN))))) (sNo)) (
  sCo (sIf (tCmp oEq (eV 0) (eC (.str "a"))) (sRet (eTup (aC (eC (.int 1)) (aC (eC (.int 16384)) (aN))))) (sNo)) (
  sCo (sIf (tCmp oEq (eV 0) (eC (.str "e"))) (sRet (eTup (aC (eC (.int 16384)) (aC (eC (.int 64)) (aN))))) (sNo)) (
  sCo (sIf (tCmp oEq (eV 0) (eC (.str "f"))) (sRet (eTup (aC (eC (.int 1)) (aC (eC (.int 64)) (aN))))) (sNo)) (
  sCo (sIf (tCmp oEq (eV 0) (eC (.str "p"))) (sRet (eTup (aC (eC (.int 1)) (aC (eC (.int 4096)) (aN))))) (sNo)) (
  sCo (sIf (tCmp oEq (eV 0) (eC (.str "c"))) (sRet (eTup (aC (eC (.int 4194304)) (aC (eC (.int 256)) (aN))))) (sNo)) (
  sRet (eTup (aC (eC (.int 1)) (aC (eC (.int 16)) (aN)))))))))))))))
theorem ok__law_place {f : Addr} {fd : FuncData} {CS : Nat → Addr} (F : Fun K "_law_place" "_law_place" s__law_place f fd) (T : Txt K mg CS) : FnOk P w K mg base (L2.CX P w) 1 f fd ["_law_kind"] (spX K 1 (T__law_place CS)) :=
  okX F sc__law_place rfl rfl (by decide) fun cdv A outer s H E hr =>
  cs_cons (c1_if (ct_cmp (cmo_eq hr) (cm_v (i := 0) rfl vs__law_place__law_kind nd__law_kind.1 nd__law_kind.2) (cm_str) rfl) (cs_one (c1_ret (cm_tup (ca_cons (cm_int) (ca_cons (cm_int) (ca_nil) rfl) rfl) (by decide)))) (cs_nil))
  (cs_cons (c1_if (ct_cmp (cmo_eq hr) (cm_v (i := 0) rfl vs__law_place__law_kind nd__law_kind.1 nd__law_kind.2) (cm_str) rfl) (cs_one (c1_ret (cm_tup (ca_cons (cm_int) (ca_cons (cm_int) (ca_nil) rfl) rfl) (by decide)))) (cs_nil))
  (cs_cons (c1_if (ct_cmp (cmo_eq hr) (cm_v (i := 0) rfl vs__law_place__law_kind nd__law_kind.1 nd__law_kind.2) (cm_str) rfl) (cs_one (c1_ret (cm_tup (ca_cons (cm_int) (ca_cons (cm_int) (ca_nil) rfl) rfl) (by decide)))) (cs_nil))
  (cs_cons (c1_if (ct_cmp (cmo_eq hr) (cm_v (i := 0) rfl vs__law_place__law_kind nd__law_kind.1 nd__law_kind.2) (cm_str) rfl) (cs_one (c1_ret (cm_tup (ca_cons (cm_int) (ca_cons (cm_int) (ca_nil) rfl) rfl) (by decide)))) (cs_nil))
  (cs_cons (c1_if (ct_cmp cmo_in (cm_v (i := 0) rfl vs__law_place__law_kind nd__law_kind.1 nd__law_kind.2) (cm_tup (ca_cons (cm_str) (ca_cons (cm_str) (ca_nil) rfl) rfl) (by decide)) rfl) (cs_one (c1_ret (cm_tup (ca_cons (cm_int) (ca_cons (cm_int) (ca_nil) rfl) rfl) (by decide)))) (cs_nil))
  (cs_cons (c1_if (ct_cmp (cmo_eq hr) (cm_v (i := 0) rfl vs__law_place__law_kind nd__law_kind.1 nd__law_kind.2) (cm_str) rfl) (cs_one (c1_ret (cm_tup (ca_cons (cm_int) (ca_cons (cm_int) (ca_nil) rfl) rfl) (by decide)))) (cs_nil))
  (cs_cons (c1_if (ct_cmp (cmo_eq hr) (cm_v (i := 0) rfl vs__law_place__law_kind nd__law_kind.1 nd__law_kind.2) (cm_str) rfl) (cs_one (c1_ret (cm_tup (ca_cons (cm_int) (ca_cons (cm_int) (ca_nil) rfl) rfl) (by decide)))) (cs_nil))
  (cs_cons (c1_if (ct_cmp (cmo_eq hr) (cm_v (i := 0) rfl vs__law_place__law_kind nd__law_kind.1 nd__law_kind.2) (cm_str) rfl) (cs_one (c1_ret (cm_tup (ca_cons (cm_int) (ca_cons (cm_int) (ca_nil) rfl) rfl) (by decide)))) (cs_nil))
  (cs_cons (c1_if (ct_cmp (cmo_eq hr) (cm_v (i := 0) rfl vs__law_place__law_kind nd__law_kind.1 nd__law_kind.2) (cm_str) rfl) (cs_one (c1_ret (cm_tup (ca_cons (cm_int) (ca_cons (cm_int) (ca_nil) rfl) rfl) (by decide)))) (cs_nil))
  (cs_cons (c1_if (ct_cmp (cmo_eq hr) (cm_v (i := 0) rfl vs__law_place__law_kind nd__law_kind.1 nd__law_kind.2) (cm_str) rfl) (cs_one (c1_ret (cm_tup (ca_cons (cm_int) (ca_cons (cm_int) (ca_nil) rfl) rfl) (by decide)))) (cs_nil))
  (cs_one (c1_ret (cm_tup (ca_cons (cm_int) (ca_cons (cm_int) (ca_nil) rfl) rfl) (by decide)))))))))))))
abbrev s__law_greatest : Stmt := top 35
abbrev N__law_greatest : List Str := ["_law_kind"]
theorem sc__law_greatest : FnScope N__law_greatest ["_law_kind"] (defScope s__law_greatest) := ⟨rfl, rfl, rfl, by decide +kernel, rfl, by decide +kernel, by decide +kernel⟩
theorem lo__law_greatest__law_kind : Loc (defScope s__law_greatest) "_law_kind" := by first | exact .inl rfl | exact .inr rfl
theorem vs__law_greatest__law_kind : Vis (defScope s__law_greatest) "_law_kind" := lo__law_greatest__law_kind.elim .inl fun z => .inr (.inl z)
def T__law_greatest (CS : Nat → Addr) : FT := fnT 1 (sCo (sIf (tCmp oIn (eV 0) (eTup (aC (eC (.str "r")) (aC (eC (.str "s")) (aC (eC (.str "t")) (aN)))))) (sRet (eC (.int 8))) (sNo)) (
  sCo (sIf (tCmp oEq (eV 0) (eC (.str "k"))) (sRet (eC (.int 16))) (sNo)) (
  sCo (sIf (tCmp oEq (eV 0) (eC (.str "o"))) (sRet (eC (.int 3))) (sNo)) (
  sCo (sIf (tCmp oEq (eV 0) (eC (.str "q"))) (sRet (eC (.int 7))) (sNo)) (
  sRet (eC (.int 65535)))))))
theorem ok__law_greatest {f : Addr} {fd : FuncData} {CS : Nat → Addr} (F : Fun K "_law_greatest" "_law_greatest" s__law_greatest f fd) (T : Txt K mg CS) : FnOk P w K mg base (L2.CX P w) 1 f fd ["_law_kind"] (spX K 1 (T__law_greatest CS)) :=
  okX F sc__law_greatest rfl rfl (by decide) fun cdv A outer s H E hr =>
  cs_cons (c1_if (ct_cmp cmo_in (cm_v (i := 0) rfl vs__law_greatest__law_kind nd__law_kind.1 nd__law_kind.2) (cm_tup (ca_cons (cm_str) (ca_cons (cm_str) (ca_cons (cm_str) (ca_nil) rfl) rfl) rfl) (by decide)) rfl) (cs_one (c1_ret (cm_int))) (cs_nil))
  (cs_cons (c1_if (ct_cmp (cmo_eq hr) (cm_v (i := 0) rfl vs__law_greatest__law_kind nd__law_kind.1 nd__law_kind.2) (cm_str) rfl) (cs_one (c1_ret (cm_int))) (cs_nil))
  (cs_cons (c1_if (ct_cmp (cmo_eq hr) (cm_v (i := 0) rfl vs__law_greatest__law_kind nd__law_kind.1 nd__law_kind.2) (cm_str) rfl) (cs_one (c1_ret (cm_int))) (cs_nil))
  (cs_cons (c1_if (ct_cmp (cmo_eq hr) (cm_v (i := 0) rfl vs__law_greatest__law_kind nd__law_kind.1 nd__law_kind.2) (cm_str) rfl) (cs_one (c1_ret (cm_int))) (cs_nil))
  (cs_one (c1_ret (cm_int))))))
abbrev s__law_operation : Stmt := top 33
abbrev N__law_operation : List Str := ["_law_at", "_law_names"]
theorem sc__law_operation : FnScope N__law_operation ["_law_at"] (defScope s__law_operation) := ⟨rfl, rfl, rfl, by decide +kernel, rfl, by decide +kernel, by decide +kernel⟩
theorem lo__law_operation__law_at : Loc (defScope s__law_operation) "_law_at" := by first | exact .inl rfl | exact .inr rfl
theorem vs__law_operation__law_at : Vis (defScope s__law_operation) "_law_at" := lo__law_operation__law_at.elim .inl fun z => .inr (.inl z)
theorem lo__law_operation__law_names : Loc (defScope s__law_operation) "_law_names" := by first | exact .inl rfl | exact .inr rfl
theorem vs__law_operation__law_names : Vis (defScope s__law_operation) "_law_names" := lo__law_operation__law_names.elim .inl fun z => .inr (.inl z)
def T__law_operation (CS : Nat → Addr) : FT := fnT 2 (sCo (sSet 1 (eLst (aC (eC (.str "add")) (aC (eC (.str "sub")) (aC (eC (.str "mul")) (aC (eC (.str "div")) (aC (eC (.str "mod")) (aC (eC (.str "and")) (aC (eC (.str "or")) (aC (eC (.str "xor")) (aC (eC (.str "shl")) (aC (eC (.str "shr")) (aC (eC (.str "ult")) (aC (eC (.str "ule")) (aC (eC (.str "slt")) (aC (eC (.str "sle")) (aC (eC (.str "eq")) (aN)))))))))))))))))) (
  sCo (sSet 1 (eBin oAdd (eV 1) (eLst (aC (eC (.str "ne")) (aC (eC (.str "nor")) (aN)))))) (
  sRet (eIx oIx (eV 1) (eV 0)))))
theorem ok__law_operation {f : Addr} {fd : FuncData} {CS : Nat → Addr} (F : Fun K "_law_operation" "_law_operation" s__law_operation f fd) (T : Txt K mg CS) : FnOk P w K mg base (L2.CX P w) 1 f fd ["_law_at"] (spX K 1 (T__law_operation CS)) :=
  okX F sc__law_operation rfl rfl (by decide) fun cdv A outer s H E hr =>
  cs_cons (c1_set sc__law_operation.nd rfl lo__law_operation__law_names (cm_lst (ca_cons (cm_str) (ca_cons (cm_str) (ca_cons (cm_str) (ca_cons (cm_str) (ca_cons (cm_str) (ca_cons (cm_str) (ca_cons (cm_str) (ca_cons (cm_str) (ca_cons (cm_str) (ca_cons (cm_str) (ca_cons (cm_str) (ca_cons (cm_str) (ca_cons (cm_str) (ca_cons (cm_str) (ca_cons (cm_str) (ca_nil) rfl) rfl) rfl) rfl) rfl) rfl) rfl) rfl) rfl) rfl) rfl) rfl) rfl) rfl) rfl) (by decide)) rfl (.inl rfl))
  (cs_cons (c1_set sc__law_operation.nd rfl lo__law_operation__law_names (cm_bin cmo_add (cm_v (i := 1) rfl vs__law_operation__law_names nd__law_names.1 nd__law_names.2) (cm_lst (ca_cons (cm_str) (ca_cons (cm_str) (ca_nil) rfl) rfl) (by decide))) rfl (.inl rfl))
  (cs_one (c1_ret (cm_ix cmi_ix (cm_v (i := 1) rfl vs__law_operation__law_names nd__law_names.1 nd__law_names.2) (cm_v (i := 0) rfl vs__law_operation__law_at nd__law_at.1 nd__law_at.2) (fun _ _ => rfl)))))
abbrev s__law_expected : Stmt := top 36
abbrev N__law_expected : List Str := ["_law_word_here", "_law_opcode", "_law_rest", "_law_items", "_law_kind", "_law_scale", "_law_many", "_law_number"]
theorem sc__law_expected : FnScope N__law_expected ["_law_word_here"] (defScope s__law_expected) := ⟨rfl, rfl, rfl, by decide +kernel, rfl, by decide +kernel, by decide +kernel⟩
theorem lo__law_expected__law_word_here : Loc (defScope s__law_expected) "_law_word_here" := by first | exact .inl rfl | exact .inr rfl
theorem vs__law_expected__law_word_here : Vis (defScope s__law_expected) "_law_word_here" := lo__law_expected__law_word_here.elim .inl fun z => .inr (.inl z)
theorem lo__law_expected__law_opcode : Loc (defScope s__law_expected) "_law_opcode" := by first | exact .inl rfl | exact .inr rfl
theorem vs__law_expected__law_opcode : Vis (defScope s__law_expected) "_law_opcode" := lo__law_expected__law_opcode.elim .inl fun z => .inr (.inl z)
theorem lo__law_expected__law_rest : Loc (defScope s__law_expected) "_law_rest" := by first | exact .inl rfl | exact .inr rfl
theorem vs__law_expected__law_rest : Vis (defScope s__law_expected) "_law_rest" := lo__law_expected__law_rest.elim .inl fun z => .inr (.inl z)
theorem lo__law_expected__law_items : Loc (defScope s__law_expected) "_law_items" := by first | exact .inl rfl | exact .inr rfl
theorem vs__law_expected__law_items : Vis (defScope s__law_expected) "_law_items" := lo__law_expected__law_items.elim .inl fun z => .inr (.inl z)
theorem lo__law_expected__law_kind : Loc (defScope s__law_expected) "_law_kind" := by first | exact .inl rfl | exact .inr rfl
theorem vs__law_expected__law_kind : Vis (defScope s__law_expected) "_law_kind" := lo__law_expected__law_kind.elim .inl fun z => .inr (.inl z)
theorem lo__law_expected__law_scale : Loc (defScope s__law_expected) "_law_scale" := by first | exact .inl rfl | exact .inr rfl
theorem vs__law_expected__law_scale : Vis (defScope s__law_expected) "_law_scale" := lo__law_expected__law_scale.elim .inl fun z => .inr (.inl z)
theorem lo__law_expected__law_many : Loc (defScope s__law_expected) "_law_many" := by first | exact .inl rfl | exact .inr rfl
theorem vs__law_expected__law_many : Vis (defScope s__law_expected) "_law_many" := lo__law_expected__law_many.elim .inl fun z => .inr (.inl z)
theorem lo__law_expected__law_number : Loc (defScope s__law_expected) "_law_number" := by first | exact .inl rfl | exact .inr rfl
theorem vs__law_expected__law_number : Vis (defScope s__law_expected) "_law_number" := lo__law_expected__law_number.elim .inl fun z => .inr (.inl z)
theorem g__law_expected_int : (defScope s__law_expected).names.lookup ("int" : Str) = some .globalImplicit := rfl
theorem g__law_expected__law_name : (defScope s__law_expected).names.lookup ("_law_name" : Str) = some .globalImplicit := rfl
theorem g__law_expected__law_shape : (defScope s__law_expected).names.lookup ("_law_shape" : Str) = some .globalImplicit := rfl
theorem g__law_expected__law_place : (defScope s__law_expected).names.lookup ("_law_place" : Str) = some .globalImplicit := rfl
theorem g__law_expected__law_greatest : (defScope s__law_expected).names.lookup ("_law_greatest" : Str) = some .globalImplicit := rfl
theorem g__law_expected__law_operation : (defScope s__law_expected).names.lookup ("_law_operation" : Str) = some .globalImplicit := rfl
theorem g__law_expected_tuple : (defScope s__law_expected).names.lookup ("tuple" : Str) = some .globalImplicit := rfl
def T__law_expected (CS : Nat → Addr) : FT := fnT 8 (sCo (sSet 1 (eBin oDiv (eCB cInt (aC (eV 0) (aN))) (eC (.int 1073741824)))) (
  sCo (sIf (tOr (tCmp oLt (eV 0) (eC (.int 0))) (tOr (tCmp oLt (eV 1) (eC (.int 1))) (tCmp oGt (eV 1) (eC (.int 18))))) (sRet (eC .non)) (sNo)) (
  sCo (sSet 2 (eBin oMod (eCB cInt (aC (eV 0) (aN))) (eC (.int 1073741824)))) (
  sCo (sSet 3 (eLstO (aC (eCall (T__law_name CS) (aC (eV 1) (aN))) (aN)))) (
  sCo (sFor (gName 4) (iStrD (eCall (T__law_shape CS) (aC (eV 1) (aN)))) (sCo (sAsg (gTup 2 (gsC (gName 5) (gsC (gName 6) (gsN)))) (eCall (T__law_place CS) (aC (eV 4) (aN)))) (
  sCo (sSet 7 (eBin oDiv (eV 2) (eV 5))) (
  sCo (sSet 7 (eBin oMod (eCB cInt (aC (eV 7) (aN))) (eV 6))) (
  sCo (sSet 2 (eBin oSub (eV 2) (eBin oMul (eV 7) (eV 5)))) (
  sCo (sIf (tCmp oGt (eV 7) (eCall (T__law_greatest CS) (aC (eV 4) (aN)))) (sRet (eC .non)) (sNo)) (
  sIf (tCmp oEq (eV 4) (eC (.str "k"))) (sExpr (eApp (eV 3) (eCall (T__law_operation CS) (aC (eV 7) (aN))))) (sIf (tAnd (tCmp oEq (eV 4) (eC (.str "g"))) (tCmp oGt (eV 7) (eC (.int 32767)))) (sExpr (eApp (eV 3) (eBin oSub (eV 7) (eC (.int 65536))))) (sIf (tCmp oIn (eV 4) (eTup (aC (eC (.str "e")) (aC (eC (.str "f")) (aN))))) (sExpr (eApp (eV 3) (eBin oAdd (eV 7) (eC (.int 1))))) (sExpr (eApp (eV 3) (eV 7)))))))))))) (
  sCo (sIf (tCmp oNe (eV 2) (eC (.int 0))) (sRet (eC .non)) (sNo)) (
  sCo (sIf (tAnd (tCmp oIn (eV 1) (eTup (aC (eC (.int 6)) (aC (eC (.int 7)) (aN))))) (tCmp oGt (eBin oAdd (eIx oIx (eV 3) (eC (.int 3))) (eIx oIx (eV 3) (eC (.int 4)))) (eC (.int 16384)))) (sRet (eC .non)) (sNo)) (
  sRet (eCB cTup (aC (eV 3) (aN)))))))))))
theorem ok__law_expected {f : Addr} {fd : FuncData} {CS : Nat → Addr} (F : Fun K "_law_expected" "_law_expected" s__law_expected f fd) (T : Txt K mg CS) (C__law_shape : CalX P w K mg base 1 "_law_shape" 1 (T__law_shape CS)) (C__law_name : CalX P w K mg base 1 "_law_name" 1 (T__law_name CS)) (C__law_place : CalX P w K mg base 1 "_law_place" 1 (T__law_place CS)) (C__law_greatest : CalX P w K mg base 1 "_law_greatest" 1 (T__law_greatest CS)) (C__law_operation : CalX P w K mg base 1 "_law_operation" 1 (T__law_operation CS)) : FnOk P w K mg base (L2.CX P w) 2 f fd ["_law_word_here"] (spX K 1 (T__law_expected CS)) :=
  okX F sc__law_expected rfl rfl (by decide) fun cdv A outer s H E hr =>
  cs_cons (c1_set sc__law_expected.nd rfl lo__law_expected__law_opcode (cm_bin cmo_div (cm_callTy cmc_int bt_int T.b_int g__law_expected_int (ca_cons (cm_v (i := 0) rfl vs__law_expected__law_word_here nd__law_word_here.1 nd__law_word_here.2) (ca_nil) rfl) nn_int nd_int.1 rfl rfl) (cm_int)) rfl (.inl rfl))
  (cs_cons (c1_if (ct_pw (cpw_or (ct_cmp cmo_lt (cm_v (i := 0) rfl vs__law_expected__law_word_here nd__law_word_here.1 nd__law_word_here.2) (cm_int) rfl) (cpw_or (ct_cmp cmo_lt (cm_v (i := 1) rfl vs__law_expected__law_opcode nd__law_opcode.1 nd__law_opcode.2) (cm_int) rfl) (cpw_or1 (ct_cmp cmo_gt (cm_v (i := 1) rfl vs__law_expected__law_opcode nd__law_opcode.1 nd__law_opcode.2) (cm_int) rfl))))) (cs_one (c1_ret (cm_non))) (cs_nil))
  (cs_cons (c1_set sc__law_expected.nd rfl lo__law_expected__law_rest (cm_bin cmo_mod (cm_callTy cmc_int bt_int T.b_int g__law_expected_int (ca_cons (cm_v (i := 0) rfl vs__law_expected__law_word_here nd__law_word_here.1 nd__law_word_here.2) (ca_nil) rfl) nn_int nd_int.1 rfl rfl) (cm_int)) rfl (.inl rfl))
  (cs_cons (c1_set sc__law_expected.nd rfl lo__law_expected__law_items (cm_lstO (ca_cons (cm_call C__law_name (hr.mono (by decide)) g__law_expected__law_name (ca_cons (cm_v (i := 1) rfl vs__law_expected__law_opcode nd__law_opcode.1 nd__law_opcode.2) (ca_nil) rfl) nd__law_name.1 rfl rfl) (ca_nil) rfl) (by decide)) rfl (.inl rfl))
  (cs_cons (c1_for (cg_name sc__law_expected.nd rfl lo__law_expected__law_kind (.inl rfl)) (ci_strD (cm_call C__law_shape (hr.mono (by decide)) g__law_expected__law_shape (ca_cons (cm_v (i := 1) rfl vs__law_expected__law_opcode nd__law_opcode.1 nd__law_opcode.2) (ca_nil) rfl) nd__law_shape.1 rfl rfl)) (cs_cons (c1_asg (cg_tup rfl (cgs_cons (cg_name sc__law_expected.nd rfl lo__law_expected__law_scale (.inl rfl)) (cgs_cons (cg_name sc__law_expected.nd rfl lo__law_expected__law_many (.inl rfl)) (cgs_nil) rfl) rfl) rfl rfl) (cm_call C__law_place (hr.mono (by decide)) g__law_expected__law_place (ca_cons (cm_v (i := 4) rfl vs__law_expected__law_kind nd__law_kind.1 nd__law_kind.2) (ca_nil) rfl) nd__law_place.1 rfl rfl) rfl rfl rfl)
  (cs_cons (c1_set sc__law_expected.nd rfl lo__law_expected__law_number (cm_bin cmo_div (cm_v (i := 2) rfl vs__law_expected__law_rest nd__law_rest.1 nd__law_rest.2) (cm_v (i := 5) rfl vs__law_expected__law_scale nd__law_scale.1 nd__law_scale.2)) rfl (.inl rfl))
  (cs_cons (c1_set sc__law_expected.nd rfl lo__law_expected__law_number (cm_bin cmo_mod (cm_callTy cmc_int bt_int T.b_int g__law_expected_int (ca_cons (cm_v (i := 7) rfl vs__law_expected__law_number nd__law_number.1 nd__law_number.2) (ca_nil) rfl) nn_int nd_int.1 rfl rfl) (cm_v (i := 6) rfl vs__law_expected__law_many nd__law_many.1 nd__law_many.2)) rfl (.inl rfl))
  (cs_cons (c1_set sc__law_expected.nd rfl lo__law_expected__law_rest (cm_bin cmo_sub (cm_v (i := 2) rfl vs__law_expected__law_rest nd__law_rest.1 nd__law_rest.2) (cm_bin cmo_mul (cm_v (i := 7) rfl vs__law_expected__law_number nd__law_number.1 nd__law_number.2) (cm_v (i := 5) rfl vs__law_expected__law_scale nd__law_scale.1 nd__law_scale.2))) rfl (.inl rfl))
  (cs_cons (c1_if (ct_cmp cmo_gt (cm_v (i := 7) rfl vs__law_expected__law_number nd__law_number.1 nd__law_number.2) (cm_call C__law_greatest (hr.mono (by decide)) g__law_expected__law_greatest (ca_cons (cm_v (i := 4) rfl vs__law_expected__law_kind nd__law_kind.1 nd__law_kind.2) (ca_nil) rfl) nd__law_greatest.1 rfl rfl) rfl) (cs_one (c1_ret (cm_non))) (cs_nil))
  (cs_one (c1_if (ct_cmp (cmo_eq hr) (cm_v (i := 4) rfl vs__law_expected__law_kind nd__law_kind.1 nd__law_kind.2) (cm_str) rfl) (cs_one (c1_expr (cm_app (cm_v (i := 3) rfl vs__law_expected__law_items nd__law_items.1 nd__law_items.2) (cm_call C__law_operation (hr.mono (by decide)) g__law_expected__law_operation (ca_cons (cm_v (i := 7) rfl vs__law_expected__law_number nd__law_number.1 nd__law_number.2) (ca_nil) rfl) nd__law_operation.1 rfl rfl) rfl rfl rfl rfl) rfl)) (cs_one (c1_if (ct_pw (cpw_and (ct_cmp (cmo_eq hr) (cm_v (i := 4) rfl vs__law_expected__law_kind nd__law_kind.1 nd__law_kind.2) (cm_str) rfl) (cpw_and1 (ct_cmp cmo_gt (cm_v (i := 7) rfl vs__law_expected__law_number nd__law_number.1 nd__law_number.2) (cm_int) rfl)))) (cs_one (c1_expr (cm_app (cm_v (i := 3) rfl vs__law_expected__law_items nd__law_items.1 nd__law_items.2) (cm_bin cmo_sub (cm_v (i := 7) rfl vs__law_expected__law_number nd__law_number.1 nd__law_number.2) (cm_int)) rfl rfl rfl rfl) rfl)) (cs_one (c1_if (ct_cmp cmo_in (cm_v (i := 4) rfl vs__law_expected__law_kind nd__law_kind.1 nd__law_kind.2) (cm_tup (ca_cons (cm_str) (ca_cons (cm_str) (ca_nil) rfl) rfl) (by decide)) rfl) (cs_one (c1_expr (cm_app (cm_v (i := 3) rfl vs__law_expected__law_items nd__law_items.1 nd__law_items.2) (cm_bin cmo_add (cm_v (i := 7) rfl vs__law_expected__law_number nd__law_number.1 nd__law_number.2) (cm_int)) rfl rfl rfl rfl) rfl)) (cs_one (c1_expr (cm_app (cm_v (i := 3) rfl vs__law_expected__law_items nd__law_items.1 nd__law_items.2) (cm_v (i := 7) rfl vs__law_expected__law_number nd__law_number.1 nd__law_number.2) rfl rfl rfl rfl) rfl))))))))))))) rfl pass_cx (fun _ => rfl))
  (cs_cons (c1_if (ct_cmp (cmo_ne hr) (cm_v (i := 2) rfl vs__law_expected__law_rest nd__law_rest.1 nd__law_rest.2) (cm_int) rfl) (cs_one (c1_ret (cm_non))) (cs_nil))
  (cs_cons (c1_if (ct_pw (cpw_and (ct_cmp cmo_in (cm_v (i := 1) rfl vs__law_expected__law_opcode nd__law_opcode.1 nd__law_opcode.2) (cm_tup (ca_cons (cm_int) (ca_cons (cm_int) (ca_nil) rfl) rfl) (by decide)) rfl) (cpw_and1 (ct_cmp cmo_gt (cm_bin cmo_add (cm_ix cmi_ix (cm_v (i := 3) rfl vs__law_expected__law_items nd__law_items.1 nd__law_items.2) (cm_int) (fun _ _ => rfl)) (cm_ix cmi_ix (cm_v (i := 3) rfl vs__law_expected__law_items nd__law_items.1 nd__law_items.2) (cm_int) (fun _ _ => rfl))) (cm_int) rfl)))) (cs_one (c1_ret (cm_non))) (cs_nil))
  (cs_one (c1_ret (cm_callTy cmc_tup bt_tuple T.b_tuple g__law_expected_tuple (ca_cons (cm_v (i := 3) rfl vs__law_expected__law_items nd__law_items.1 nd__law_items.2) (ca_nil) rfl) nn_tuple nd_tuple.1 rfl rfl)))))))))
abbrev s_value_of : Stmt := top 26
abbrev N_value_of : List Str := ["word", "field", "number", "value"]
theorem sc_value_of : FnScope N_value_of ["word", "field"] (defScope s_value_of) := ⟨rfl, rfl, rfl, by decide +kernel, rfl, by decide +kernel, by decide +kernel⟩
theorem lo_value_of_word : Loc (defScope s_value_of) "word" := by first | exact .inl rfl | exact .inr rfl
theorem vs_value_of_word : Vis (defScope s_value_of) "word" := lo_value_of_word.elim .inl fun z => .inr (.inl z)
theorem lo_value_of_field : Loc (defScope s_value_of) "field" := by first | exact .inl rfl | exact .inr rfl
theorem vs_value_of_field : Vis (defScope s_value_of) "field" := lo_value_of_field.elim .inl fun z => .inr (.inl z)
theorem lo_value_of_number : Loc (defScope s_value_of) "number" := by first | exact .inl rfl | exact .inr rfl
theorem vs_value_of_number : Vis (defScope s_value_of) "number" := lo_value_of_number.elim .inl fun z => .inr (.inl z)
theorem lo_value_of_value : Loc (defScope s_value_of) "value" := by first | exact .inl rfl | exact .inr rfl
theorem vs_value_of_value : Vis (defScope s_value_of) "value" := lo_value_of_value.elim .inl fun z => .inr (.inl z)
theorem g_value_of_NAMED : (defScope s_value_of).names.lookup ("NAMED" : Str) = some .globalImplicit := rfl
theorem g_value_of_len : (defScope s_value_of).names.lookup ("len" : Str) = some .globalImplicit := rfl
theorem g_value_of_CALCULATIONS : (defScope s_value_of).names.lookup ("CALCULATIONS" : Str) = some .globalImplicit := rfl
def T_value_of (CS : Nat → Addr) : FT := fnT 4 (sCo (sSet 2 (eBin oBand (eBin oShr (eV 0) (eIx oIx (eV 1) (eC (.int 2)))) (eBin oSub (eIx oIx (eV 1) (eC (.int 3))) (eC (.int 1))))) (
  sCo (sIf (tCmp oEq (eV 1) (eC (.tup [.int 0, .int 16, .int 13, .int 32, .int 0]))) (sRet (eIf (tCmp oLt (eV 2) (eCB cLen (aC (eC (.tup [.str "add", .str "sub", .str "mul", .str "div", .str "mod", .str "and", .str "or", .str "xor", .str "shl", .str "shr", .str "ult", .str "ule", .str "slt", .str "sle", .str "eq", .str "ne", .str "nor"])) (aN)))) (eIx oIx (eC (.tup [.str "add", .str "sub", .str "mul", .str "div", .str "mod", .str "and", .str "or", .str "xor", .str "shl", .str "shr", .str "ult", .str "ule", .str "slt", .str "sle", .str "eq", .str "ne", .str "nor"])) (eV 2)) (eC (.str "")))) (sNo)) (
  sCo (sSet 3 (eBin oAdd (eV 2) (eIx oIx (eV 1) (eC (.int 4))))) (
  sRet (eIf (tCmp oGt (eV 3) (eIx oIx (eV 1) (eC (.int 1)))) (eBin oSub (eV 3) (eIx oIx (eV 1) (eC (.int 3)))) (eV 3))))))
theorem ok_value_of {f : Addr} {fd : FuncData} {CS : Nat → Addr} (F : Fun K "value_of" "value_of" s_value_of f fd) (T : Txt K mg CS) : FnOk P w K mg base (L2.CX P w) 1 f fd ["word", "field"] (spX K 2 (T_value_of CS)) :=
  okX F sc_value_of rfl rfl (by decide) fun cdv A outer s H E hr =>
  cs_cons (c1_set sc_value_of.nd rfl lo_value_of_number (cm_bin cmo_band (cm_bin cmo_shr (cm_v (i := 0) rfl vs_value_of_word nd_word.1 nd_word.2) (cm_ix cmi_ix (cm_v (i := 1) rfl vs_value_of_field nd_field.1 nd_field.2) (cm_int) (fun _ _ => rfl))) (cm_bin cmo_sub (cm_ix cmi_ix (cm_v (i := 1) rfl vs_value_of_field nd_field.1 nd_field.2) (cm_int) (fun _ _ => rfl)) (cm_int))) rfl (.inl rfl))
  (cs_cons (c1_if (ct_cmp (cmo_eq hr) (cm_v (i := 1) rfl vs_value_of_field nd_field.1 nd_field.2) (cm_glob T.c_NAMED g_value_of_NAMED nd_NAMED.1) rfl) (cs_one (c1_ret (cm_if (ct_cmp cmo_lt (cm_v (i := 2) rfl vs_value_of_number nd_number.1 nd_number.2) (cm_callB cmc_len bb_len T.b_len g_value_of_len (ca_cons (cm_glob T.c_CALCULATIONS g_value_of_CALCULATIONS nd_CALCULATIONS.1) (ca_nil) rfl) nn_len nd_len.1 rfl rfl) rfl) (cm_ix cmi_ix (cm_glob T.c_CALCULATIONS g_value_of_CALCULATIONS nd_CALCULATIONS.1) (cm_v (i := 2) rfl vs_value_of_number nd_number.1 nd_number.2) (fun _ _ => rfl)) (cm_str)))) (cs_nil))
  (cs_cons (c1_set sc_value_of.nd rfl lo_value_of_value (cm_bin cmo_add (cm_v (i := 2) rfl vs_value_of_number nd_number.1 nd_number.2) (cm_ix cmi_ix (cm_v (i := 1) rfl vs_value_of_field nd_field.1 nd_field.2) (cm_int) (fun _ _ => rfl))) rfl (.inl rfl))
  (cs_one (c1_ret (cm_if (ct_cmp cmo_gt (cm_v (i := 3) rfl vs_value_of_value nd_value.1 nd_value.2) (cm_ix cmi_ix (cm_v (i := 1) rfl vs_value_of_field nd_field.1 nd_field.2) (cm_int) (fun _ _ => rfl)) rfl) (cm_bin cmo_sub (cm_v (i := 3) rfl vs_value_of_value nd_value.1 nd_value.2) (cm_ix cmi_ix (cm_v (i := 1) rfl vs_value_of_field nd_field.1 nd_field.2) (cm_int) (fun _ _ => rfl))) (cm_v (i := 3) rfl vs_value_of_value nd_value.1 nd_value.2))))))
abbrev s_opcode_of : Stmt := top 22
abbrev N_opcode_of : List Str := ["name", "at", "form"]
theorem sc_opcode_of : FnScope N_opcode_of ["name"] (defScope s_opcode_of) := ⟨rfl, rfl, rfl, by decide +kernel, rfl, by decide +kernel, by decide +kernel⟩
theorem lo_opcode_of_name : Loc (defScope s_opcode_of) "name" := by first | exact .inl rfl | exact .inr rfl
theorem vs_opcode_of_name : Vis (defScope s_opcode_of) "name" := lo_opcode_of_name.elim .inl fun z => .inr (.inl z)
theorem lo_opcode_of_at : Loc (defScope s_opcode_of) "at" := by first | exact .inl rfl | exact .inr rfl
theorem vs_opcode_of_at : Vis (defScope s_opcode_of) "at" := lo_opcode_of_at.elim .inl fun z => .inr (.inl z)
theorem lo_opcode_of_form : Loc (defScope s_opcode_of) "form" := by first | exact .inl rfl | exact .inr rfl
theorem vs_opcode_of_form : Vis (defScope s_opcode_of) "form" := lo_opcode_of_form.elim .inl fun z => .inr (.inl z)
theorem g_opcode_of_enumerate : (defScope s_opcode_of).names.lookup ("enumerate" : Str) = some .globalImplicit := rfl
theorem g_opcode_of_FORMS : (defScope s_opcode_of).names.lookup ("FORMS" : Str) = some .globalImplicit := rfl
def T_opcode_of (CS : Nat → Addr) : FT := fnT 3 (sCo (sFor (gTup 2 (gsC (gName 1) (gsC (gName 2) (gsN)))) (iEnA (eC (.tup [.tup [.str "set", .tup [.int 0, .int 8, .int 26, .int 16, .int 0], .tup [.int (-32768), .int 32767, .int 0, .int 65536, .int 0]], .tup [.str "high", .tup [.int 0, .int 8, .int 26, .int 16, .int 0], .tup [.int 0, .int 65535, .int 0, .int 65536, .int 0]], .tup [.str "calc", .tup [.int 0, .int 16, .int 13, .int 32, .int 0], .tup [.int 0, .int 8, .int 26, .int 16, .int 0], .tup [.int 0, .int 8, .int 22, .int 16, .int 0], .tup [.int 0, .int 8, .int 18, .int 16, .int 0]], .tup [.str "load", .tup [.int 0, .int 8, .int 26, .int 16, .int 0], .tup [.int 0, .int 16383, .int 0, .int 16384, .int 0]], .tup [.str "store", .tup [.int 0, .int 8, .int 26, .int 16, .int 0], .tup [.int 0, .int 16383, .int 0, .int 16384, .int 0]], .tup [.str "loadx", .tup [.int 0, .int 8, .int 26, .int 16, .int 0], .tup [.int 0, .int 8, .int 22, .int 16, .int 0], .tup [.int 0, .int 16383, .int 0, .int 16384, .int 0], .tup [.int 1, .int 64, .int 14, .int 64, .int 1]], .tup [.str "storex", .tup [.int 0, .int 8, .int 26, .int 16, .int 0], .tup [.int 0, .int 8, .int 22, .int 16, .int 0], .tup [.int 0, .int 16383, .int 0, .int 16384, .int 0], .tup [.int 1, .int 64, .int 14, .int 64, .int 1]], .tup [.str "jump", .tup [.int 0, .int 4095, .int 0, .int 4096, .int 0]], .tup [.str "jzero", .tup [.int 0, .int 8, .int 26, .int 16, .int 0], .tup [.int 0, .int 4095, .int 0, .int 4096, .int 0]], .tup [.str "count", .tup [.int 0, .int 255, .int 22, .int 256, .int 0], .tup [.int 1, .int 64, .int 0, .int 64, .int 1]], .tup [.str "again", .tup [.int 0, .int 255, .int 22, .int 256, .int 0], .tup [.int 0, .int 4095, .int 0, .int 4096, .int 0]], .tup [.str "link", .tup [.int 0, .int 4095, .int 0, .int 4096, .int 0]], .tup [.str "back"], .tup [.str "done"], .tup [.str "enter", .tup [.int 0, .int 3, .int 0, .int 16, .int 0]], .tup [.str "leave", .tup [.int 0, .int 3, .int 0, .int 16, .int 0]], .tup [.str "in", .tup [.int 0, .int 8, .int 26, .int 16, .int 0], .tup [.int 0, .int 7, .int 0, .int 16, .int 0]], .tup [.str "out", .tup [.int 0, .int 8, .int 26, .int 16, .int 0], .tup [.int 0, .int 7, .int 0, .int 16, .int 0]]]))) (sIf (tCmp oEq (eIx oIx (eV 2) (eC (.int 0))) (eV 0)) (sRet (eBin oAdd (eV 1) (eC (.int 1)))) (sNo))) (
  sRet (eC (.int 0))))
theorem ok_opcode_of {f : Addr} {fd : FuncData} {CS : Nat → Addr} (F : Fun K "opcode_of" "opcode_of" s_opcode_of f fd) (T : Txt K mg CS) : FnOk P w K mg base (L2.CX P w) 1 f fd ["name"] (spX K 1 (T_opcode_of CS)) :=
  okX F sc_opcode_of rfl rfl (by decide) fun cdv A outer s H E hr =>
  cs_cons (c1_for (cg_tup rfl (cgs_cons (cg_name sc_opcode_of.nd rfl lo_opcode_of_at (.inl rfl)) (cgs_cons (cg_name sc_opcode_of.nd rfl lo_opcode_of_form (.inl rfl)) (cgs_nil) rfl) rfl) rfl rfl) (ci_enA g_opcode_of_enumerate T.b_enumerate (cm_glob T.c_FORMS g_opcode_of_FORMS nd_FORMS.1) rfl) (cs_one (c1_if (ct_cmp (cmo_eq hr) (cm_ix cmi_ix (cm_v (i := 2) rfl vs_opcode_of_form nd_form.1 nd_form.2) (cm_int) (fun _ _ => rfl)) (cm_v (i := 0) rfl vs_opcode_of_name nd_name.1 nd_name.2) rfl) (cs_one (c1_ret (cm_bin cmo_add (cm_v (i := 1) rfl vs_opcode_of_at nd_at.1 nd_at.2) (cm_int)))) (cs_nil))) rfl pass_cx (fun _ => rfl))
  (cs_one (c1_ret (cm_int)))
abbrev s_number_of : Stmt := top 23
abbrev N_number_of : List Str := ["value", "field"]
theorem sc_number_of : FnScope N_number_of ["value", "field"] (defScope s_number_of) := ⟨rfl, rfl, rfl, by decide +kernel, rfl, by decide +kernel, by decide +kernel⟩
theorem lo_number_of_value : Loc (defScope s_number_of) "value" := by first | exact .inl rfl | exact .inr rfl
theorem vs_number_of_value : Vis (defScope s_number_of) "value" := lo_number_of_value.elim .inl fun z => .inr (.inl z)
theorem lo_number_of_field : Loc (defScope s_number_of) "field" := by first | exact .inl rfl | exact .inr rfl
theorem vs_number_of_field : Vis (defScope s_number_of) "field" := lo_number_of_field.elim .inl fun z => .inr (.inl z)
theorem g_number_of_NAMED : (defScope s_number_of).names.lookup ("NAMED" : Str) = some .globalImplicit := rfl
theorem g_number_of_CALCULATIONS : (defScope s_number_of).names.lookup ("CALCULATIONS" : Str) = some .globalImplicit := rfl
theorem g_number_of_isinstance : (defScope s_number_of).names.lookup ("isinstance" : Str) = some .globalImplicit := rfl
theorem g_number_of_int : (defScope s_number_of).names.lookup ("int" : Str) = some .globalImplicit := rfl
def T_number_of (CS : Nat → Addr) : FT := fnT 2 (sCo (sIf (tCmp oEq (eV 1) (eC (.tup [.int 0, .int 16, .int 13, .int 32, .int 0]))) (sRet (eIf (tCmp oIn (eV 0) (eC (.tup [.str "add", .str "sub", .str "mul", .str "div", .str "mod", .str "and", .str "or", .str "xor", .str "shl", .str "shr", .str "ult", .str "ule", .str "slt", .str "sle", .str "eq", .str "ne", .str "nor"]))) (eTIdx ["add", "sub", "mul", "div", "mod", "and", "or", "xor", "shl", "shr", "ult", "ule", "slt", "sle", "eq", "ne", "nor"] (eV 0)) (eC .non))) (sNo)) (
  sCo (sIf (tOr (tNot (tV (eCB cIsi (aC (eV 0) (aC (eC (.ty "int")) (aN)))))) (tOr (tCmp oLt (eV 0) (eIx oIx (eV 1) (eC (.int 0)))) (tCmp oGt (eV 0) (eIx oIx (eV 1) (eC (.int 1)))))) (sRet (eC .non)) (sNo)) (
  sRet (eBin oBand (eBin oSub (eV 0) (eIx oIx (eV 1) (eC (.int 4)))) (eBin oSub (eIx oIx (eV 1) (eC (.int 3))) (eC (.int 1)))))))
theorem ok_number_of {f : Addr} {fd : FuncData} {CS : Nat → Addr} (F : Fun K "number_of" "number_of" s_number_of f fd) (T : Txt K mg CS) : FnOk P w K mg base (L2.CX P w) 1 f fd ["value", "field"] (spX K 2 (T_number_of CS)) :=
  okX F sc_number_of rfl rfl (by decide) fun cdv A outer s H E hr =>
  cs_cons (c1_if (ct_cmp (cmo_eq hr) (cm_v (i := 1) rfl vs_number_of_field nd_field.1 nd_field.2) (cm_glob T.c_NAMED g_number_of_NAMED nd_NAMED.1) rfl) (cs_one (c1_ret (cm_if (ct_cmp cmo_in (cm_v (i := 0) rfl vs_number_of_value nd_value.1 nd_value.2) (cm_glob T.c_CALCULATIONS g_number_of_CALCULATIONS nd_CALCULATIONS.1) rfl) (cm_tidx T.ti_CALCULATIONS g_number_of_CALCULATIONS nd_CALCULATIONS.1 (cm_v (i := 0) rfl vs_number_of_value nd_value.1 nd_value.2) rfl rfl rfl rfl) (cm_non)))) (cs_nil))
  (cs_cons (c1_if (ct_pw (cpw_or (ct_not (ct_v (cm_callB cmc_isi bb_isinstance T.b_isinstance g_number_of_isinstance (ca_cons (cm_v (i := 0) rfl vs_number_of_value nd_value.1 nd_value.2) (ca_cons (cm_ty bt_int T.b_int g_number_of_int nn_int nd_int.1) (ca_nil) rfl) rfl) nn_isinstance nd_isinstance.1 rfl rfl))) (cpw_or (ct_cmp cmo_lt (cm_v (i := 0) rfl vs_number_of_value nd_value.1 nd_value.2) (cm_ix cmi_ix (cm_v (i := 1) rfl vs_number_of_field nd_field.1 nd_field.2) (cm_int) (fun _ _ => rfl)) rfl) (cpw_or1 (ct_cmp cmo_gt (cm_v (i := 0) rfl vs_number_of_value nd_value.1 nd_value.2) (cm_ix cmi_ix (cm_v (i := 1) rfl vs_number_of_field nd_field.1 nd_field.2) (cm_int) (fun _ _ => rfl)) rfl))))) (cs_one (c1_ret (cm_non))) (cs_nil))
  (cs_one (c1_ret (cm_bin cmo_band (cm_bin cmo_sub (cm_v (i := 0) rfl vs_number_of_value nd_value.1 nd_value.2) (cm_ix cmi_ix (cm_v (i := 1) rfl vs_number_of_field nd_field.1 nd_field.2) (cm_int) (fun _ _ => rfl))) (cm_bin cmo_sub (cm_ix cmi_ix (cm_v (i := 1) rfl vs_number_of_field nd_field.1 nd_field.2) (cm_int) (fun _ _ => rfl)) (cm_int))))))
abbrev s_is_instruction : Stmt := top 24
abbrev N_is_instruction : List Str := ["item", "opcode", "form", "value", "field"]
theorem sc_is_instruction : FnScope N_is_instruction ["item"] (defScope s_is_instruction) := ⟨rfl, rfl, rfl, by decide +kernel, rfl, by decide +kernel, by decide +kernel⟩
theorem lo_is_instruction_item : Loc (defScope s_is_instruction) "item" := by first | exact .inl rfl | exact .inr rfl
theorem vs_is_instruction_item : Vis (defScope s_is_instruction) "item" := lo_is_instruction_item.elim .inl fun z => .inr (.inl z)
theorem lo_is_instruction_opcode : Loc (defScope s_is_instruction) "opcode" := by first | exact .inl rfl | exact .inr rfl
theorem vs_is_instruction_opcode : Vis (defScope s_is_instruction) "opcode" := lo_is_instruction_opcode.elim .inl fun z => .inr (.inl z)
theorem lo_is_instruction_form : Loc (defScope s_is_instruction) "form" := by first | exact .inl rfl | exact .inr rfl
theorem vs_is_instruction_form : Vis (defScope s_is_instruction) "form" := lo_is_instruction_form.elim .inl fun z => .inr (.inl z)
theorem lo_is_instruction_value : Loc (defScope s_is_instruction) "value" := by first | exact .inl rfl | exact .inr rfl
theorem vs_is_instruction_value : Vis (defScope s_is_instruction) "value" := lo_is_instruction_value.elim .inl fun z => .inr (.inl z)
theorem lo_is_instruction_field : Loc (defScope s_is_instruction) "field" := by first | exact .inl rfl | exact .inr rfl
theorem vs_is_instruction_field : Vis (defScope s_is_instruction) "field" := lo_is_instruction_field.elim .inl fun z => .inr (.inl z)
theorem g_is_instruction_len : (defScope s_is_instruction).names.lookup ("len" : Str) = some .globalImplicit := rfl
theorem g_is_instruction_opcode_of : (defScope s_is_instruction).names.lookup ("opcode_of" : Str) = some .globalImplicit := rfl
theorem g_is_instruction_FORMS : (defScope s_is_instruction).names.lookup ("FORMS" : Str) = some .globalImplicit := rfl
theorem g_is_instruction_zip : (defScope s_is_instruction).names.lookup ("zip" : Str) = some .globalImplicit := rfl
theorem g_is_instruction_number_of : (defScope s_is_instruction).names.lookup ("number_of" : Str) = some .globalImplicit := rfl
theorem g_is_instruction_MEMORY : (defScope s_is_instruction).names.lookup ("MEMORY" : Str) = some .globalImplicit := rfl
def T_is_instruction (CS : Nat → Addr) : FT := fnT 5 (sCo (sSet 1 (eIf (tCmp oGt (eCB cLen (aC (eV 0) (aN))) (eC (.int 0))) (eCall (T_opcode_of CS) (aC (eIx oIx (eV 0) (eC (.int 0))) (aN))) (eC (.int 0)))) (
  sCo (sIf (tCmp oEq (eV 1) (eC (.int 0))) (sRet (eC (.bl false))) (sNo)) (
  sCo (sSet 2 (eIx oIx (eC (.tup [.tup [.str "set", .tup [.int 0, .int 8, .int 26, .int 16, .int 0], .tup [.int (-32768), .int 32767, .int 0, .int 65536, .int 0]], .tup [.str "high", .tup [.int 0, .int 8, .int 26, .int 16, .int 0], .tup [.int 0, .int 65535, .int 0, .int 65536, .int 0]], .tup [.str "calc", .tup [.int 0, .int 16, .int 13, .int 32, .int 0], .tup [.int 0, .int 8, .int 26, .int 16, .int 0], .tup [.int 0, .int 8, .int 22, .int 16, .int 0], .tup [.int 0, .int 8, .int 18, .int 16, .int 0]], .tup [.str "load", .tup [.int 0, .int 8, .int 26, .int 16, .int 0], .tup [.int 0, .int 16383, .int 0, .int 16384, .int 0]], .tup [.str "store", .tup [.int 0, .int 8, .int 26, .int 16, .int 0], .tup [.int 0, .int 16383, .int 0, .int 16384, .int 0]], .tup [.str "loadx", .tup [.int 0, .int 8, .int 26, .int 16, .int 0], .tup [.int 0, .int 8, .int 22, .int 16, .int 0], .tup [.int 0, .int 16383, .int 0, .int 16384, .int 0], .tup [.int 1, .int 64, .int 14, .int 64, .int 1]], .tup [.str "storex", .tup [.int 0, .int 8, .int 26, .int 16, .int 0], .tup [.int 0, .int 8, .int 22, .int 16, .int 0], .tup [.int 0, .int 16383, .int 0, .int 16384, .int 0], .tup [.int 1, .int 64, .int 14, .int 64, .int 1]], .tup [.str "jump", .tup [.int 0, .int 4095, .int 0, .int 4096, .int 0]], .tup [.str "jzero", .tup [.int 0, .int 8, .int 26, .int 16, .int 0], .tup [.int 0, .int 4095, .int 0, .int 4096, .int 0]], .tup [.str "count", .tup [.int 0, .int 255, .int 22, .int 256, .int 0], .tup [.int 1, .int 64, .int 0, .int 64, .int 1]], .tup [.str "again", .tup [.int 0, .int 255, .int 22, .int 256, .int 0], .tup [.int 0, .int 4095, .int 0, .int 4096, .int 0]], .tup [.str "link", .tup [.int 0, .int 4095, .int 0, .int 4096, .int 0]], .tup [.str "back"], .tup [.str "done"], .tup [.str "enter", .tup [.int 0, .int 3, .int 0, .int 16, .int 0]], .tup [.str "leave", .tup [.int 0, .int 3, .int 0, .int 16, .int 0]], .tup [.str "in", .tup [.int 0, .int 8, .int 26, .int 16, .int 0], .tup [.int 0, .int 7, .int 0, .int 16, .int 0]], .tup [.str "out", .tup [.int 0, .int 8, .int 26, .int 16, .int 0], .tup [.int 0, .int 7, .int 0, .int 16, .int 0]]])) (eBin oSub (eV 1) (eC (.int 1))))) (
  sCo (sIf (tCmp oNe (eCB cLen (aC (eV 0) (aN))) (eCB cLen (aC (eV 2) (aN)))) (sRet (eC (.bl false))) (sNo)) (
  sCo (sFor (gTup 2 (gsC (gName 3) (gsC (gName 4) (gsN)))) (iZipA (eSl (eV 0) (pS (eC (.int 1))) (pN)) (eSl (eV 2) (pS (eC (.int 1))) (pN))) (sIf (tCmp oIsN (eCall (T_number_of CS) (aC (eV 3) (aC (eV 4) (aN)))) (eC .non)) (sRet (eC (.bl false))) (sNo))) (
  sCo (sIf (tOr (tCmp oEq (eIx oIx (eV 0) (eC (.int 0))) (eC (.str "loadx"))) (tCmp oEq (eIx oIx (eV 0) (eC (.int 0))) (eC (.str "storex")))) (sRet (eBin oLe (eBin oAdd (eIx oIx (eV 0) (eC (.int 3))) (eIx oIx (eV 0) (eC (.int 4)))) (eC (.int 16384)))) (sNo)) (
  sRet (eC (.bl true)))))))))
theorem ok_is_instruction {f : Addr} {fd : FuncData} {CS : Nat → Addr} (F : Fun K "is_instruction" "is_instruction" s_is_instruction f fd) (T : Txt K mg CS) (C_opcode_of : CalX P w K mg base 1 "opcode_of" 1 (T_opcode_of CS)) (C_number_of : CalX P w K mg base 1 "number_of" 2 (T_number_of CS)) : FnOk P w K mg base (L2.CX P w) 2 f fd ["item"] (spX K 1 (T_is_instruction CS)) :=
  okX F sc_is_instruction rfl rfl (by decide) fun cdv A outer s H E hr =>
  cs_cons (c1_set sc_is_instruction.nd rfl lo_is_instruction_opcode (cm_if (ct_cmp cmo_gt (cm_callB cmc_len bb_len T.b_len g_is_instruction_len (ca_cons (cm_v (i := 0) rfl vs_is_instruction_item nd_item.1 nd_item.2) (ca_nil) rfl) nn_len nd_len.1 rfl rfl) (cm_int) rfl) (cm_call C_opcode_of (hr.mono (by decide)) g_is_instruction_opcode_of (ca_cons (cm_ix cmi_ix (cm_v (i := 0) rfl vs_is_instruction_item nd_item.1 nd_item.2) (cm_int) (fun _ _ => rfl)) (ca_nil) rfl) nd_opcode_of.1 rfl rfl) (cm_int)) rfl (.inl rfl))
  (cs_cons (c1_if (ct_cmp (cmo_eq hr) (cm_v (i := 1) rfl vs_is_instruction_opcode nd_opcode.1 nd_opcode.2) (cm_int) rfl) (cs_one (c1_ret (cm_bl))) (cs_nil))
  (cs_cons (c1_set sc_is_instruction.nd rfl lo_is_instruction_form (cm_ix cmi_ix (cm_glob T.c_FORMS g_is_instruction_FORMS nd_FORMS.1) (cm_bin cmo_sub (cm_v (i := 1) rfl vs_is_instruction_opcode nd_opcode.1 nd_opcode.2) (cm_int)) (fun _ _ => rfl)) rfl (.inl rfl))
  (cs_cons (c1_if (ct_cmp (cmo_ne hr) (cm_callB cmc_len bb_len T.b_len g_is_instruction_len (ca_cons (cm_v (i := 0) rfl vs_is_instruction_item nd_item.1 nd_item.2) (ca_nil) rfl) nn_len nd_len.1 rfl rfl) (cm_callB cmc_len bb_len T.b_len g_is_instruction_len (ca_cons (cm_v (i := 2) rfl vs_is_instruction_form nd_form.1 nd_form.2) (ca_nil) rfl) nn_len nd_len.1 rfl rfl) rfl) (cs_one (c1_ret (cm_bl))) (cs_nil))
  (cs_cons (c1_for (cg_tup rfl (cgs_cons (cg_name sc_is_instruction.nd rfl lo_is_instruction_value (.inl rfl)) (cgs_cons (cg_name sc_is_instruction.nd rfl lo_is_instruction_field (.inl rfl)) (cgs_nil) rfl) rfl) rfl rfl) (ci_zipA g_is_instruction_zip T.b_zip (cm_sl (cm_v (i := 0) rfl vs_is_instruction_item nd_item.1 nd_item.2) (cp_some (cm_int)) (cp_none)) (cm_sl (cm_v (i := 2) rfl vs_is_instruction_form nd_form.1 nd_form.2) (cp_some (cm_int)) (cp_none)) rfl rfl rfl) (cs_one (c1_if (ct_cmp cmo_isN (cm_call C_number_of (hr.mono (by decide)) g_is_instruction_number_of (ca_cons (cm_v (i := 3) rfl vs_is_instruction_value nd_value.1 nd_value.2) (ca_cons (cm_v (i := 4) rfl vs_is_instruction_field nd_field.1 nd_field.2) (ca_nil) rfl) rfl) nd_number_of.1 rfl rfl) (cm_non) rfl) (cs_one (c1_ret (cm_bl))) (cs_nil))) rfl pass_cx (fun _ => rfl))
  (cs_cons (c1_if (ct_pw (cpw_or (ct_cmp (cmo_eq hr) (cm_ix cmi_ix (cm_v (i := 0) rfl vs_is_instruction_item nd_item.1 nd_item.2) (cm_int) (fun _ _ => rfl)) (cm_str) rfl) (cpw_or1 (ct_cmp (cmo_eq hr) (cm_ix cmi_ix (cm_v (i := 0) rfl vs_is_instruction_item nd_item.1 nd_item.2) (cm_int) (fun _ _ => rfl)) (cm_str) rfl)))) (cs_one (c1_ret (cm_cmp cmo_le (cm_bin cmo_add (cm_ix cmi_ix (cm_v (i := 0) rfl vs_is_instruction_item nd_item.1 nd_item.2) (cm_int) (fun _ _ => rfl)) (cm_ix cmi_ix (cm_v (i := 0) rfl vs_is_instruction_item nd_item.1 nd_item.2) (cm_int) (fun _ _ => rfl))) (cm_glob T.c_MEMORY g_is_instruction_MEMORY nd_MEMORY.1) rfl))) (cs_nil))
  (cs_one (c1_ret (cm_bl))))))))
abbrev s_encode : Stmt := top 25
abbrev N_encode : List Str := ["instruction", "opcode", "word", "value", "field"]
theorem sc_encode : FnScope N_encode ["instruction"] (defScope s_encode) := ⟨rfl, rfl, rfl, by decide +kernel, rfl, by decide +kernel, by decide +kernel⟩
theorem lo_encode_instruction : Loc (defScope s_encode) "instruction" := by first | exact .inl rfl | exact .inr rfl
theorem vs_encode_instruction : Vis (defScope s_encode) "instruction" := lo_encode_instruction.elim .inl fun z => .inr (.inl z)
theorem lo_encode_opcode : Loc (defScope s_encode) "opcode" := by first | exact .inl rfl | exact .inr rfl
theorem vs_encode_opcode : Vis (defScope s_encode) "opcode" := lo_encode_opcode.elim .inl fun z => .inr (.inl z)
theorem lo_encode_word : Loc (defScope s_encode) "word" := by first | exact .inl rfl | exact .inr rfl
theorem vs_encode_word : Vis (defScope s_encode) "word" := lo_encode_word.elim .inl fun z => .inr (.inl z)
theorem lo_encode_value : Loc (defScope s_encode) "value" := by first | exact .inl rfl | exact .inr rfl
theorem vs_encode_value : Vis (defScope s_encode) "value" := lo_encode_value.elim .inl fun z => .inr (.inl z)
theorem lo_encode_field : Loc (defScope s_encode) "field" := by first | exact .inl rfl | exact .inr rfl
theorem vs_encode_field : Vis (defScope s_encode) "field" := lo_encode_field.elim .inl fun z => .inr (.inl z)
theorem g_encode_is_instruction : (defScope s_encode).names.lookup ("is_instruction" : Str) = some .globalImplicit := rfl
theorem g_encode_CodeError : (defScope s_encode).names.lookup ("CodeError" : Str) = some .globalImplicit := rfl
theorem g_encode_opcode_of : (defScope s_encode).names.lookup ("opcode_of" : Str) = some .globalImplicit := rfl
theorem g_encode_OPCODE_SHIFT : (defScope s_encode).names.lookup ("OPCODE_SHIFT" : Str) = some .globalImplicit := rfl
theorem g_encode_zip : (defScope s_encode).names.lookup ("zip" : Str) = some .globalImplicit := rfl
theorem g_encode_FORMS : (defScope s_encode).names.lookup ("FORMS" : Str) = some .globalImplicit := rfl
theorem g_encode_number_of : (defScope s_encode).names.lookup ("number_of" : Str) = some .globalImplicit := rfl
def T_encode (CS : Nat → Addr) : FT := fnT 5 (sCo (sIf (tNot (tV (eCall (T_is_instruction CS) (aC (eV 0) (aN))))) (sRz (CS 1) f_at (eC (.int 0))) (sNo)) (
  sCo (sSet 1 (eCall (T_opcode_of CS) (aC (eIx oIx (eV 0) (eC (.int 0))) (aN)))) (
  sCo (sSet 2 (eBin oShl (eV 1) (eC (.int 30)))) (
  sCo (sFor (gTup 2 (gsC (gName 3) (gsC (gName 4) (gsN)))) (iZipA (eSl (eV 0) (pS (eC (.int 1))) (pN)) (eSl (eIx oIx (eC (.tup [.tup [.str "set", .tup [.int 0, .int 8, .int 26, .int 16, .int 0], .tup [.int (-32768), .int 32767, .int 0, .int 65536, .int 0]], .tup [.str "high", .tup [.int 0, .int 8, .int 26, .int 16, .int 0], .tup [.int 0, .int 65535, .int 0, .int 65536, .int 0]], .tup [.str "calc", .tup [.int 0, .int 16, .int 13, .int 32, .int 0], .tup [.int 0, .int 8, .int 26, .int 16, .int 0], .tup [.int 0, .int 8, .int 22, .int 16, .int 0], .tup [.int 0, .int 8, .int 18, .int 16, .int 0]], .tup [.str "load", .tup [.int 0, .int 8, .int 26, .int 16, .int 0], .tup [.int 0, .int 16383, .int 0, .int 16384, .int 0]], .tup [.str "store", .tup [.int 0, .int 8, .int 26, .int 16, .int 0], .tup [.int 0, .int 16383, .int 0, .int 16384, .int 0]], .tup [.str "loadx", .tup [.int 0, .int 8, .int 26, .int 16, .int 0], .tup [.int 0, .int 8, .int 22, .int 16, .int 0], .tup [.int 0, .int 16383, .int 0, .int 16384, .int 0], .tup [.int 1, .int 64, .int 14, .int 64, .int 1]], .tup [.str "storex", .tup [.int 0, .int 8, .int 26, .int 16, .int 0], .tup [.int 0, .int 8, .int 22, .int 16, .int 0], .tup [.int 0, .int 16383, .int 0, .int 16384, .int 0], .tup [.int 1, .int 64, .int 14, .int 64, .int 1]], .tup [.str "jump", .tup [.int 0, .int 4095, .int 0, .int 4096, .int 0]], .tup [.str "jzero", .tup [.int 0, .int 8, .int 26, .int 16, .int 0], .tup [.int 0, .int 4095, .int 0, .int 4096, .int 0]], .tup [.str "count", .tup [.int 0, .int 255, .int 22, .int 256, .int 0], .tup [.int 1, .int 64, .int 0, .int 64, .int 1]], .tup [.str "again", .tup [.int 0, .int 255, .int 22, .int 256, .int 0], .tup [.int 0, .int 4095, .int 0, .int 4096, .int 0]], .tup [.str "link", .tup [.int 0, .int 4095, .int 0, .int 4096, .int 0]], .tup [.str "back"], .tup [.str "done"], .tup [.str "enter", .tup [.int 0, .int 3, .int 0, .int 16, .int 0]], .tup [.str "leave", .tup [.int 0, .int 3, .int 0, .int 16, .int 0]], .tup [.str "in", .tup [.int 0, .int 8, .int 26, .int 16, .int 0], .tup [.int 0, .int 7, .int 0, .int 16, .int 0]], .tup [.str "out", .tup [.int 0, .int 8, .int 26, .int 16, .int 0], .tup [.int 0, .int 7, .int 0, .int 16, .int 0]]])) (eBin oSub (eV 1) (eC (.int 1)))) (pS (eC (.int 1))) (pN))) (sSet 2 (eBin oBor (eV 2) (eBin oShl (eCall (T_number_of CS) (aC (eV 3) (aC (eV 4) (aN)))) (eIx oIx (eV 4) (eC (.int 2))))))) (
  sRet (eV 2))))))
theorem ok_encode {f : Addr} {fd : FuncData} {CS : Nat → Addr} (F : Fun K "encode" "encode" s_encode f fd) (T : Txt K mg CS) (C_opcode_of : CalX P w K mg base 1 "opcode_of" 1 (T_opcode_of CS)) (C_is_instruction : CalX P w K mg base 2 "is_instruction" 1 (T_is_instruction CS)) (C_number_of : CalX P w K mg base 1 "number_of" 2 (T_number_of CS)) (C_CodeError : CalE P w K mg base "CodeError" (CS 1) f_at) : FnOk P w K mg base (L2.CX P w) 3 f fd ["instruction"] (spX K 1 (T_encode CS)) :=
  okX F sc_encode rfl rfl (by decide) fun cdv A outer s H E hr =>
  cs_cons (c1_if (ct_not (ct_v (cm_call C_is_instruction (hr.mono (by decide)) g_encode_is_instruction (ca_cons (cm_v (i := 0) rfl vs_encode_instruction nd_instruction.1 nd_instruction.2) (ca_nil) rfl) nd_is_instruction.1 rfl rfl))) (cs_one (c1_rz rfl C_CodeError (hr.mono (by decide)) g_encode_CodeError (cm_int) nd_CodeError.1 rfl rfl)) (cs_nil))
  (cs_cons (c1_set sc_encode.nd rfl lo_encode_opcode (cm_call C_opcode_of (hr.mono (by decide)) g_encode_opcode_of (ca_cons (cm_ix cmi_ix (cm_v (i := 0) rfl vs_encode_instruction nd_instruction.1 nd_instruction.2) (cm_int) (fun _ _ => rfl)) (ca_nil) rfl) nd_opcode_of.1 rfl rfl) rfl (.inl rfl))
  (cs_cons (c1_set sc_encode.nd rfl lo_encode_word (cm_bin cmo_shl (cm_v (i := 1) rfl vs_encode_opcode nd_opcode.1 nd_opcode.2) (cm_glob T.c_OPCODE_SHIFT g_encode_OPCODE_SHIFT nd_OPCODE_SHIFT.1)) rfl (.inl rfl))
  (cs_cons (c1_for (cg_tup rfl (cgs_cons (cg_name sc_encode.nd rfl lo_encode_value (.inl rfl)) (cgs_cons (cg_name sc_encode.nd rfl lo_encode_field (.inl rfl)) (cgs_nil) rfl) rfl) rfl rfl) (ci_zipA g_encode_zip T.b_zip (cm_sl (cm_v (i := 0) rfl vs_encode_instruction nd_instruction.1 nd_instruction.2) (cp_some (cm_int)) (cp_none)) (cm_sl (cm_ix cmi_ix (cm_glob T.c_FORMS g_encode_FORMS nd_FORMS.1) (cm_bin cmo_sub (cm_v (i := 1) rfl vs_encode_opcode nd_opcode.1 nd_opcode.2) (cm_int)) (fun _ _ => rfl)) (cp_some (cm_int)) (cp_none)) rfl rfl rfl) (cs_one (c1_set sc_encode.nd rfl lo_encode_word (cm_bin cmo_bor (cm_v (i := 2) rfl vs_encode_word nd_word.1 nd_word.2) (cm_bin cmo_shl (cm_call C_number_of (hr.mono (by decide)) g_encode_number_of (ca_cons (cm_v (i := 3) rfl vs_encode_value nd_value.1 nd_value.2) (ca_cons (cm_v (i := 4) rfl vs_encode_field nd_field.1 nd_field.2) (ca_nil) rfl) rfl) nd_number_of.1 rfl rfl) (cm_ix cmi_ix (cm_v (i := 4) rfl vs_encode_field nd_field.1 nd_field.2) (cm_int) (fun _ _ => rfl)))) rfl (.inl rfl))) rfl pass_cx (fun _ => rfl))
  (cs_one (c1_ret (cm_v (i := 2) rfl vs_encode_word nd_word.1 nd_word.2))))))
abbrev s_decode : Stmt := top 27
abbrev N_decode : List Str := ["word", "opcode", "form", "found", "field", "instruction"]
theorem sc_decode : FnScope N_decode ["word"] (defScope s_decode) := ⟨rfl, rfl, rfl, by decide +kernel, rfl, by decide +kernel, by decide +kernel⟩
theorem lo_decode_word : Loc (defScope s_decode) "word" := by first | exact .inl rfl | exact .inr rfl
theorem vs_decode_word : Vis (defScope s_decode) "word" := lo_decode_word.elim .inl fun z => .inr (.inl z)
theorem lo_decode_opcode : Loc (defScope s_decode) "opcode" := by first | exact .inl rfl | exact .inr rfl
theorem vs_decode_opcode : Vis (defScope s_decode) "opcode" := lo_decode_opcode.elim .inl fun z => .inr (.inl z)
theorem lo_decode_form : Loc (defScope s_decode) "form" := by first | exact .inl rfl | exact .inr rfl
theorem vs_decode_form : Vis (defScope s_decode) "form" := lo_decode_form.elim .inl fun z => .inr (.inl z)
theorem lo_decode_found : Loc (defScope s_decode) "found" := by first | exact .inl rfl | exact .inr rfl
theorem vs_decode_found : Vis (defScope s_decode) "found" := lo_decode_found.elim .inl fun z => .inr (.inl z)
theorem lo_decode_field : Loc (defScope s_decode) "field" := by first | exact .inl rfl | exact .inr rfl
theorem vs_decode_field : Vis (defScope s_decode) "field" := lo_decode_field.elim .inl fun z => .inr (.inl z)
theorem lo_decode_instruction : Loc (defScope s_decode) "instruction" := by first | exact .inl rfl | exact .inr rfl
theorem vs_decode_instruction : Vis (defScope s_decode) "instruction" := lo_decode_instruction.elim .inl fun z => .inr (.inl z)
theorem g_decode_WORDS : (defScope s_decode).names.lookup ("WORDS" : Str) = some .globalImplicit := rfl
theorem g_decode_CodeError : (defScope s_decode).names.lookup ("CodeError" : Str) = some .globalImplicit := rfl
theorem g_decode_OPCODE_SHIFT : (defScope s_decode).names.lookup ("OPCODE_SHIFT" : Str) = some .globalImplicit := rfl
theorem g_decode_len : (defScope s_decode).names.lookup ("len" : Str) = some .globalImplicit := rfl
theorem g_decode_FORMS : (defScope s_decode).names.lookup ("FORMS" : Str) = some .globalImplicit := rfl
theorem g_decode_value_of : (defScope s_decode).names.lookup ("value_of" : Str) = some .globalImplicit := rfl
theorem g_decode_tuple : (defScope s_decode).names.lookup ("tuple" : Str) = some .globalImplicit := rfl
theorem g_decode_is_instruction : (defScope s_decode).names.lookup ("is_instruction" : Str) = some .globalImplicit := rfl
theorem g_decode_encode : (defScope s_decode).names.lookup ("encode" : Str) = some .globalImplicit := rfl
def T_decode (CS : Nat → Addr) : FT := fnT 6 (sCo (sIf (tOr (tCmp oLt (eV 0) (eC (.int 0))) (tCmp oGe (eV 0) (eC (.int 68719476736)))) (sRz (CS 1) f_at (eC (.int 0))) (sNo)) (
  sCo (sSet 1 (eBin oShr (eV 0) (eC (.int 30)))) (
  sCo (sIf (tOr (tCmp oLt (eV 1) (eC (.int 1))) (tCmp oGt (eV 1) (eCB cLen (aC (eC (.tup [.tup [.str "set", .tup [.int 0, .int 8, .int 26, .int 16, .int 0], .tup [.int (-32768), .int 32767, .int 0, .int 65536, .int 0]], .tup [.str "high", .tup [.int 0, .int 8, .int 26, .int 16, .int 0], .tup [.int 0, .int 65535, .int 0, .int 65536, .int 0]], .tup [.str "calc", .tup [.int 0, .int 16, .int 13, .int 32, .int 0], .tup [.int 0, .int 8, .int 26, .int 16, .int 0], .tup [.int 0, .int 8, .int 22, .int 16, .int 0], .tup [.int 0, .int 8, .int 18, .int 16, .int 0]], .tup [.str "load", .tup [.int 0, .int 8, .int 26, .int 16, .int 0], .tup [.int 0, .int 16383, .int 0, .int 16384, .int 0]], .tup [.str "store", .tup [.int 0, .int 8, .int 26, .int 16, .int 0], .tup [.int 0, .int 16383, .int 0, .int 16384, .int 0]], .tup [.str "loadx", .tup [.int 0, .int 8, .int 26, .int 16, .int 0], .tup [.int 0, .int 8, .int 22, .int 16, .int 0], .tup [.int 0, .int 16383, .int 0, .int 16384, .int 0], .tup [.int 1, .int 64, .int 14, .int 64, .int 1]], .tup [.str "storex", .tup [.int 0, .int 8, .int 26, .int 16, .int 0], .tup [.int 0, .int 8, .int 22, .int 16, .int 0], .tup [.int 0, .int 16383, .int 0, .int 16384, .int 0], .tup [.int 1, .int 64, .int 14, .int 64, .int 1]], .tup [.str "jump", .tup [.int 0, .int 4095, .int 0, .int 4096, .int 0]], .tup [.str "jzero", .tup [.int 0, .int 8, .int 26, .int 16, .int 0], .tup [.int 0, .int 4095, .int 0, .int 4096, .int 0]], .tup [.str "count", .tup [.int 0, .int 255, .int 22, .int 256, .int 0], .tup [.int 1, .int 64, .int 0, .int 64, .int 1]], .tup [.str "again", .tup [.int 0, .int 255, .int 22, .int 256, .int 0], .tup [.int 0, .int 4095, .int 0, .int 4096, .int 0]], .tup [.str "link", .tup [.int 0, .int 4095, .int 0, .int 4096, .int 0]], .tup [.str "back"], .tup [.str "done"], .tup [.str "enter", .tup [.int 0, .int 3, .int 0, .int 16, .int 0]], .tup [.str "leave", .tup [.int 0, .int 3, .int 0, .int 16, .int 0]], .tup [.str "in", .tup [.int 0, .int 8, .int 26, .int 16, .int 0], .tup [.int 0, .int 7, .int 0, .int 16, .int 0]], .tup [.str "out", .tup [.int 0, .int 8, .int 26, .int 16, .int 0], .tup [.int 0, .int 7, .int 0, .int 16, .int 0]]])) (aN))))) (sRz (CS 1) f_at (eC (.int 0))) (sNo)) (
  sCo (sSet 2 (eIx oIx (eC (.tup [.tup [.str "set", .tup [.int 0, .int 8, .int 26, .int 16, .int 0], .tup [.int (-32768), .int 32767, .int 0, .int 65536, .int 0]], .tup [.str "high", .tup [.int 0, .int 8, .int 26, .int 16, .int 0], .tup [.int 0, .int 65535, .int 0, .int 65536, .int 0]], .tup [.str "calc", .tup [.int 0, .int 16, .int 13, .int 32, .int 0], .tup [.int 0, .int 8, .int 26, .int 16, .int 0], .tup [.int 0, .int 8, .int 22, .int 16, .int 0], .tup [.int 0, .int 8, .int 18, .int 16, .int 0]], .tup [.str "load", .tup [.int 0, .int 8, .int 26, .int 16, .int 0], .tup [.int 0, .int 16383, .int 0, .int 16384, .int 0]], .tup [.str "store", .tup [.int 0, .int 8, .int 26, .int 16, .int 0], .tup [.int 0, .int 16383, .int 0, .int 16384, .int 0]], .tup [.str "loadx", .tup [.int 0, .int 8, .int 26, .int 16, .int 0], .tup [.int 0, .int 8, .int 22, .int 16, .int 0], .tup [.int 0, .int 16383, .int 0, .int 16384, .int 0], .tup [.int 1, .int 64, .int 14, .int 64, .int 1]], .tup [.str "storex", .tup [.int 0, .int 8, .int 26, .int 16, .int 0], .tup [.int 0, .int 8, .int 22, .int 16, .int 0], .tup [.int 0, .int 16383, .int 0, .int 16384, .int 0], .tup [.int 1, .int 64, .int 14, .int 64, .int 1]], .tup [.str "jump", .tup [.int 0, .int 4095, .int 0, .int 4096, .int 0]], .tup [.str "jzero", .tup [.int 0, .int 8, .int 26, .int 16, .int 0], .tup [.int 0, .int 4095, .int 0, .int 4096, .int 0]], .tup [.str "count", .tup [.int 0, .int 255, .int 22, .int 256, .int 0], .tup [.int 1, .int 64, .int 0, .int 64, .int 1]], .tup [.str "again", .tup [.int 0, .int 255, .int 22, .int 256, .int 0], .tup [.int 0, .int 4095, .int 0, .int 4096, .int 0]], .tup [.str "link", .tup [.int 0, .int 4095, .int 0, .int 4096, .int 0]], .tup [.str "back"], .tup [.str "done"], .tup [.str "enter", .tup [.int 0, .int 3, .int 0, .int 16, .int 0]], .tup [.str "leave", .tup [.int 0, .int 3, .int 0, .int 16, .int 0]], .tup [.str "in", .tup [.int 0, .int 8, .int 26, .int 16, .int 0], .tup [.int 0, .int 7, .int 0, .int 16, .int 0]], .tup [.str "out", .tup [.int 0, .int 8, .int 26, .int 16, .int 0], .tup [.int 0, .int 7, .int 0, .int 16, .int 0]]])) (eBin oSub (eV 1) (eC (.int 1))))) (
  sCo (sSet 3 (eLstO (aC (eIx oIx (eV 2) (eC (.int 0))) (aN)))) (
  sCo (sFor (gName 4) (iSeq (eSl (eV 2) (pS (eC (.int 1))) (pN))) (sExpr (eApp (eV 3) (eCall (T_value_of CS) (aC (eV 0) (aC (eV 4) (aN))))))) (
  sCo (sSet 5 (eCB cTup (aC (eV 3) (aN)))) (
  sCo (sIf (tOr (tNot (tV (eCall (T_is_instruction CS) (aC (eV 5) (aN))))) (tCmp oNe (eCall (T_encode CS) (aC (eV 5) (aN))) (eV 0))) (sRz (CS 1) f_at (eC (.int 0))) (sNo)) (
  sRet (eV 5))))))))))
theorem ok_decode {f : Addr} {fd : FuncData} {CS : Nat → Addr} (F : Fun K "decode" "decode" s_decode f fd) (T : Txt K mg CS) (C_value_of : CalX P w K mg base 1 "value_of" 2 (T_value_of CS)) (C_is_instruction : CalX P w K mg base 2 "is_instruction" 1 (T_is_instruction CS)) (C_encode : CalX P w K mg base 3 "encode" 1 (T_encode CS)) (C_CodeError : CalE P w K mg base "CodeError" (CS 1) f_at) : FnOk P w K mg base (L2.CX P w) 4 f fd ["word"] (spX K 1 (T_decode CS)) :=
  okX F sc_decode rfl rfl (by decide) fun cdv A outer s H E hr =>
  cs_cons (c1_if (ct_pw (cpw_or (ct_cmp cmo_lt (cm_v (i := 0) rfl vs_decode_word nd_word.1 nd_word.2) (cm_int) rfl) (cpw_or1 (ct_cmp cmo_ge (cm_v (i := 0) rfl vs_decode_word nd_word.1 nd_word.2) (cm_glob T.c_WORDS g_decode_WORDS nd_WORDS.1) rfl)))) (cs_one (c1_rz rfl C_CodeError (hr.mono (by decide)) g_decode_CodeError (cm_int) nd_CodeError.1 rfl rfl)) (cs_nil))
  (cs_cons (c1_set sc_decode.nd rfl lo_decode_opcode (cm_bin cmo_shr (cm_v (i := 0) rfl vs_decode_word nd_word.1 nd_word.2) (cm_glob T.c_OPCODE_SHIFT g_decode_OPCODE_SHIFT nd_OPCODE_SHIFT.1)) rfl (.inl rfl))
  (cs_cons (c1_if (ct_pw (cpw_or (ct_cmp cmo_lt (cm_v (i := 1) rfl vs_decode_opcode nd_opcode.1 nd_opcode.2) (cm_int) rfl) (cpw_or1 (ct_cmp cmo_gt (cm_v (i := 1) rfl vs_decode_opcode nd_opcode.1 nd_opcode.2) (cm_callB cmc_len bb_len T.b_len g_decode_len (ca_cons (cm_glob T.c_FORMS g_decode_FORMS nd_FORMS.1) (ca_nil) rfl) nn_len nd_len.1 rfl rfl) rfl)))) (cs_one (c1_rz rfl C_CodeError (hr.mono (by decide)) g_decode_CodeError (cm_int) nd_CodeError.1 rfl rfl)) (cs_nil))
  (cs_cons (c1_set sc_decode.nd rfl lo_decode_form (cm_ix cmi_ix (cm_glob T.c_FORMS g_decode_FORMS nd_FORMS.1) (cm_bin cmo_sub (cm_v (i := 1) rfl vs_decode_opcode nd_opcode.1 nd_opcode.2) (cm_int)) (fun _ _ => rfl)) rfl (.inl rfl))
  (cs_cons (c1_set sc_decode.nd rfl lo_decode_found (cm_lstO (ca_cons (cm_ix cmi_ix (cm_v (i := 2) rfl vs_decode_form nd_form.1 nd_form.2) (cm_int) (fun _ _ => rfl)) (ca_nil) rfl) (by decide)) rfl (.inl rfl))
  (cs_cons (c1_for (cg_name sc_decode.nd rfl lo_decode_field (.inl rfl)) (ci_seq (cm_sl (cm_v (i := 2) rfl vs_decode_form nd_form.1 nd_form.2) (cp_some (cm_int)) (cp_none))) (cs_one (c1_expr (cm_app (cm_v (i := 3) rfl vs_decode_found nd_found.1 nd_found.2) (cm_call C_value_of (hr.mono (by decide)) g_decode_value_of (ca_cons (cm_v (i := 0) rfl vs_decode_word nd_word.1 nd_word.2) (ca_cons (cm_v (i := 4) rfl vs_decode_field nd_field.1 nd_field.2) (ca_nil) rfl) rfl) nd_value_of.1 rfl rfl) rfl rfl rfl rfl) rfl)) rfl pass_cx (fun _ => rfl))
  (cs_cons (c1_set sc_decode.nd rfl lo_decode_instruction (cm_callTy cmc_tup bt_tuple T.b_tuple g_decode_tuple (ca_cons (cm_v (i := 3) rfl vs_decode_found nd_found.1 nd_found.2) (ca_nil) rfl) nn_tuple nd_tuple.1 rfl rfl) rfl (.inl rfl))
  (cs_cons (c1_if (ct_pw (cpw_or (ct_not (ct_v (cm_call C_is_instruction (hr.mono (by decide)) g_decode_is_instruction (ca_cons (cm_v (i := 5) rfl vs_decode_instruction nd_instruction.1 nd_instruction.2) (ca_nil) rfl) nd_is_instruction.1 rfl rfl))) (cpw_or1 (ct_cmp (cmo_ne hr) (cm_call C_encode (hr.mono (by decide)) g_decode_encode (ca_cons (cm_v (i := 5) rfl vs_decode_instruction nd_instruction.1 nd_instruction.2) (ca_nil) rfl) nd_encode.1 rfl rfl) (cm_v (i := 0) rfl vs_decode_word nd_word.1 nd_word.2) rfl)))) (cs_one (c1_rz rfl C_CodeError (hr.mono (by decide)) g_decode_CodeError (cm_int) nd_CodeError.1 rfl rfl)) (cs_nil))
  (cs_one (c1_ret (cm_v (i := 5) rfl vs_decode_instruction nd_instruction.1 nd_instruction.2))))))))))
abbrev s__law_holds : Stmt := top 38
abbrev N__law_holds : List Str := ["_law_word_here", "_law_expected_here", "_law_found", "e", "_law_k"]
theorem sc__law_holds : FnScope N__law_holds ["_law_word_here"] (defScope s__law_holds) := ⟨rfl, rfl, rfl, by decide +kernel, rfl, by decide +kernel, by decide +kernel⟩
theorem lo__law_holds__law_word_here : Loc (defScope s__law_holds) "_law_word_here" := by first | exact .inl rfl | exact .inr rfl
theorem vs__law_holds__law_word_here : Vis (defScope s__law_holds) "_law_word_here" := lo__law_holds__law_word_here.elim .inl fun z => .inr (.inl z)
theorem lo__law_holds__law_expected_here : Loc (defScope s__law_holds) "_law_expected_here" := by first | exact .inl rfl | exact .inr rfl
theorem vs__law_holds__law_expected_here : Vis (defScope s__law_holds) "_law_expected_here" := lo__law_holds__law_expected_here.elim .inl fun z => .inr (.inl z)
theorem lo__law_holds__law_found : Loc (defScope s__law_holds) "_law_found" := by first | exact .inl rfl | exact .inr rfl
theorem vs__law_holds__law_found : Vis (defScope s__law_holds) "_law_found" := lo__law_holds__law_found.elim .inl fun z => .inr (.inl z)
theorem lo__law_holds_e : Loc (defScope s__law_holds) "e" := by first | exact .inl rfl | exact .inr rfl
theorem vs__law_holds_e : Vis (defScope s__law_holds) "e" := lo__law_holds_e.elim .inl fun z => .inr (.inl z)
theorem lo__law_holds__law_k : Loc (defScope s__law_holds) "_law_k" := by first | exact .inl rfl | exact .inr rfl
theorem vs__law_holds__law_k : Vis (defScope s__law_holds) "_law_k" := lo__law_holds__law_k.elim .inl fun z => .inr (.inl z)
theorem g__law_holds__law_expected : (defScope s__law_holds).names.lookup ("_law_expected" : Str) = some .globalImplicit := rfl
theorem g__law_holds_decode : (defScope s__law_holds).names.lookup ("decode" : Str) = some .globalImplicit := rfl
theorem g__law_holds_CodeError : (defScope s__law_holds).names.lookup ("CodeError" : Str) = some .globalImplicit := rfl
theorem g__law_holds_isinstance : (defScope s__law_holds).names.lookup ("isinstance" : Str) = some .globalImplicit := rfl
theorem g__law_holds_DeadbeatError : (defScope s__law_holds).names.lookup ("DeadbeatError" : Str) = some .globalImplicit := rfl
theorem g__law_holds_int : (defScope s__law_holds).names.lookup ("int" : Str) = some .globalImplicit := rfl
theorem g__law_holds_tuple : (defScope s__law_holds).names.lookup ("tuple" : Str) = some .globalImplicit := rfl
theorem g__law_holds_len : (defScope s__law_holds).names.lookup ("len" : Str) = some .globalImplicit := rfl
theorem g__law_holds_range : (defScope s__law_holds).names.lookup ("range" : Str) = some .globalImplicit := rfl
theorem g__law_holds_bool : (defScope s__law_holds).names.lookup ("bool" : Str) = some .globalImplicit := rfl
def T__law_holds (CS : Nat → Addr) : FT := fnT 5 (sCo (sSet 1 (eCall (T__law_expected CS) (aC (eV 0) (aN)))) (
  sCo (sTry 3 (CS 1) f_at (sSet 2 (eCall (T_decode CS) (aC (eV 0) (aN)))) (fun a dx => sRet (eAnd (eBin oIsN (eV 1) (eC .non)) (eAnd (eCB (cIsE a dx (CS 1) f_at (.ref (CS 0)) true) (aC (eV 3) (aC (eC (.ref (CS 0))) (aN)))) (eCB cIsi (aC (eXf a dx (CS 1) f_at 3) (aC (eC (.ty "int")) (aN)))))))) (
  sCo (sIf (tOr (tCmp oIsN (eV 1) (eC .non)) (tOr (tNot (tV (eCB cIsi (aC (eV 2) (aC (eC (.ty "tuple")) (aN)))))) (tCmp oNe (eCB cLen (aC (eV 2) (aN))) (eCB cLen (aC (eV 1) (aN)))))) (sRet (eC (.bl false))) (sNo)) (
  sCo (sFor (gName 4) (iR1 (eCB cLen (aC (eV 2) (aN)))) (sIf (tOr (tV (eCB cIsi (aC (eIx oIx (eV 2) (eV 4)) (aC (eC (.ty "bool")) (aN))))) (tCmp oNe (eIx oIx (eV 2) (eV 4)) (eIx oIx (eV 1) (eV 4)))) (sRet (eC (.bl false))) (sNo))) (
  sRet (eC (.bl true)))))))
theorem ok__law_holds {f : Addr} {fd : FuncData} {CS : Nat → Addr} (F : Fun K "_law_holds" "_law_holds" s__law_holds f fd) (T : Txt K mg CS) (C__law_expected : CalX P w K mg base 2 "_law_expected" 1 (T__law_expected CS)) (C_decode : CalX P w K mg base 4 "decode" 1 (T_decode CS)) : FnOk P w K mg base (L2.CX P w) 5 f fd ["_law_word_here"] (spX K 1 (T__law_holds CS)) :=
  okX F sc__law_holds rfl rfl (by decide) fun cdv A outer s H E hr =>
  cs_cons (c1_set sc__law_holds.nd rfl lo__law_holds__law_expected_here (cm_call C__law_expected (hr.mono (by decide)) g__law_holds__law_expected (ca_cons (cm_v (i := 0) rfl vs__law_holds__law_word_here nd__law_word_here.1 nd__law_word_here.2) (ca_nil) rfl) nd__law_expected.1 rfl rfl) rfl (.inl rfl))
  (cs_cons (c1_try rfl rfl sc__law_holds.nd rfl rfl g__law_holds_CodeError nd_CodeError.1 T.mg_CodeError T.xm_CodeError (fun pn xe po => cs_one (c1_set sc__law_holds.nd rfl lo__law_holds__law_found (cm_call C_decode (hr.mono (by decide)) g__law_holds_decode (ca_cons (cm_v (i := 0) rfl vs__law_holds__law_word_here nd__law_word_here.1 nd__law_word_here.2) (ca_nil) rfl) nd_decode.1 rfl rfl) rfl (.inl rfl))) (fun a oe dx pn hz hf => cs_one (c1_ret (cm_and (cm_cmp cmo_isN (cm_v (i := 1) rfl vs__law_holds__law_expected_here nd__law_expected_here.1 nd__law_expected_here.2) (cm_non) rfl) (cm_and (cm_callB (cmc_isE T.xc_CodeError hz hf (.inl ⟨_, rfl, rfl⟩) T.ki_CodeError_DeadbeatError) bb_isinstance T.b_isinstance g__law_holds_isinstance (ca_cons (cm_v (i := 3) rfl vs__law_holds_e nd_e.1 nd_e.2) (ca_cons (cm_glob T.v_DeadbeatError g__law_holds_DeadbeatError nd_DeadbeatError.1) (ca_nil) rfl) rfl) nn_isinstance nd_isinstance.1 rfl rfl) (cm_one (cm_callB cmc_isi bb_isinstance T.b_isinstance g__law_holds_isinstance (ca_cons (cm_xf fn_at T.xf_CodeError T.no_CodeError hz hf rfl vs__law_holds_e nd_e.1 nd_e.2 (fun _ => rfl)) (ca_cons (cm_ty bt_int T.b_int g__law_holds_int nn_int nd_int.1) (ca_nil) rfl) rfl) nn_isinstance nd_isinstance.1 rfl rfl)))))))
  (cs_cons (c1_if (ct_pw (cpw_or (ct_cmp cmo_isN (cm_v (i := 1) rfl vs__law_holds__law_expected_here nd__law_expected_here.1 nd__law_expected_here.2) (cm_non) rfl) (cpw_or (ct_not (ct_v (cm_callB cmc_isi bb_isinstance T.b_isinstance g__law_holds_isinstance (ca_cons (cm_v (i := 2) rfl vs__law_holds__law_found nd__law_found.1 nd__law_found.2) (ca_cons (cm_ty bt_tuple T.b_tuple g__law_holds_tuple nn_tuple nd_tuple.1) (ca_nil) rfl) rfl) nn_isinstance nd_isinstance.1 rfl rfl))) (cpw_or1 (ct_cmp (cmo_ne hr) (cm_callB cmc_len bb_len T.b_len g__law_holds_len (ca_cons (cm_v (i := 2) rfl vs__law_holds__law_found nd__law_found.1 nd__law_found.2) (ca_nil) rfl) nn_len nd_len.1 rfl rfl) (cm_callB cmc_len bb_len T.b_len g__law_holds_len (ca_cons (cm_v (i := 1) rfl vs__law_holds__law_expected_here nd__law_expected_here.1 nd__law_expected_here.2) (ca_nil) rfl) nn_len nd_len.1 rfl rfl) rfl))))) (cs_one (c1_ret (cm_bl))) (cs_nil))
  (cs_cons (c1_for (cg_name sc__law_holds.nd rfl lo__law_holds__law_k (.inl rfl)) (ci_range1 g__law_holds_range T.b_range (cm_callB cmc_len bb_len T.b_len g__law_holds_len (ca_cons (cm_v (i := 2) rfl vs__law_holds__law_found nd__law_found.1 nd__law_found.2) (ca_nil) rfl) nn_len nd_len.1 rfl rfl) rfl) (cs_one (c1_if (ct_pw (cpw_or (ct_v (cm_callB cmc_isi bb_isinstance T.b_isinstance g__law_holds_isinstance (ca_cons (cm_ix cmi_ix (cm_v (i := 2) rfl vs__law_holds__law_found nd__law_found.1 nd__law_found.2) (cm_v (i := 4) rfl vs__law_holds__law_k nd__law_k.1 nd__law_k.2) (fun _ _ => rfl)) (ca_cons (cm_ty bt_bool T.b_bool g__law_holds_bool nn_bool nd_bool.1) (ca_nil) rfl) rfl) nn_isinstance nd_isinstance.1 rfl rfl)) (cpw_or1 (ct_cmp (cmo_ne hr) (cm_ix cmi_ix (cm_v (i := 2) rfl vs__law_holds__law_found nd__law_found.1 nd__law_found.2) (cm_v (i := 4) rfl vs__law_holds__law_k nd__law_k.1 nd__law_k.2) (fun _ _ => rfl)) (cm_ix cmi_ix (cm_v (i := 1) rfl vs__law_holds__law_expected_here nd__law_expected_here.1 nd__law_expected_here.2) (cm_v (i := 4) rfl vs__law_holds__law_k nd__law_k.1 nd__law_k.2) (fun _ _ => rfl)) rfl)))) (cs_one (c1_ret (cm_bl))) (cs_nil))) rfl pass_cx (fun _ => rfl))
  (cs_one (c1_ret (cm_bl))))))
abbrev s__law_draw : Stmt := top 30
abbrev N__law_draw : List Str := ["_law_state", "_law_many", "_law_found"]
theorem sc__law_draw : FnScope N__law_draw ["_law_state", "_law_many"] (defScope s__law_draw) := ⟨rfl, rfl, rfl, by decide +kernel, rfl, by decide +kernel, by decide +kernel⟩
theorem lo__law_draw__law_state : Loc (defScope s__law_draw) "_law_state" := by first | exact .inl rfl | exact .inr rfl
theorem vs__law_draw__law_state : Vis (defScope s__law_draw) "_law_state" := lo__law_draw__law_state.elim .inl fun z => .inr (.inl z)
theorem lo__law_draw__law_many : Loc (defScope s__law_draw) "_law_many" := by first | exact .inl rfl | exact .inr rfl
theorem vs__law_draw__law_many : Vis (defScope s__law_draw) "_law_many" := lo__law_draw__law_many.elim .inl fun z => .inr (.inl z)
theorem lo__law_draw__law_found : Loc (defScope s__law_draw) "_law_found" := by first | exact .inl rfl | exact .inr rfl
theorem vs__law_draw__law_found : Vis (defScope s__law_draw) "_law_found" := lo__law_draw__law_found.elim .inl fun z => .inr (.inl z)
theorem g__law_draw_len : (defScope s__law_draw).names.lookup ("len" : Str) = some .globalImplicit := rfl
theorem g__law_draw_abs : (defScope s__law_draw).names.lookup ("abs" : Str) = some .globalImplicit := rfl
theorem g__law_draw_int : (defScope s__law_draw).names.lookup ("int" : Str) = some .globalImplicit := rfl
def T__law_draw (CS : Nat → Addr) : FT := fnT 3 (sCo (sIf (tCmp oEq (eIx oIx (eV 0) (eC (.int 2))) (eC (.int 0))) (sCo (sIf (tCmp oLt (eIx oIx (eV 0) (eC (.int 1))) (eCB cLen (aC (eIx oIx (eV 0) (eC (.int 0))) (aN)))) (sAsg (gSub (eV 0) (eC (.int 2))) (eCB cAbs (aC (eIx oIx (eIx oIx (eV 0) (eC (.int 0))) (eIx oIx (eV 0) (eC (.int 1)))) (aN)))) (sCo (sAsg (gSub (eV 0) (eC (.int 3))) (eBin oMod (eCB cInt (aC (eBin oAdd (eBin oMul (eIx oIx (eV 0) (eC (.int 3))) (eC (.int 48271))) (eC (.int 12345))) (aN))) (eC (.int 2147483647)))) (
  sAsg (gSub (eV 0) (eC (.int 2))) (eBin oDiv (eCB cInt (aC (eIx oIx (eV 0) (eC (.int 3))) (aN))) (eC (.int 64)))))) (
  sAsg (gSub (eV 0) (eC (.int 1))) (eBin oAdd (eIx oIx (eV 0) (eC (.int 1))) (eC (.int 1))))) (sNo)) (
  sCo (sSet 2 (eBin oMod (eCB cInt (aC (eIx oIx (eV 0) (eC (.int 2))) (aN))) (eV 1))) (
  sCo (sAsg (gSub (eV 0) (eC (.int 2))) (eBin oDiv (eCB cInt (aC (eIx oIx (eV 0) (eC (.int 2))) (aN))) (eV 1))) (
  sRet (eV 2)))))
theorem ok__law_draw {f : Addr} {fd : FuncData} {CS : Nat → Addr} (F : Fun K "_law_draw" "_law_draw" s__law_draw f fd) (T : Txt K mg CS) : FnOk P w K mg base (L2.CX P w) 1 f fd ["_law_state", "_law_many"] (spX K 2 (T__law_draw CS)) :=
  okX F sc__law_draw rfl rfl (by decide) fun cdv A outer s H E hr =>
  cs_cons (c1_if (ct_cmp (cmo_eq hr) (cm_ix cmi_ix (cm_v (i := 0) rfl vs__law_draw__law_state nd__law_state.1 nd__law_state.2) (cm_int) (fun _ _ => rfl)) (cm_int) rfl) (cs_cons (c1_if (ct_cmp cmo_lt (cm_ix cmi_ix (cm_v (i := 0) rfl vs__law_draw__law_state nd__law_state.1 nd__law_state.2) (cm_int) (fun _ _ => rfl)) (cm_callB cmc_len bb_len T.b_len g__law_draw_len (ca_cons (cm_ix cmi_ix (cm_v (i := 0) rfl vs__law_draw__law_state nd__law_state.1 nd__law_state.2) (cm_int) (fun _ _ => rfl)) (ca_nil) rfl) nn_len nd_len.1 rfl rfl) rfl) (cs_one (c1_asg (cg_sub (cm_v (i := 0) rfl vs__law_draw__law_state nd__law_state.1 nd__law_state.2) (cm_int) (fun _ => rfl)) (cm_callB cmc_abs bb_abs T.b_abs g__law_draw_abs (ca_cons (cm_ix cmi_ix (cm_ix cmi_ix (cm_v (i := 0) rfl vs__law_draw__law_state nd__law_state.1 nd__law_state.2) (cm_int) (fun _ _ => rfl)) (cm_ix cmi_ix (cm_v (i := 0) rfl vs__law_draw__law_state nd__law_state.1 nd__law_state.2) (cm_int) (fun _ _ => rfl)) (fun _ _ => rfl)) (ca_nil) rfl) nn_abs nd_abs.1 rfl rfl) rfl rfl rfl)) (cs_cons (c1_asg (cg_sub (cm_v (i := 0) rfl vs__law_draw__law_state nd__law_state.1 nd__law_state.2) (cm_int) (fun _ => rfl)) (cm_bin cmo_mod (cm_callTy cmc_int bt_int T.b_int g__law_draw_int (ca_cons (cm_bin cmo_add (cm_bin cmo_mul (cm_ix cmi_ix (cm_v (i := 0) rfl vs__law_draw__law_state nd__law_state.1 nd__law_state.2) (cm_int) (fun _ _ => rfl)) (cm_int)) (cm_int)) (ca_nil) rfl) nn_int nd_int.1 rfl rfl) (cm_int)) rfl rfl rfl)
  (cs_one (c1_asg (cg_sub (cm_v (i := 0) rfl vs__law_draw__law_state nd__law_state.1 nd__law_state.2) (cm_int) (fun _ => rfl)) (cm_bin cmo_div (cm_callTy cmc_int bt_int T.b_int g__law_draw_int (ca_cons (cm_ix cmi_ix (cm_v (i := 0) rfl vs__law_draw__law_state nd__law_state.1 nd__law_state.2) (cm_int) (fun _ _ => rfl)) (ca_nil) rfl) nn_int nd_int.1 rfl rfl) (cm_int)) rfl rfl rfl))))
  (cs_one (c1_asg (cg_sub (cm_v (i := 0) rfl vs__law_draw__law_state nd__law_state.1 nd__law_state.2) (cm_int) (fun _ => rfl)) (cm_bin cmo_add (cm_ix cmi_ix (cm_v (i := 0) rfl vs__law_draw__law_state nd__law_state.1 nd__law_state.2) (cm_int) (fun _ _ => rfl)) (cm_int)) rfl rfl rfl))) (cs_nil))
  (cs_cons (c1_set sc__law_draw.nd rfl lo__law_draw__law_found (cm_bin cmo_mod (cm_callTy cmc_int bt_int T.b_int g__law_draw_int (ca_cons (cm_ix cmi_ix (cm_v (i := 0) rfl vs__law_draw__law_state nd__law_state.1 nd__law_state.2) (cm_int) (fun _ _ => rfl)) (ca_nil) rfl) nn_int nd_int.1 rfl rfl) (cm_v (i := 1) rfl vs__law_draw__law_many nd__law_many.1 nd__law_many.2)) rfl (.inl rfl))
  (cs_cons (c1_asg (cg_sub (cm_v (i := 0) rfl vs__law_draw__law_state nd__law_state.1 nd__law_state.2) (cm_int) (fun _ => rfl)) (cm_bin cmo_div (cm_callTy cmc_int bt_int T.b_int g__law_draw_int (ca_cons (cm_ix cmi_ix (cm_v (i := 0) rfl vs__law_draw__law_state nd__law_state.1 nd__law_state.2) (cm_int) (fun _ _ => rfl)) (ca_nil) rfl) nn_int nd_int.1 rfl rfl) (cm_v (i := 1) rfl vs__law_draw__law_many nd__law_many.1 nd__law_many.2)) rfl rfl rfl)
  (cs_one (c1_ret (cm_v (i := 2) rfl vs__law_draw__law_found nd__law_found.1 nd__law_found.2)))))
abbrev s__law_word : Stmt := top 37
abbrev N__law_word : List Str := ["_law_state", "_law_turn", "_law_opcode", "_law_word_here", "_law_kind", "_law_scale", "_law_many", "_law_part"]
theorem sc__law_word : FnScope N__law_word ["_law_state"] (defScope s__law_word) := ⟨rfl, rfl, rfl, by decide +kernel, rfl, by decide +kernel, by decide +kernel⟩
theorem lo__law_word__law_state : Loc (defScope s__law_word) "_law_state" := by first | exact .inl rfl | exact .inr rfl
theorem vs__law_word__law_state : Vis (defScope s__law_word) "_law_state" := lo__law_word__law_state.elim .inl fun z => .inr (.inl z)
theorem lo__law_word__law_turn : Loc (defScope s__law_word) "_law_turn" := by first | exact .inl rfl | exact .inr rfl
theorem vs__law_word__law_turn : Vis (defScope s__law_word) "_law_turn" := lo__law_word__law_turn.elim .inl fun z => .inr (.inl z)
theorem lo__law_word__law_opcode : Loc (defScope s__law_word) "_law_opcode" := by first | exact .inl rfl | exact .inr rfl
theorem vs__law_word__law_opcode : Vis (defScope s__law_word) "_law_opcode" := lo__law_word__law_opcode.elim .inl fun z => .inr (.inl z)
theorem lo__law_word__law_word_here : Loc (defScope s__law_word) "_law_word_here" := by first | exact .inl rfl | exact .inr rfl
theorem vs__law_word__law_word_here : Vis (defScope s__law_word) "_law_word_here" := lo__law_word__law_word_here.elim .inl fun z => .inr (.inl z)
theorem lo__law_word__law_kind : Loc (defScope s__law_word) "_law_kind" := by first | exact .inl rfl | exact .inr rfl
theorem vs__law_word__law_kind : Vis (defScope s__law_word) "_law_kind" := lo__law_word__law_kind.elim .inl fun z => .inr (.inl z)
theorem lo__law_word__law_scale : Loc (defScope s__law_word) "_law_scale" := by first | exact .inl rfl | exact .inr rfl
theorem vs__law_word__law_scale : Vis (defScope s__law_word) "_law_scale" := lo__law_word__law_scale.elim .inl fun z => .inr (.inl z)
theorem lo__law_word__law_many : Loc (defScope s__law_word) "_law_many" := by first | exact .inl rfl | exact .inr rfl
theorem vs__law_word__law_many : Vis (defScope s__law_word) "_law_many" := lo__law_word__law_many.elim .inl fun z => .inr (.inl z)
theorem lo__law_word__law_part : Loc (defScope s__law_word) "_law_part" := by first | exact .inl rfl | exact .inr rfl
theorem vs__law_word__law_part : Vis (defScope s__law_word) "_law_part" := lo__law_word__law_part.elim .inl fun z => .inr (.inl z)
theorem g__law_word__law_draw : (defScope s__law_word).names.lookup ("_law_draw" : Str) = some .globalImplicit := rfl
theorem g__law_word__law_shape : (defScope s__law_word).names.lookup ("_law_shape" : Str) = some .globalImplicit := rfl
theorem g__law_word__law_place : (defScope s__law_word).names.lookup ("_law_place" : Str) = some .globalImplicit := rfl
theorem g__law_word_min : (defScope s__law_word).names.lookup ("min" : Str) = some .globalImplicit := rfl
theorem g__law_word__law_greatest : (defScope s__law_word).names.lookup ("_law_greatest" : Str) = some .globalImplicit := rfl
def T__law_word (CS : Nat → Addr) : FT := fnT 8 (sCo (sSet 1 (eCall (T__law_draw CS) (aC (eV 0) (aC (eC (.int 5)) (aN))))) (
  sCo (sIf (tCmp oEq (eV 1) (eC (.int 0))) (sRet (eBin oSub (eCall (T__law_draw CS) (aC (eV 0) (aC (eBin oMul (eC (.int 68719476736)) (eC (.int 4))) (aN)))) (eC (.int 5)))) (sNo)) (
  sCo (sSet 2 (eCall (T__law_draw CS) (aC (eV 0) (aC (eC (.int 21)) (aN))))) (
  sCo (sIf (tCmp oEq (eV 1) (eC (.int 1))) (sRet (eBin oAdd (eBin oMul (eV 2) (eC (.int 1073741824))) (eCall (T__law_draw CS) (aC (eV 0) (aC (eC (.int 1073741824)) (aN)))))) (sNo)) (
  sCo (sIf (tOr (tCmp oLt (eV 2) (eC (.int 1))) (tCmp oGt (eV 2) (eC (.int 18)))) (sSet 2 (eC (.int 6))) (sNo)) (
  sCo (sSet 3 (eBin oMul (eV 2) (eC (.int 1073741824)))) (
  sCo (sFor (gName 4) (iStrD (eCall (T__law_shape CS) (aC (eV 2) (aN)))) (sCo (sAsg (gTup 2 (gsC (gName 5) (gsC (gName 6) (gsN)))) (eCall (T__law_place CS) (aC (eV 4) (aN)))) (
  sCo (sSet 7 (eCall (T__law_draw CS) (aC (eV 0) (aC (eCB cMin (aC (eV 6) (aC (eBin oAdd (eCall (T__law_greatest CS) (aC (eV 4) (aN))) (eC (.int 2))) (aN)))) (aN))))) (
  sSet 3 (eBin oAdd (eV 3) (eBin oMul (eV 7) (eV 5))))))) (
  sCo (sIf (tCmp oEq (eV 1) (eC (.int 2))) (sSet 3 (eBin oAdd (eV 3) (eIx oIx (eLst (aC (eC (.int 1)) (aC (eC (.int 64)) (aC (eC (.int 4096)) (aC (eC (.int 16384)) (aC (eC (.int 262144)) (aC (eC (.int 4194304)) (aC (eC (.int 33554432)) (aN))))))))) (eCall (T__law_draw CS) (aC (eV 0) (aC (eC (.int 7)) (aN))))))) (sNo)) (
  sRet (eV 3))))))))))
theorem ok__law_word {f : Addr} {fd : FuncData} {CS : Nat → Addr} (F : Fun K "_law_word" "_law_word" s__law_word f fd) (T : Txt K mg CS) (C__law_draw : CalX P w K mg base 1 "_law_draw" 2 (T__law_draw CS)) (C__law_shape : CalX P w K mg base 1 "_law_shape" 1 (T__law_shape CS)) (C__law_place : CalX P w K mg base 1 "_law_place" 1 (T__law_place CS)) (C__law_greatest : CalX P w K mg base 1 "_law_greatest" 1 (T__law_greatest CS)) : FnOk P w K mg base (L2.CX P w) 2 f fd ["_law_state"] (spX K 1 (T__law_word CS)) :=
  okX F sc__law_word rfl rfl (by decide) fun cdv A outer s H E hr =>
  cs_cons (c1_set sc__law_word.nd rfl lo__law_word__law_turn (cm_call C__law_draw (hr.mono (by decide)) g__law_word__law_draw (ca_cons (cm_v (i := 0) rfl vs__law_word__law_state nd__law_state.1 nd__law_state.2) (ca_cons (cm_int) (ca_nil) rfl) rfl) nd__law_draw.1 rfl rfl) rfl (.inl rfl))
  (cs_cons (c1_if (ct_cmp (cmo_eq hr) (cm_v (i := 1) rfl vs__law_word__law_turn nd__law_turn.1 nd__law_turn.2) (cm_int) rfl) (cs_one (c1_ret (cm_bin cmo_sub (cm_call C__law_draw (hr.mono (by decide)) g__law_word__law_draw (ca_cons (cm_v (i := 0) rfl vs__law_word__law_state nd__law_state.1 nd__law_state.2) (ca_cons (cm_bin cmo_mul (cm_int) (cm_int)) (ca_nil) rfl) rfl) nd__law_draw.1 rfl rfl) (cm_int)))) (cs_nil))
  (cs_cons (c1_set sc__law_word.nd rfl lo__law_word__law_opcode (cm_call C__law_draw (hr.mono (by decide)) g__law_word__law_draw (ca_cons (cm_v (i := 0) rfl vs__law_word__law_state nd__law_state.1 nd__law_state.2) (ca_cons (cm_int) (ca_nil) rfl) rfl) nd__law_draw.1 rfl rfl) rfl (.inl rfl))
  (cs_cons (c1_if (ct_cmp (cmo_eq hr) (cm_v (i := 1) rfl vs__law_word__law_turn nd__law_turn.1 nd__law_turn.2) (cm_int) rfl) (cs_one (c1_ret (cm_bin cmo_add (cm_bin cmo_mul (cm_v (i := 2) rfl vs__law_word__law_opcode nd__law_opcode.1 nd__law_opcode.2) (cm_int)) (cm_call C__law_draw (hr.mono (by decide)) g__law_word__law_draw (ca_cons (cm_v (i := 0) rfl vs__law_word__law_state nd__law_state.1 nd__law_state.2) (ca_cons (cm_int) (ca_nil) rfl) rfl) nd__law_draw.1 rfl rfl)))) (cs_nil))
  (cs_cons (c1_if (ct_pw (cpw_or (ct_cmp cmo_lt (cm_v (i := 2) rfl vs__law_word__law_opcode nd__law_opcode.1 nd__law_opcode.2) (cm_int) rfl) (cpw_or1 (ct_cmp cmo_gt (cm_v (i := 2) rfl vs__law_word__law_opcode nd__law_opcode.1 nd__law_opcode.2) (cm_int) rfl)))) (cs_one (c1_set sc__law_word.nd rfl lo__law_word__law_opcode (cm_int) rfl (.inl rfl))) (cs_nil))
  (cs_cons (c1_set sc__law_word.nd rfl lo__law_word__law_word_here (cm_bin cmo_mul (cm_v (i := 2) rfl vs__law_word__law_opcode nd__law_opcode.1 nd__law_opcode.2) (cm_int)) rfl (.inl rfl))
  (cs_cons (c1_for (cg_name sc__law_word.nd rfl lo__law_word__law_kind (.inl rfl)) (ci_strD (cm_call C__law_shape (hr.mono (by decide)) g__law_word__law_shape (ca_cons (cm_v (i := 2) rfl vs__law_word__law_opcode nd__law_opcode.1 nd__law_opcode.2) (ca_nil) rfl) nd__law_shape.1 rfl rfl)) (cs_cons (c1_asg (cg_tup rfl (cgs_cons (cg_name sc__law_word.nd rfl lo__law_word__law_scale (.inl rfl)) (cgs_cons (cg_name sc__law_word.nd rfl lo__law_word__law_many (.inl rfl)) (cgs_nil) rfl) rfl) rfl rfl) (cm_call C__law_place (hr.mono (by decide)) g__law_word__law_place (ca_cons (cm_v (i := 4) rfl vs__law_word__law_kind nd__law_kind.1 nd__law_kind.2) (ca_nil) rfl) nd__law_place.1 rfl rfl) rfl rfl rfl)
  (cs_cons (c1_set sc__law_word.nd rfl lo__law_word__law_part (cm_call C__law_draw (hr.mono (by decide)) g__law_word__law_draw (ca_cons (cm_v (i := 0) rfl vs__law_word__law_state nd__law_state.1 nd__law_state.2) (ca_cons (cm_callB (cmc_min rfl) bb_min T.b_min g__law_word_min (ca_cons (cm_v (i := 6) rfl vs__law_word__law_many nd__law_many.1 nd__law_many.2) (ca_cons (cm_bin cmo_add (cm_call C__law_greatest (hr.mono (by decide)) g__law_word__law_greatest (ca_cons (cm_v (i := 4) rfl vs__law_word__law_kind nd__law_kind.1 nd__law_kind.2) (ca_nil) rfl) nd__law_greatest.1 rfl rfl) (cm_int)) (ca_nil) rfl) rfl) nn_min nd_min.1 rfl rfl) (ca_nil) rfl) rfl) nd__law_draw.1 rfl rfl) rfl (.inl rfl))
  (cs_one (c1_set sc__law_word.nd rfl lo__law_word__law_word_here (cm_bin cmo_add (cm_v (i := 3) rfl vs__law_word__law_word_here nd__law_word_here.1 nd__law_word_here.2) (cm_bin cmo_mul (cm_v (i := 7) rfl vs__law_word__law_part nd__law_part.1 nd__law_part.2) (cm_v (i := 5) rfl vs__law_word__law_scale nd__law_scale.1 nd__law_scale.2))) rfl (.inl rfl))))) rfl pass_cx (fun _ => rfl))
  (cs_cons (c1_if (ct_cmp (cmo_eq hr) (cm_v (i := 1) rfl vs__law_word__law_turn nd__law_turn.1 nd__law_turn.2) (cm_int) rfl) (cs_one (c1_set sc__law_word.nd rfl lo__law_word__law_word_here (cm_bin cmo_add (cm_v (i := 3) rfl vs__law_word__law_word_here nd__law_word_here.1 nd__law_word_here.2) (cm_ix cmi_ix (cm_lst (ca_cons (cm_int) (ca_cons (cm_int) (ca_cons (cm_int) (ca_cons (cm_int) (ca_cons (cm_int) (ca_cons (cm_int) (ca_cons (cm_int) (ca_nil) rfl) rfl) rfl) rfl) rfl) rfl) rfl) (by decide)) (cm_call C__law_draw (hr.mono (by decide)) g__law_word__law_draw (ca_cons (cm_v (i := 0) rfl vs__law_word__law_state nd__law_state.1 nd__law_state.2) (ca_cons (cm_int) (ca_nil) rfl) rfl) nd__law_draw.1 rfl rfl) (fun _ _ => rfl))) rfl (.inl rfl))) (cs_nil))
  (cs_one (c1_ret (cm_v (i := 3) rfl vs__law_word__law_word_here nd__law_word_here.1 nd__law_word_here.2))))))))))
abbrev s_law : Stmt := top 39
abbrev N_law : List Str := ["_law_script", "_law_state", "_law_k", "_law_cell"]
theorem sc_law : FnScope N_law ["_law_script"] (defScope s_law) := ⟨rfl, rfl, rfl, by decide +kernel, rfl, by decide +kernel, by decide +kernel⟩
theorem lo_law__law_script : Loc (defScope s_law) "_law_script" := by first | exact .inl rfl | exact .inr rfl
theorem vs_law__law_script : Vis (defScope s_law) "_law_script" := lo_law__law_script.elim .inl fun z => .inr (.inl z)
theorem lo_law__law_state : Loc (defScope s_law) "_law_state" := by first | exact .inl rfl | exact .inr rfl
theorem vs_law__law_state : Vis (defScope s_law) "_law_state" := lo_law__law_state.elim .inl fun z => .inr (.inl z)
theorem lo_law__law_k : Loc (defScope s_law) "_law_k" := by first | exact .inl rfl | exact .inr rfl
theorem vs_law__law_k : Vis (defScope s_law) "_law_k" := lo_law__law_k.elim .inl fun z => .inr (.inl z)
theorem lo_law__law_cell : Loc (defScope s_law) "_law_cell" := by first | exact .inl rfl | exact .inr rfl
theorem vs_law__law_cell : Vis (defScope s_law) "_law_cell" := lo_law__law_cell.elim .inl fun z => .inr (.inl z)
theorem g_law__law_start : (defScope s_law).names.lookup ("_law_start" : Str) = some .globalImplicit := rfl
theorem g_law_range : (defScope s_law).names.lookup ("range" : Str) = some .globalImplicit := rfl
theorem g_law__law_holds : (defScope s_law).names.lookup ("_law_holds" : Str) = some .globalImplicit := rfl
theorem g_law__law_word : (defScope s_law).names.lookup ("_law_word" : Str) = some .globalImplicit := rfl
def T_law (CS : Nat → Addr) : FT := fnT 4 (sCo (sSet 1 (eCall (T__law_start CS) (aC (eV 0) (aN)))) (
  sCo (sFor (gName 2) (iR1 (eC (.int 6))) (sIf (tNot (tV (eCall (T__law_holds CS) (aC (eCall (T__law_word CS) (aC (eV 1) (aN))) (aN))))) (sRet (eC (.bl false))) (sNo))) (
  sCo (sFor (gName 3) (iSeq (eV 0)) (sIf (tNot (tV (eCall (T__law_holds CS) (aC (eV 3) (aN))))) (sRet (eC (.bl false))) (sNo))) (
  sRet (eC (.bl true))))))
theorem ok_law {f : Addr} {fd : FuncData} {CS : Nat → Addr} (F : Fun K "law" "law" s_law f fd) (T : Txt K mg CS) (C__law_start : CalX P w K mg base 1 "_law_start" 1 (T__law_start CS)) (C__law_holds : CalX P w K mg base 5 "_law_holds" 1 (T__law_holds CS)) (C__law_word : CalX P w K mg base 2 "_law_word" 1 (T__law_word CS)) : FnOk P w K mg base (L2.CX P w) 6 f fd ["_law_script"] (spX K 1 (T_law CS)) :=
  okX F sc_law rfl rfl (by decide) fun cdv A outer s H E hr =>
  cs_cons (c1_set sc_law.nd rfl lo_law__law_state (cm_call C__law_start (hr.mono (by decide)) g_law__law_start (ca_cons (cm_v (i := 0) rfl vs_law__law_script nd__law_script.1 nd__law_script.2) (ca_nil) rfl) nd__law_start.1 rfl rfl) rfl (.inl rfl))
  (cs_cons (c1_for (cg_name sc_law.nd rfl lo_law__law_k (.inl rfl)) (ci_range1 g_law_range T.b_range (cm_int) rfl) (cs_one (c1_if (ct_not (ct_v (cm_call C__law_holds (hr.mono (by decide)) g_law__law_holds (ca_cons (cm_call C__law_word (hr.mono (by decide)) g_law__law_word (ca_cons (cm_v (i := 1) rfl vs_law__law_state nd__law_state.1 nd__law_state.2) (ca_nil) rfl) nd__law_word.1 rfl rfl) (ca_nil) rfl) nd__law_holds.1 rfl rfl))) (cs_one (c1_ret (cm_bl))) (cs_nil))) rfl pass_cx (fun _ => rfl))
  (cs_cons (c1_for (cg_name sc_law.nd rfl lo_law__law_cell (.inl rfl)) (ci_seq (cm_v (i := 0) rfl vs_law__law_script nd__law_script.1 nd__law_script.2)) (cs_one (c1_if (ct_not (ct_v (cm_call C__law_holds (hr.mono (by decide)) g_law__law_holds (ca_cons (cm_v (i := 3) rfl vs_law__law_cell nd__law_cell.1 nd__law_cell.2) (ca_nil) rfl) nd__law_holds.1 rfl rfl))) (cs_one (c1_ret (cm_bl))) (cs_nil))) rfl pass_cx (fun _ => rfl))
  (cs_one (c1_ret (cm_bl)))))
end
/-! reading: one step at a time -/
local macro_rules | `(tactic| walk_at "at") => `(tactic| first
  | (with_reducible assumption)
  | assumption
  | (with_reducible exact atI_last)
  | (with_reducible exact atI_lastM)
  | (with_reducible exact ixN_lastM)
  | exact rfl
  | exact atI_c0
  | exact atI_c1
  | exact atI_c2
  | exact atI_c3
  | ((refine' atI_mapN ?h0 ?h1); (case h1 => assumption); (case h0 => omega))
  | ((refine atI_ints ?_ ?_) <;> first | omega | ((try simp only [List.length_map, List.length_append, List.length_cons, List.length_nil] at *); omega))
  | ((refine ixN_some ?_ ?_) <;> first | omega | ((try simp only [List.length_map, List.length_append, List.length_cons, List.length_nil] at *); omega)))
local macro_rules | `(tactic| walk_at "pos") => `(tactic| first
  | assumption
  | ((refine' app_at (A := [_]) ?hh); (case hh => assumption))
  | ((refine' app_at (A := [_, _]) ?hh); (case hh => assumption))
  | ((refine' app_at (A := [_, _, _]) ?hh); (case hh => assumption))
  | ((refine' app_at (A := [_, _, _, _]) ?hh); (case hh => assumption))
  | ((refine' app_at (A := [_, _, _, _, _]) ?hh); (case hh => assumption))
  | ((refine' app_at (A := [_, _, _, _, _, _]) ?hh); (case hh => assumption)))
local macro_rules | `(tactic| walk_at "side") => `(tactic| first
  | (with_reducible assumption)
  | (with_reducible exact rfl)
  | ((with_reducible show EV.MulOk _ _); first | exact Or.inl ⟨by omega, by omega⟩ | exact Or.inr (Or.inl ⟨by omega, by omega⟩))
  | ((with_reducible show EV.DivOk _ _); exact ⟨by omega, by omega⟩)
  | ((with_reducible show EV.ModOk _ _); (show (0 : Int) < _); omega)
  | ((with_reducible show EV.PowOk _ _); exact ⟨by omega, by omega, by omega, by omega⟩)
  | ((with_reducible show EV.ShrOk _ _); (show (0 : Int) ≤ _); omega)
  | ((with_reducible show _ ≤ sizeLine); refine szI ?_; first | omega | ((try simp only [List.length_map, List.length_append, List.length_cons, List.length_nil, List.length_replicate, List.length_set, List.length_take, List.length_eraseIdx, rng_len, enumW_len] at *); omega))
  | ((with_reducible show _ < sizeLine); refine szJ ?_; first | omega | ((try simp only [List.length_map, List.length_append, List.length_cons, List.length_nil, List.length_replicate, List.length_set, List.length_take, List.length_eraseIdx, rng_len, enumW_len] at *); omega))
  | omega
  | ((try simp only [List.length_map, List.length_append, List.length_cons, List.length_nil, List.length_replicate, List.length_set, rng_len] at *); omega)
  | exact rfl
  | decide)
local macro_rules | `(tactic| walk_at "perm") => `(tactic| (classical
    rw [List.perm_iff_count]
    intro _
    simp only [List.count_append, List.count_cons, List.count_nil, List.append_assoc, List.cons_append, List.nil_append, Nat.zero_add, Nat.add_zero]
    ac_rfl))
local macro_rules | `(tactic| walk_at "no") => `(tactic| first | (exfalso; omega) | contradiction)
local macro_rules | `(tactic| walk_at "hook") => `(tactic| fail "no hook")
local macro_rules | `(tactic| walk_at "hp") => `(tactic| first
  | (with_reducible exact rfl)
  | decide
  | omega
  | ((simp only [List.length_map, List.length_append, List.length_cons, List.length_nil]); omega)
  | exact Bool.false_ne_true
  | exact Bool.false_ne_true.symm)
local macro_rules | `(tactic| walk_at "br") => `(tactic| first
  | ((with_reducible refine brT ?k); (case' k => walk_at "go"))
  | ((with_reducible refine brF ?k); (case' k => walk_at "go"))
  | ((with_reducible refine brDT ?hp ?k); (case hp => walk_at "hp"); (case' k => walk_at "go"))
  | ((with_reducible refine brDF ?hp ?k); (case hp => walk_at "hp"); (case' k => walk_at "go"))
  | ((with_reducible refine brDNT ?hp ?k); (case hp => walk_at "hp"); (case' k => walk_at "go"))
  | ((with_reducible refine brDNF ?hp ?k); (case hp => walk_at "hp"); (case' k => walk_at "go"))
  | ((with_reducible refine brD (fun hb => ?_) (fun hb => ?_)) <;> ((try simp only [List.length_map, List.length_append, List.length_cons, List.length_nil, not_true_eq_false] at hb) <;> walk_at "go"))
  | ((with_reducible refine brDN (fun hb => ?_) (fun hb => ?_)) <;> ((try simp only [List.length_map, List.length_append, List.length_cons, List.length_nil, not_true_eq_false] at hb) <;> walk_at "go"))
  | ((with_reducible refine orT ?k); (case' k => walk_at "go"))
  | ((with_reducible refine orF ?k); (case' k => walk_at "go"))
  | ((with_reducible refine orDT ?hp ?k); (case hp => walk_at "hp"); (case' k => walk_at "go"))
  | ((with_reducible refine orDF ?hp ?k); (case hp => walk_at "hp"); (case' k => walk_at "go"))
  | ((with_reducible refine orD (fun hb => ?_) (fun hb => ?_)) <;> ((try simp only [List.length_map, List.length_append, List.length_cons, List.length_nil, not_true_eq_false] at hb) <;> walk_at "go"))
  | ((with_reducible refine orDN (fun hb => ?_) (fun hb => ?_)) <;> ((try simp only [List.length_map, List.length_append, List.length_cons, List.length_nil, not_true_eq_false] at hb) <;> walk_at "go"))
  | ((refine brT ?k); (case' k => walk_at "go"))
  | ((refine brF ?k); (case' k => walk_at "go"))
  | ((refine orT ?k); (case' k => walk_at "go"))
  | ((refine orF ?k); (case' k => walk_at "go"))
  | ((with_reducible refine brN2 (fun hb => ?_) (fun hb => ?_)) <;> ((try simp only [List.length_map, List.length_append, List.length_cons, List.length_nil, not_true_eq_false] at hb) <;> walk_at "go"))
  | ((with_reducible refine br2 (fun hb => ?_) (fun hb => ?_)) <;> ((try simp only [List.length_map, List.length_append, List.length_cons, List.length_nil, not_true_eq_false] at hb) <;> walk_at "go"))
  | ((with_reducible refine orN2 (fun hb => ?_) (fun hb => ?_)) <;> ((try simp only [List.length_map, List.length_append, List.length_cons, List.length_nil, not_true_eq_false] at hb) <;> walk_at "go"))
  | ((with_reducible refine or2 (fun hb => ?_) (fun hb => ?_)) <;> ((try simp only [List.length_map, List.length_append, List.length_cons, List.length_nil, not_true_eq_false] at hb) <;> walk_at "go")))
local macro_rules | `(tactic| walk_at "ix") => `(tactic| first
  | ((with_reducible refine ⟨_, atI_last, ?k⟩); (case' k => walk_at "go"))
  | ((with_reducible refine ⟨_, atI_lastM, ?k⟩); (case' k => walk_at "go"))
  | ((with_reducible refine ⟨_, ixN_lastM, ?k⟩); (case' k => walk_at "go"))
  | ((refine' ⟨_, ?ix, ?k⟩); (case ix => walk_at "at"); (case' k => walk_at "go")))
local macro_rules | `(tactic| walk_at "ex3") => `(tactic| first
  | ((refine ex3 ⟨0, _, rfl, ?k⟩); (case' k => walk_at "ix"))
  | ((refine ex3 ⟨1, _, rfl, ?k⟩); (case' k => walk_at "ix"))
  | ((refine ex3 ⟨2, _, rfl, ?k⟩); (case' k => walk_at "ix"))
  | ((refine ex3 ⟨3, _, rfl, ?k⟩); (case' k => walk_at "ix"))
  | ((refine ex3 ⟨4, _, rfl, ?k⟩); (case' k => walk_at "ix"))
  | ((refine ex3 ⟨5, _, rfl, ?k⟩); (case' k => walk_at "ix"))
  | ((refine ex3 ⟨6, _, rfl, ?k⟩); (case' k => walk_at "ix"))
  | ((refine ex3 ⟨7, _, rfl, ?k⟩); (case' k => walk_at "ix"))
  | ((refine ex3 ⟨8, _, rfl, ?k⟩); (case' k => walk_at "ix"))
  | ((refine' ex3 ⟨(_ : Nat), _, ?pos, ?k⟩); (case pos => walk_at "pos"); (case' k => walk_at "ix")))
local macro_rules | `(tactic| walk_at "ex") => `(tactic| first
  | ((with_reducible show ∃ _, ∃ _, ∃ _, (_ = some _) ∧ (_ = some _) ∧ _); walk_at "ex3")
  | ((refine ⟨0, _, _, _, rfl, .head _, rfl, ?k⟩); (case' k => walk_at "go"))
  | ((refine ⟨1, _, _, _, rfl, .head _, rfl, ?k⟩); (case' k => walk_at "go"))
  | ((refine ⟨2, _, _, _, rfl, .head _, rfl, ?k⟩); (case' k => walk_at "go"))
  | ((refine ⟨3, _, _, _, rfl, .head _, rfl, ?k⟩); (case' k => walk_at "go"))
  | ((refine ⟨4, _, _, _, rfl, .head _, rfl, ?k⟩); (case' k => walk_at "go"))
  | ((refine ⟨5, _, _, _, rfl, .head _, rfl, ?k⟩); (case' k => walk_at "go"))
  | ((refine ⟨0, _, _, rfl, .head _, ?side, ?k⟩); (case side => exact Nat.le_of_ble_eq_true rfl); (case' k => walk_at "go"))
  | ((refine ⟨1, _, _, rfl, .head _, ?side, ?k⟩); (case side => exact Nat.le_of_ble_eq_true rfl); (case' k => walk_at "go"))
  | ((refine ⟨2, _, _, rfl, .head _, ?side, ?k⟩); (case side => exact Nat.le_of_ble_eq_true rfl); (case' k => walk_at "go"))
  | ((refine ⟨3, _, _, rfl, .head _, ?side, ?k⟩); (case side => exact Nat.le_of_ble_eq_true rfl); (case' k => walk_at "go"))
  | ((refine ⟨⟨0, _, rfl, rfl⟩, ?k⟩); (case' k => walk_at "go"))
  | ((refine ⟨⟨1, _, rfl, rfl⟩, ?k⟩); (case' k => walk_at "go"))
  | ((refine ⟨⟨2, _, rfl, rfl⟩, ?k⟩); (case' k => walk_at "go"))
  | ((refine ⟨⟨3, _, rfl, rfl⟩, ?k⟩); (case' k => walk_at "go"))
  | ((refine ⟨⟨4, _, rfl, rfl⟩, ?k⟩); (case' k => walk_at "go"))
  | ((refine ⟨⟨5, _, rfl, rfl⟩, ?k⟩); (case' k => walk_at "go"))
  | ((refine ⟨⟨6, _, rfl, rfl⟩, ?k⟩); (case' k => walk_at "go"))
  | ((refine ⟨⟨7, _, rfl, rfl⟩, ?k⟩); (case' k => walk_at "go"))
  | ((refine' And.intro (exO ?pos ?lk) ?k); (case pos => walk_at "pos"); (case lk => exact rfl); (case' k => walk_at "go"))
  | ((refine ⟨⟨0, _, rfl⟩, ?k⟩); (case' k => walk_at "go"))
  | ((refine ⟨⟨1, _, rfl⟩, ?k⟩); (case' k => walk_at "go"))
  | ((refine ⟨⟨2, _, rfl⟩, ?k⟩); (case' k => walk_at "go"))
  | ((refine ⟨⟨3, _, rfl⟩, ?k⟩); (case' k => walk_at "go"))
  | ((refine ⟨⟨4, _, rfl⟩, ?k⟩); (case' k => walk_at "go"))
  | ((refine ⟨⟨5, _, rfl⟩, ?k⟩); (case' k => walk_at "go"))
  | ((refine ⟨⟨6, _, rfl⟩, ?k⟩); (case' k => walk_at "go"))
  | ((refine ⟨⟨7, _, rfl⟩, ?k⟩); (case' k => walk_at "go"))
  | ((refine' ⟨0, _, rfl, _, ?ix, ?k⟩); (case ix => first | exact kit_list_list | exact kit_list_bool | exact kit_list_int); (case' k => walk_at "go"))
  | ((refine' ⟨1, _, rfl, _, ?ix, ?k⟩); (case ix => first | exact kit_list_list | exact kit_list_bool | exact kit_list_int); (case' k => walk_at "go"))
  | ((refine' ⟨2, _, rfl, _, ?ix, ?k⟩); (case ix => first | exact kit_list_list | exact kit_list_bool | exact kit_list_int); (case' k => walk_at "go"))
  | ((refine' ⟨3, _, rfl, _, ?ix, ?k⟩); (case ix => first | exact kit_list_list | exact kit_list_bool | exact kit_list_int); (case' k => walk_at "go"))
  | ((refine' ⟨4, _, rfl, _, ?ix, ?k⟩); (case ix => first | exact kit_list_list | exact kit_list_bool | exact kit_list_int); (case' k => walk_at "go"))
  | ((refine' ⟨5, _, rfl, _, ?ix, ?k⟩); (case ix => first | exact kit_list_list | exact kit_list_bool | exact kit_list_int); (case' k => walk_at "go"))
  | ((refine' ⟨6, _, rfl, _, ?ix, ?k⟩); (case ix => first | exact kit_list_list | exact kit_list_bool | exact kit_list_int); (case' k => walk_at "go"))
  | ((refine' ⟨7, _, rfl, _, ?ix, ?k⟩); (case ix => first | exact kit_list_list | exact kit_list_bool | exact kit_list_int); (case' k => walk_at "go"))
  | ((refine ⟨0, _, rfl, And.intro ?side ?k⟩); (case side => walk_at "side"); (case' k => walk_at "go"))
  | ((refine ⟨1, _, rfl, And.intro ?side ?k⟩); (case side => walk_at "side"); (case' k => walk_at "go"))
  | ((refine ⟨2, _, rfl, And.intro ?side ?k⟩); (case side => walk_at "side"); (case' k => walk_at "go"))
  | ((refine ⟨3, _, rfl, And.intro ?side ?k⟩); (case side => walk_at "side"); (case' k => walk_at "go"))
  | ((refine ⟨4, _, rfl, And.intro ?side ?k⟩); (case side => walk_at "side"); (case' k => walk_at "go"))
  | ((refine ⟨5, _, rfl, And.intro ?side ?k⟩); (case side => walk_at "side"); (case' k => walk_at "go"))
  | ((refine ⟨6, _, rfl, And.intro ?side ?k⟩); (case side => walk_at "side"); (case' k => walk_at "go"))
  | ((refine ⟨7, _, rfl, And.intro ?side ?k⟩); (case side => walk_at "side"); (case' k => walk_at "go"))
  | ((refine ⟨0, _, rfl, ?k⟩); (case' k => walk_at "go"))
  | ((refine ⟨1, _, rfl, ?k⟩); (case' k => walk_at "go"))
  | ((refine ⟨2, _, rfl, ?k⟩); (case' k => walk_at "go"))
  | ((refine ⟨3, _, rfl, ?k⟩); (case' k => walk_at "go"))
  | ((refine ⟨4, _, rfl, ?k⟩); (case' k => walk_at "go"))
  | ((refine ⟨5, _, rfl, ?k⟩); (case' k => walk_at "go"))
  | ((refine ⟨6, _, rfl, ?k⟩); (case' k => walk_at "go"))
  | ((refine ⟨7, _, rfl, ?k⟩); (case' k => walk_at "go"))
  | ((with_reducible show Exists fun _ => (_ = some _) ∧ _); (refine' ⟨_, ?ix, ?k⟩); (case ix => first | exact kit_NoneType_bool | exact kit_NoneType_int | exact kit_NoneType_list | exact kit_bool_bool | exact kit_bool_int | exact kit_bool_list | exact kit_int_bool | exact kit_int_int | exact kit_int_str | exact kit_int_tuple | exact kit_int_list | exact kit_str_bool | exact kit_str_int | exact kit_str_str | exact kit_str_list | exact kit_tuple_bool | exact kit_tuple_int | exact kit_tuple_tuple | exact kit_tuple_list | exact kit_list_bool | exact kit_list_int | exact kit_list_list); (case' k => walk_at "go"))
  | ((refine ⟨_, RgC.neg ?s1 ?s2 ?s3 ?s4, ?k⟩); (case s1 => omega); (case s2 => omega); (case s3 => omega); (case s4 => omega); (case' k => walk_at "go"))
  | ((with_reducible show Exists fun _ => (_ = some _) ∧ _); (refine' ⟨_, ?ix, ?k⟩); (case ix => walk_at "at"); (case' k => walk_at "go"))
  | ((refine ⟨rfl, _, rfl, ?sc, ?k⟩); (case sc => first | exact rfl | exact scal_ints _); (case' k => walk_at "go"))
  | ((refine ⟨rfl, _, ⟨0, rfl⟩, ?sc, ?k⟩); (case sc => first | exact rfl | exact scal_ints _); (case' k => walk_at "go"))
  | ((refine ⟨rfl, _, ⟨1, rfl⟩, ?sc, ?k⟩); (case sc => first | exact rfl | exact scal_ints _); (case' k => walk_at "go"))
  | ((refine ⟨rfl, _, ⟨2, rfl⟩, ?sc, ?k⟩); (case sc => first | exact rfl | exact scal_ints _); (case' k => walk_at "go"))
  | ((refine' ⟨0, _, 0, _, rfl, by decide, by decide, ?sx, ?zx, ?k⟩); (case zx => exact rfl); (case sx => refine sx0 ?_; (try simp only [List.length_map, List.length_cons]); omega); (case' k => walk_at "go"))
  | ((refine' ⟨1, _, 0, _, rfl, by decide, by decide, ?sx, ?zx, ?k⟩); (case zx => exact rfl); (case sx => refine sx0 ?_; (try simp only [List.length_map, List.length_cons]); omega); (case' k => walk_at "go"))
  | ((refine' ⟨(_ : Nat), _, 0, _, ?pos, by decide, by decide, ?sx, ?zx, ?k⟩); (case pos => walk_at "pos"); (case zx => exact rfl); (case sx => refine sx0 ?_; (try simp only [List.length_map, List.length_cons]); omega); (case' k => walk_at "go"))
  | ((with_reducible show ∃ _ : Nat, ∃ _ : List D, ∃ _, (_ = some (_, OO.lst _)) ∧ (_ = some _) ∧ _); (refine' ⟨(_ : Nat), _, _, ?pos, ?ix, ?k⟩); (case pos => walk_at "pos"); (case ix => walk_at "at"); (case' k => walk_at "go"))
  | ((refine' ⟨⟨(_ : Nat), _, ?pos⟩, ?k⟩); (case pos => walk_at "pos"); (case' k => walk_at "go"))
  | ((refine ⟨_, ⟨0, rfl⟩, ?k⟩); (case' k => walk_at "go"))
  | ((refine ⟨_, ⟨1, rfl⟩, ?k⟩); (case' k => walk_at "go"))
  | ((refine ⟨_, ⟨2, rfl⟩, ?k⟩); (case' k => walk_at "go"))
  | ((refine ⟨_, ⟨3, rfl⟩, ?k⟩); (case' k => walk_at "go"))
  | ((refine ⟨_, ⟨4, rfl⟩, ?k⟩); (case' k => walk_at "go"))
  | ((refine ⟨_, ⟨5, rfl⟩, ?k⟩); (case' k => walk_at "go"))
  | ((refine ⟨_, ⟨6, rfl⟩, ?k⟩); (case' k => walk_at "go"))
  | ((refine ⟨_, ⟨7, rfl⟩, ?k⟩); (case' k => walk_at "go"))
  | ((refine' ⟨_, ⟨(_ : Nat), ?pos⟩, ?k⟩); (case pos => walk_at "pos"); (case' k => walk_at "go"))
  | ((refine' ⟨rfl, _, ⟨(_ : Nat), ?pos⟩, ?sc, ?k⟩); (case pos => walk_at "pos"); (case sc => exact scal_ints _); (case' k => walk_at "go"))
  | ((refine' ⟨(_ : Nat), _, ?pos, And.intro ?side ?k⟩); (case pos => walk_at "pos"); (case side => walk_at "side"); (case' k => walk_at "go"))
  | ((refine' ⟨(_ : Nat), _, ?pos, ?k⟩); (case pos => walk_at "pos"); (case' k => walk_at "go")))
local macro_rules | `(tactic| walk_at "s1") => `(tactic| first
  | walk_at "br"
  | ((with_reducible show EV.MulOk _ _ ∧ _); (refine And.intro ?side ?k); (try (case side => walk_at "side")); (case' k => walk_at "go"))
  | ((with_reducible show EV.DivOk _ _ ∧ _); (refine And.intro ?side ?k); (try (case side => walk_at "side")); (case' k => walk_at "go"))
  | ((with_reducible show EV.ModOk _ _ ∧ _); (refine And.intro ?side ?k); (try (case side => walk_at "side")); (case' k => walk_at "go"))
  | ((with_reducible show EV.PowOk _ _ ∧ _); (refine And.intro ?side ?k); (try (case side => walk_at "side")); (case' k => walk_at "go"))
  | ((with_reducible show EV.ShrOk _ _ ∧ _); (refine And.intro ?side ?k); (try (case side => walk_at "side")); (case' k => walk_at "go"))
  | ((with_reducible show (_ ≤ _) ∧ _); (refine And.intro ?side ?k); (try (case side => walk_at "side")); (case' k => walk_at "go"))
  | ((with_reducible show (_ < _) ∧ _); (refine And.intro ?side ?k); (try (case side => walk_at "side")); (case' k => walk_at "go"))
  | ((with_reducible show (List.length _ = _) ∧ _); (refine And.intro ?side ?k); (try (case side => walk_at "side")); (case' k => walk_at "go"))
  | walk_at "ex"
  | walk_at "hook"
  | ((with_reducible refine And.intro ?side ?k); (try (case side => walk_at "side")); (case' k => walk_at "go"))
  | ((with_reducible show ∀ _ : Addr, _); (intro _); walk_at "go"))
local macro_rules | `(tactic| walk_at "go") => `(tactic| ((try (conv => whnf)); first | walk_at "s1" | skip))

section
variable {CS : Nat → Addr}
open PySem.W
/-! bits -/
theorem and_half (x y : Int) : Builtin.bitAnd x y = 2 * Builtin.bitAnd (x / 2) (y / 2) + (if x % 2 = 1 ∧ y % 2 = 1 then 1 else 0) := kbt_halves x y
theorem or_and (x y : Int) : Builtin.bitOr x y = x + y - Builtin.bitAnd x y := by
  have h := bitXor_and x y
  unfold Builtin.bitXor at h
  omega
theorem and_low : ∀ (b : Nat) (u n : Int), u % 2 ^ b = 0 → 0 ≤ n → n < 2 ^ b → Builtin.bitAnd u n = 0
  | 0, u, n, _, h0, h1 => by
    have e : n = 0 := by
      have : (2 : Int) ^ 0 = 1 := rfl
      omega
    subst e
    have := kbt_mask u 0
    simpa using this
  | b + 1, u, n, hu, h0, h1 => by
    have p : (2 : Int) ^ (b + 1) = 2 * 2 ^ b := by rw [Int.pow_succ, Int.mul_comm]
    have hp : (0 : Int) < 2 ^ b := kbt_pos b
    rw [p] at hu h1
    obtain ⟨c, hc⟩ := Int.dvd_of_emod_eq_zero hu
    have e2 : u / 2 = 2 ^ b * c := by rw [hc, Int.mul_assoc]; omega
    have e3 : u % 2 = 0 := by rw [hc, Int.mul_assoc]; omega
    rw [and_half, and_low b (u / 2) (n / 2) (by rw [e2]; exact Int.mul_emod_right _ _) (by omega) (by omega), if_neg (by omega)]
    rfl
theorem and_shl : ∀ (s : Nat) (u n : Int), Builtin.bitAnd u (n * 2 ^ s) = 2 ^ s * Builtin.bitAnd (u / 2 ^ s) n
  | 0, u, n => by simp
  | s + 1, u, n => by
    have p : (2 : Int) ^ (s + 1) = 2 * 2 ^ s := by rw [Int.pow_succ, Int.mul_comm]
    have hp : (0 : Int) < 2 ^ s := kbt_pos s
    have e1 : n * 2 ^ (s + 1) = 2 * (n * 2 ^ s) := by rw [p, ← Int.mul_assoc, Int.mul_comm n 2, Int.mul_assoc]
    have e2 : n * 2 ^ (s + 1) / 2 = n * 2 ^ s := by rw [e1]; omega
    have e3 : n * 2 ^ (s + 1) % 2 = 0 := by rw [e1]; omega
    rw [and_half, e2, and_shl s (u / 2) n, if_neg (by omega), p, Int.ediv_ediv_of_nonneg (by omega), Int.mul_assoc, Int.add_zero]
theorem or_add {u n N : Int} (s b : Nat) (hN : n * 2 ^ s = N) (h : u / 2 ^ s % 2 ^ b = 0) (h0 : 0 ≤ n) (h1 : n < 2 ^ b) : Builtin.bitOr u N = u + N := by
  subst hN
  rw [or_and, and_shl, and_low b _ n h h0 h1]
  simp
/-! fields -/
abbrev Fd (lo hi sh md off : Int) : D := .tup [.int lo, .int hi, .int sh, .int md, .int off]
theorem eqFd (l m : List Int) : eqD (.tup (l.map D.int)) (.tup (m.map D.int)) = decide (l = m) := by
  unfold eqD
  rw [toP, toP, PyData.eqv]
  exact eqvA_ints l m
theorem shpFd (l : List Int) : shp (.tup (l.map D.int)) 60 = true := by
  rw [shp, shpA_ints]; rfl
theorem eqFd5 (a b c d e a' b' c' d' e' : Int) : eqD (Fd a b c d e) (Fd a' b' c' d' e') = decide ([a, b, c, d, e] = [a', b', c', d', e']) := eqFd [a, b, c, d, e] [a', b', c', d', e']
theorem shpFd5 (a b c d e : Int) : shp (Fd a b c d e) 60 = true := shpFd [a, b, c, d, e]
abbrev NF : D := Fd 0 16 13 32 0
abbrev CALC : List Str := ["add", "sub", "mul", "div", "mod", "and", "or", "xor", "shl", "shr", "ult", "ule", "slt", "sle", "eq", "ne", "nor"]
theorem inD_strs {z : Str} : ∀ ys : List Str, inD (.str z) (ys.map D.str) = decide (z ∈ ys)
  | [] => by simp [inD, inV]
  | n :: ns => by
    have h := inD_strs (z := z) ns
    unfold inD inV at h ⊢
    rw [List.map_cons, List.map_cons, List.any_cons, h]
    by_cases e : n = z
    · subst e; simp [eqV, scalD]
    · have e' : z ≠ n := fun x => e x.symm
      simp [eqV, scalD, e, e']
theorem w_numT {lo hi sh md off v : Int} {os : Os} {k : D → Os → Prop} {kx : Kx} (b : Nat) (hm : md = 2 ^ b) (hn : ¬ [lo, hi, sh, md, off] = [0, 16, 13, 32, 0]) (h1 : lo ≤ v) (h2 : v ≤ hi) (h : k (.int ((v - off) % md)) os) : T_number_of CS [.int v, Fd lo hi sh md off] os k kx := by
  unfold T_number_of fnT
  walk_at "go"
  refine ⟨_, _, .same _, .same _, shpFd5 _ _ _ _ _, shpFd5 _ _ _ _ _, ?_⟩
  rw [eqFd5, decide_eq_false hn]
  walk_at "go"
  rw [hm, kbt_mask, ← hm]
  exact dropX_id h
theorem w_numF {lo hi sh md off v : Int} {os : Os} {k : D → Os → Prop} {kx : Kx} (hn : ¬ [lo, hi, sh, md, off] = [0, 16, 13, 32, 0]) (h1 : v < lo ∨ hi < v) (h : k .non os) : T_number_of CS [.int v, Fd lo hi sh md off] os k kx := by
  unfold T_number_of fnT
  walk_at "go"
  refine ⟨_, _, .same _, .same _, shpFd5 _ _ _ _ _, shpFd5 _ _ _ _ _, ?_⟩
  rw [eqFd5, decide_eq_false hn]
  walk_at "go"
  all_goals first
    | exact dropX_id h
    | (exfalso; omega)
theorem w_numN {z : Str} {os : Os} {k : D → Os → Prop} {kx : Kx} (h1 : z ∈ CALC → k (.int (CALC.idxOf z : Nat)) os) (h2 : z ∉ CALC → k .non os) : T_number_of CS [.str z, NF] os k kx := by
  unfold T_number_of fnT
  walk_at "go"
  refine ⟨_, _, .same _, .same _, shpFd5 _ _ _ _ _, shpFd5 _ _ _ _ _, ?_⟩
  rw [eqFd5, decide_eq_true rfl]
  walk_at "go"
  · exact dropX_id (h1 (by rename_i hb; exact of_decide_eq_true ((inD_strs CALC).symm.trans hb)))
  · rename_i hb
    exact of_decide_eq_true ((inD_strs CALC).symm.trans hb)
  · rename_i hb
    exact dropX_id (h2 (of_decide_eq_false ((inD_strs CALC).symm.trans hb)))
abbrev FN : List Str := ["set", "high", "calc", "load", "store", "loadx", "storex", "jump", "jzero", "count", "again", "link", "back", "done", "enter", "leave", "in", "out"]
abbrev fT : D := Fd 0 8 26 16 0
abbrev fL : D := Fd 0 8 22 16 0
abbrev fR : D := Fd 0 8 18 16 0
abbrev fS : D := Fd (-32768) 32767 0 65536 0
abbrev fU : D := Fd 0 65535 0 65536 0
abbrev fA : D := Fd 0 16383 0 16384 0
abbrev fE : D := Fd 1 64 14 64 1
abbrev fP : D := Fd 0 4095 0 4096 0
abbrev fC : D := Fd 0 255 22 256 0
abbrev fO : D := Fd 1 64 0 64 1
abbrev fH : D := Fd 0 3 0 16 0
abbrev fQ : D := Fd 0 7 0 16 0
abbrev FF : List (List D) := [[fT, fS], [fT, fU], [NF, fT, fL, fR], [fT, fA], [fT, fA], [fT, fL, fA, fE], [fT, fL, fA, fE], [fP], [fT, fP], [fC, fO], [fC, fP], [fP], [], [], [fH], [fH], [fT, fQ], [fT, fQ]]
def mkF : List Str → List (List D) → List D
  | n :: ns, f :: fs => .tup (.str n :: f) :: mkF ns fs
  | _, _ => []
theorem mkF_get : ∀ {ns : List Str} {fs : List (List D)} {i : Nat} {d : D}, (mkF ns fs)[i]? = some d → ∃ n f, ns[i]? = some n ∧ fs[i]? = some f ∧ d = .tup (.str n :: f)
  | [], _, _, _, h => by simp [mkF] at h
  | _ :: _, [], _, _, h => by simp [mkF] at h
  | n :: ns, f :: fs, 0, d, h => ⟨n, f, rfl, rfl, (Option.some.inj h).symm⟩
  | n :: ns, f :: fs, i + 1, d, h => mkF_get (ns := ns) (fs := fs) (i := i) (by simpa [mkF] using h)
theorem mkF_at : ∀ {ns : List Str} {fs : List (List D)} {i : Nat} {n : Str} {f : List D}, ns[i]? = some n → fs[i]? = some f → (mkF ns fs)[i]? = some (.tup (.str n :: f))
  | n :: ns, f :: fs, 0, _, _, h1, h2 => by cases h1; cases h2; rfl
  | n :: ns, f :: fs, i + 1, _, _, h1, h2 => by
    rw [mkF, List.getElem?_cons_succ]
    exact mkF_at (by simpa using h1) (by simpa using h2)
  | [], _, _, _, _, h1, _ => by simp at h1
  | _ :: _, [], _, _, _, _, h2 => by simp at h2
abbrev FM : List D := mkF FN FF
def opc (n : Str) : Int := if n ∈ FN then (FN.idxOf n : Nat) + 1 else 0
theorem idx_of {n : Str} : ∀ {l : List Str} {i : Nat}, l[i]? = some n → (∀ j < i, l[j]? ≠ some n) → l.idxOf n = i
  | [], i, h, _ => by simp at h
  | a :: l, 0, h, _ => by
    have h : a = n := by simpa using h
    rw [List.idxOf_cons, h]; simp
  | a :: l, i + 1, h, hn => by
    have h0 : a ≠ n := by simpa using hn 0 (by omega)
    rw [List.idxOf_cons, show (a == n) = false from beq_eq_false_iff_ne.mpr h0]
    have := idx_of (l := l) (i := i) (by simpa using h) (fun j hj => by simpa using hn (j + 1) (by omega))
    rw [this]; rfl
theorem w_opc {n : Str} {os : Os} {k : D → Os → Prop} {kx : Kx} (h : k (.int (opc n)) os) : T_opcode_of CS [.str n] os k kx := by
  unfold T_opcode_of fnT
  walk_at "go"
  refine forX_inv (fun i e o => (∀ j < i, FN[j]? ≠ some n) ∧ ∃ x y, e = [some (.str n), x, y] ∧ o = os) ⟨fun j hj => absurd hj (by omega), _, _, rfl, rfl⟩ ?_ ?_ (fun _ _ _ _ => trivial)
  · rintro i w e o N hw ⟨hj, x, y, rfl, rfl⟩ hN
    change (enumW 0 FM)[i]? = some w at hw
    obtain ⟨d, hd, rfl⟩ := enumW_get hw
    obtain ⟨m, f, h1, h2, rfl⟩ := mkF_get hd
    walk_at "go"
    · rename_i hb
      subst hb
      have hi : FN.idxOf m = i := idx_of h1 hj
      refine dropX_id (kI h ?_)
      rw [opc, if_pos (List.mem_of_getElem? h1), hi]
      omega
    · rename_i hb
      refine hN _ _ _ (.refl _) ⟨fun j hj2 => ?_, _, _, rfl, rfl⟩
      by_cases e : j = i
      · subst e
        rw [h1]
        intro z
        exact hb (Option.some.inj z)
      · exact hj j (by omega)
  · rintro e o ⟨hj, x, y, rfl, rfl⟩
    walk_at "go"
    refine dropX_id (kI h ?_)
    rw [opc, if_neg]
    intro hm
    obtain ⟨j, hj2, e⟩ := List.mem_iff_getElem.mp hm
    exact hj j hj2 (by rw [List.getElem?_eq_getElem hj2, e])
/-! numbers of items -/
def NumOk (CS : Nat → Addr) (x f : D) (n : Int) : Prop := ∀ (os : Os) (k : D → Os → Prop) (kx : Kx), k (.int n) os → T_number_of CS [x, f] os k kx
def NumNo (CS : Nat → Addr) (x f : D) : Prop := ∀ (os : Os) (k : D → Os → Prop) (kx : Kx), k .non os → T_number_of CS [x, f] os k kx
/-- item by item -/
inductive AllOk (CS : Nat → Addr) : List D → List D → List Int → Prop
  | nil : AllOk CS [] [] []
  | cons {x f : D} {n : Int} {xs fs : List D} {ns : List Int} : NumOk CS x f n → AllOk CS xs fs ns → AllOk CS (x :: xs) (f :: fs) (n :: ns)
inductive SomeNo (CS : Nat → Addr) : List D → List D → Prop
  | here {x f : D} {xs fs : List D} : NumNo CS x f → SomeNo CS (x :: xs) (f :: fs)
  | there {x f : D} {n : Int} {xs fs : List D} : NumOk CS x f n → SomeNo CS xs fs → SomeNo CS (x :: xs) (f :: fs)
theorem AllOk.len {xs fs : List D} {ns : List Int} (h : AllOk CS xs fs ns) : xs.length = fs.length ∧ ns.length = fs.length := by
  induction h with
  | nil => exact ⟨rfl, rfl⟩
  | cons _ _ ih => exact ⟨congrArg (· + 1) ih.1, congrArg (· + 1) ih.2⟩
theorem AllOk.get {xs fs : List D} {ns : List Int} (h : AllOk CS xs fs ns) : ∀ {i : Nat} {x f : D}, xs[i]? = some x → fs[i]? = some f → ∃ n, ns[i]? = some n ∧ NumOk CS x f n := by
  induction h with
  | nil => intro i x f h1 _; simp at h1
  | cons a b ih =>
    intro i x f h1 h2
    cases i with
    | zero => simp at h1 h2; subst h1 h2; exact ⟨_, rfl, a⟩
    | succ i => simpa using ih (by simpa using h1) (by simpa using h2)
theorem SomeNo.get {xs fs : List D} (h : SomeNo CS xs fs) : ∃ (i : Nat) (x f : D), xs[i]? = some x ∧ fs[i]? = some f ∧ NumNo CS x f ∧ ∀ (j : Nat) (y g : D), j < i → xs[j]? = some y → fs[j]? = some g → ∃ n, NumOk CS y g n := by
  induction h with
  | here a => exact ⟨0, _, _, rfl, rfl, a, fun j _ _ hj => absurd hj (by omega)⟩
  | there a b ih =>
    obtain ⟨i, x, f, h1, h2, h3, h4⟩ := ih
    refine ⟨i + 1, x, f, h1, h2, h3, fun j y g hj e1 e2 => ?_⟩
    cases j with
    | zero => simp at e1 e2; subst e1 e2; exact ⟨_, a⟩
    | succ j => exact h4 j y g (by omega) (by simpa using e1) (by simpa using e2)

end

section
variable {CS : Nat → Addr}
theorem opc_at {i : Nat} {n : Str} (h : FN[i]? = some n) : opc n = (i : Int) + 1 := by
  have nd : FN.Nodup := by decide +kernel
  obtain ⟨hi, e⟩ := List.getElem?_eq_some_iff.mp h
  have hx : FN.idxOf n = i := idx_of h fun j hj e2 => by
    obtain ⟨hj2, e3⟩ := List.getElem?_eq_some_iff.mp e2
    exact (List.pairwise_iff_getElem.mp nd) j i hj2 hi hj (e3.trans e.symm)
  rw [opc, if_pos (List.mem_of_getElem? h), hx]
theorem FM_at {i : Nat} {n : Str} {fs : List D} (h1 : FN[i]? = some n) (h2 : FF[i]? = some fs) : atI FM ((i : Int) + 1 - 1) = some (.tup (.str n :: fs)) := by
  rw [Int.add_sub_cancel]
  exact atI_nat (mkF_at h1 h2)
theorem cut1 (x : D) (xs : List D) : cutA (x :: xs) (some 1) none = xs := cutA_from (x :: xs) 1
local macro_rules | `(tactic| walk_at "side") => `(tactic| (rw [cut1]; exact Nat.lt_succ_self _))
theorem FF_len {i : Nat} {fs : List D} (h : FF[i]? = some fs) : fs.length ≤ 4 := by
  have : ∀ f ∈ FF, f.length ≤ 4 := by simp [FF]
  exact this fs (List.mem_of_getElem? h)
theorem w_isT {i : Nat} {n : Str} {fs xs : List D} {ns : List Int} {os : Os} {k : D → Os → Prop} {kx : Kx} (h1 : FN[i]? = some n) (h2 : FF[i]? = some fs) (hx : AllOk CS xs fs ns)
    (hs : n = "loadx" ∨ n = "storex" → ∃ a e : Int, xs[2]? = some (.int a) ∧ xs[3]? = some (.int e) ∧ k (.bl (decide (a + e ≤ 16384))) os) (hn : ¬ (n = "loadx" ∨ n = "storex") → k (.bl true) os) : T_is_instruction CS [.tup (.str n :: xs)] os k kx := by
  have hl := hx.len.1
  have hm := FM_at h1 h2
  have h4 := FF_len h2
  unfold T_is_instruction fnT
  walk_at "go"
  refine callX_none (w_opc ?_)
  rw [opc_at h1]
  walk_at "go"
  rw [cut1, cut1]
  refine forX_inv (fun j e o => ∃ y z, e = [some (.tup (.str n :: xs)), some (.int ((i : Int) + 1)), some (.tup (.str n :: fs)), y, z] ∧ o = os) ⟨_, _, rfl, rfl⟩ ?_ ?_ (fun _ _ _ _ => trivial)
  · rintro j w e o N hw ⟨y, z, rfl, rfl⟩ hN
    obtain ⟨x, f, e1, e2, rfl⟩ := zipW_get hw
    obtain ⟨m, _, hm⟩ := hx.get e1 e2
    walk_at "go"
    refine callX_none (hm _ _ _ ?_)
    walk_at "go"
    exact hN _ _ _ (.refl _) ⟨_, _, rfl, rfl⟩
  · rintro e o ⟨y, z, rfl, rfl⟩
    by_cases hsp : n = "loadx" ∨ n = "storex"
    · obtain ⟨a, e2, ha, he, hk⟩ := hs hsp
      have a3 : atI (D.str n :: xs) 3 = some (.int a) := atI_some (by decide) (by simpa using ha)
      have a4 : atI (D.str n :: xs) 4 = some (.int e2) := atI_some (by decide) (by simpa using he)
      walk_at "go"
      all_goals first
        | exact dropX_id hk
        | (rename_i hb1 hb2; exact (hsp.elim hb1 hb2).elim)
    · have hk := hn hsp
      walk_at "go"
      all_goals first
        | exact dropX_id hk
        | (rename_i hb1; exact (hsp (.inl hb1)).elim)
        | (rename_i hb1; exact (hsp (.inr hb1)).elim)
        | (rename_i hb0 hb1; exact (hsp (.inr hb1)).elim)
theorem w_isU {n : Str} {xs : List D} {os : Os} {k : D → Os → Prop} {kx : Kx} (h1 : n ∉ FN) (h : k (.bl false) os) : T_is_instruction CS [.tup (.str n :: xs)] os k kx := by
  unfold T_is_instruction fnT
  walk_at "go"
  refine callX_none (w_opc ?_)
  rw [opc, if_neg h1]
  walk_at "go"
  exact dropX_id h
theorem w_isE {os : Os} {k : D → Os → Prop} {kx : Kx} (h : k (.bl false) os) : T_is_instruction CS [.tup []] os k kx := by
  unfold T_is_instruction fnT
  walk_at "go"
  exact dropX_id h
theorem w_isL {i : Nat} {n : Str} {fs xs : List D} {os : Os} {k : D → Os → Prop} {kx : Kx} (h1 : FN[i]? = some n) (h2 : FF[i]? = some fs) (hl : xs.length ≠ fs.length) (h : k (.bl false) os) : T_is_instruction CS [.tup (.str n :: xs)] os k kx := by
  have hm := FM_at h1 h2
  unfold T_is_instruction fnT
  walk_at "go"
  refine callX_none (w_opc ?_)
  rw [opc_at h1]
  walk_at "go"
  exact dropX_id h
theorem w_isN {i : Nat} {n : Str} {fs xs : List D} {os : Os} {k : D → Os → Prop} {kx : Kx} (h1 : FN[i]? = some n) (h2 : FF[i]? = some fs) (hl : xs.length = fs.length) (hx : SomeNo CS xs fs) (h : k (.bl false) os) : T_is_instruction CS [.tup (.str n :: xs)] os k kx := by
  have hm := FM_at h1 h2
  have h4 := FF_len h2
  obtain ⟨p, x0, f0, g1, g2, g3, g4⟩ := hx.get
  unfold T_is_instruction fnT
  walk_at "go"
  refine callX_none (w_opc ?_)
  rw [opc_at h1]
  walk_at "go"
  rw [cut1, cut1]
  refine forX_inv (fun j e o => j ≤ p ∧ ∃ y z, e = [some (.tup (.str n :: xs)), some (.int ((i : Int) + 1)), some (.tup (.str n :: fs)), y, z] ∧ o = os) ⟨Nat.zero_le _, _, _, rfl, rfl⟩ ?_ ?_ (fun _ _ _ _ => trivial)
  · rintro j w e o N hw ⟨hj, y, z, rfl, rfl⟩ hN
    obtain ⟨x, f, e1, e2, rfl⟩ := zipW_get hw
    walk_at "go"
    by_cases hjp : j = p
    · subst hjp
      rw [e1] at g1
      rw [e2] at g2
      cases g1
      cases g2
      refine callX_none (g3 _ _ _ ?_)
      walk_at "go"
      exact dropX_id h
    · obtain ⟨m, hm⟩ := g4 j x f (by omega) e1 e2
      refine callX_none (hm _ _ _ ?_)
      walk_at "go"
      exact hN _ _ _ (.refl _) ⟨by omega, _, _, rfl, rfl⟩
  · rintro e o ⟨hj, y, z, rfl, rfl⟩
    have q1 := (List.getElem?_eq_some_iff.mp g1).1
    have q2 := (List.getElem?_eq_some_iff.mp g2).1
    rw [zipW_len] at hj
    omega
/-! encode -/
def shOf : D → Int
  | .tup [_, _, .int s, _, _] => s
  | _ => 0
def encF : Int → List D → List Int → Int
  | w, f :: fs, n :: ns => encF (Builtin.bitOr w (n * 2 ^ (shOf f).toNat)) fs ns
  | w, _, _ => w
/-- fields by their kind, small numbers -/
def Sm (fs : List D) (ns : List Int) : Prop := ∀ (i : Nat) (f : D) (n : Int), fs[i]? = some f → ns[i]? = some n → (∃ lo hi s md off : Int, f = Fd lo hi s md off ∧ 0 ≤ s ∧ s ≤ 64) ∧ 0 ≤ n ∧ n < 1000000
theorem w_isT1 {i : Nat} {n : Str} {fs xs : List D} {ns : List Int} {os : Os} {k : D → Os → Prop} {kx : Kx} (h1 : FN[i]? = some n) (h2 : FF[i]? = some fs) (hx : AllOk CS xs fs ns)
    (hs : n = "loadx" ∨ n = "storex" → ∃ a e : Int, xs[2]? = some (.int a) ∧ xs[3]? = some (.int e) ∧ a + e ≤ 16384) (h : k (.bl true) os) : T_is_instruction CS [.tup (.str n :: xs)] os k kx :=
  w_isT h1 h2 hx (fun z => let ⟨a, e, ha, he, hae⟩ := hs z; ⟨a, e, ha, he, kB h (decide_eq_true hae)⟩) fun _ => h
theorem w_encT {i : Nat} {n : Str} {fs xs : List D} {ns : List Int} {os : Os} {k : D → Os → Prop} {kx : Kx} (h1 : FN[i]? = some n) (h2 : FF[i]? = some fs) (hx : AllOk CS xs fs ns) (hm : Sm fs ns)
    (hs : n = "loadx" ∨ n = "storex" → ∃ a e : Int, xs[2]? = some (.int a) ∧ xs[3]? = some (.int e) ∧ a + e ≤ 16384) (h : k (.int (encF (((i : Int) + 1) * 2 ^ 30) fs ns)) os) : T_encode CS [.tup (.str n :: xs)] os k kx := by
  have hl := hx.len
  have hmm := FM_at h1 h2
  have h4 := FF_len h2
  have hi : i < 18 := (List.getElem?_eq_some_iff.mp h1).1
  unfold T_encode fnT
  walk_at "go"
  refine callX_none (w_isT1 h1 h2 hx hs ?_)
  walk_at "go"
  refine callX_none (w_opc ?_)
  rw [opc_at h1]
  walk_at "go"
  rw [cut1, cut1]
  refine forX_inv (fun j e o => ∃ u y z, encF u (fs.drop j) (ns.drop j) = encF (((i : Int) + 1) * 2 ^ 30) fs ns ∧ e = [some (.tup (.str n :: xs)), some (.int ((i : Int) + 1)), some (.int u), y, z] ∧ o = os) ⟨_, _, _, rfl, rfl, rfl⟩ ?_ ?_ (fun _ _ _ _ => trivial)
  · rintro j w e o N hw ⟨u, y, z, hu, rfl, rfl⟩ hN
    obtain ⟨x, f, e1, e2, rfl⟩ := zipW_get hw
    obtain ⟨m, e3, hm2⟩ := hx.get e1 e2
    obtain ⟨⟨lo, hi, s, md, off, rfl, s0, s1⟩, m0, m1⟩ := hm j f m e2 e3
    walk_at "go"
    refine callX_none (hm2 _ _ _ ?_)
    walk_at "go"
    refine hN _ _ _ (.refl _) ⟨_, _, _, ?_, rfl, rfl⟩
    obtain ⟨q2, r2⟩ := List.getElem?_eq_some_iff.mp e2
    obtain ⟨q3, r3⟩ := List.getElem?_eq_some_iff.mp e3
    rw [← hu, List.drop_eq_getElem_cons q2, List.drop_eq_getElem_cons q3, r2, r3]
    rfl
  · rintro e o ⟨u, y, z, hu, rfl, rfl⟩
    walk_at "go"
    refine dropX_id (kI h ?_)
    rw [← hu, zipW_len, hl.1, Nat.min_self, List.drop_length]
    rfl
theorem w_encN {d : D} {os : Os} {k : D → Os → Prop} {kx : Kx} (hI : ∀ (os : Os) (k : D → Os → Prop) (kx : Kx), k (.bl false) os → T_is_instruction CS [d] os k kx) (h : ∀ o, kx ⟨CS 1, [(f_at, .int 0)]⟩ o) : T_encode CS [d] os k kx := by
  unfold T_encode fnT
  walk_at "go"
  refine callX_none (hI _ _ _ ?_)
  walk_at "go"
  exact dropE_id (h _)
/-! decode -/
def vlOf (w : Int) : D → D
  | .tup [.int lo, .int hi, .int s, .int md, .int off] => if [lo, hi, s, md, off] = [0, 16, 13, 32, 0] then .str (if w / 2 ^ 13 % 32 < 17 then CALC.getD (w / 2 ^ 13 % 32).toNat "" else "")
    else .int (if hi < w / 2 ^ s.toNat % md + off then w / 2 ^ s.toNat % md + off - md else w / 2 ^ s.toNat % md + off)
  | _ => .non
theorem atI_strs {ys : List Str} {i : Int} (h0 : 0 ≤ i) (h1 : i < ys.length) : atI (ys.map D.str) i = some (.str (ys.getD i.toNat "")) := by
  have hj : i.toNat < ys.length := by omega
  exact atI_some h0 (by simp [hj])
theorem w_valN {w : Int} {os : Os} {k : D → Os → Prop} {kx : Kx} (h : k (vlOf w NF) os) : T_value_of CS [.int w, NF] os k kx := by
  have hw : 0 ≤ w / 2 ^ 13 % 32 ∧ w / 2 ^ 13 % 32 < 32 := ⟨Int.emod_nonneg _ (by decide), Int.emod_lt_of_pos _ (by decide)⟩
  have em := PySem.W.kbt_mask (w / 2 ^ 13) 5
  unfold T_value_of fnT
  walk_at "go"
  refine ⟨_, _, .same _, .same _, shpFd5 _ _ _ _ _, shpFd5 _ _ _ _ _, ?_⟩
  rw [eqFd5, decide_eq_true rfl]
  walk_at "go"
  · rename_i hb
    change Builtin.bitAnd (w / 2 ^ 13) (2 ^ 5 - 1) < 17 at hb
    rw [em] at hb
    change w / 2 ^ 13 % 32 < 17 at hb
    refine ⟨_, (congrArg (atI (CALC.map D.str)) em).trans (atI_strs hw.1 hb), ?_⟩
    rw [vlOf, if_pos rfl, if_pos hb] at h
    exact dropX_id h
  · rename_i hb
    change ¬ Builtin.bitAnd (w / 2 ^ 13) (2 ^ 5 - 1) < 17 at hb
    rw [em] at hb
    change ¬ w / 2 ^ 13 % 32 < 17 at hb
    rw [vlOf, if_pos rfl, if_neg hb] at h
    exact dropX_id h
theorem w_valI {w lo hi s md off : Int} {os : Os} {k : D → Os → Prop} {kx : Kx} (b : Nat) (hm : md = 2 ^ b) (hn : ¬ [lo, hi, s, md, off] = [0, 16, 13, 32, 0]) (hs : 0 ≤ s) (h : k (vlOf w (Fd lo hi s md off)) os) : T_value_of CS [.int w, Fd lo hi s md off] os k kx := by
  have em := PySem.W.kbt_mask (w / 2 ^ s.toNat) b
  rw [← hm] at em
  rw [vlOf, if_neg hn] at h
  unfold T_value_of fnT
  walk_at "go"
  refine ⟨_, _, .same _, .same _, shpFd5 _ _ _ _ _, shpFd5 _ _ _ _ _, ?_⟩
  rw [eqFd5, decide_eq_false hn]
  walk_at "go"
  · rename_i hb
    rw [em] at hb ⊢
    rw [if_pos hb] at h
    exact dropX_id h
  · rename_i hb
    rw [em] at hb ⊢
    rw [if_neg hb] at h
    exact dropX_id h
/-- a field that decode knows -/
def FdOk (f : D) : Prop := f = NF ∨ ∃ (lo hi s md off : Int) (b : Nat), f = Fd lo hi s md off ∧ md = 2 ^ b ∧ ¬ [lo, hi, s, md, off] = [0, 16, 13, 32, 0] ∧ 0 ≤ s
theorem w_val {w : Int} {f : D} {os : Os} {k : D → Os → Prop} {kx : Kx} (hf : FdOk f) (h : k (vlOf w f) os) : T_value_of CS [.int w, f] os k kx := by
  rcases hf with rfl | ⟨lo, hi, s, md, off, b, rfl, h1, h2, h3⟩
  · exact w_valN h
  · exact w_valI b h1 h2 h3 h
theorem FF_ok : ∀ fs ∈ FF, ∀ f ∈ fs, FdOk f := by
  have a : ∀ {lo hi s md off : Int} (b : Nat), md = 2 ^ b → ¬ [lo, hi, s, md, off] = [0, 16, 13, 32, 0] → 0 ≤ s → FdOk (Fd lo hi s md off) := fun b h1 h2 h3 => .inr ⟨_, _, _, _, _, b, rfl, h1, h2, h3⟩
  have t : FdOk fT := a 4 (by decide) (by decide) (by decide)
  have l : FdOk fL := a 4 (by decide) (by decide) (by decide)
  have r : FdOk fR := a 4 (by decide) (by decide) (by decide)
  have s : FdOk fS := a 16 (by decide) (by decide) (by decide)
  have u : FdOk fU := a 16 (by decide) (by decide) (by decide)
  have d : FdOk fA := a 14 (by decide) (by decide) (by decide)
  have e : FdOk fE := a 6 (by decide) (by decide) (by decide)
  have p : FdOk fP := a 12 (by decide) (by decide) (by decide)
  have c : FdOk fC := a 8 (by decide) (by decide) (by decide)
  have o : FdOk fO := a 6 (by decide) (by decide) (by decide)
  have h : FdOk fH := a 4 (by decide) (by decide) (by decide)
  have q : FdOk fQ := a 4 (by decide) (by decide) (by decide)
  have n : FdOk NF := .inl rfl
  intro fs hfs f hf
  simp only [List.mem_cons, List.not_mem_nil, or_false] at hfs
  rcases hfs with rfl | rfl | rfl | rfl | rfl | rfl | rfl | rfl | rfl | rfl | rfl | rfl | rfl | rfl | rfl | rfl | rfl | rfl
  all_goals (simp only [List.mem_cons, List.not_mem_nil, or_false] at hf)
  all_goals (first | exact hf.elim | skip)
  all_goals (rcases hf with rfl | rfl | rfl | rfl | skip)
  all_goals (first | assumption | skip)
/-- decode, up to the last test -/
theorem w_dec {i : Nat} {n : Str} {fs : List D} {w : Int} {os : Os} {k : D → Os → Prop} {kx : Kx} (h1 : FN[i]? = some n) (h2 : FF[i]? = some fs) (hw0 : 0 ≤ w) (hw1 : w < 68719476736) (hi : w / 2 ^ 30 = (i : Int) + 1)
    (h : (∀ (os : Os) (k : D → Os → Prop) (kx : Kx), k (.bl true) os → T_is_instruction CS [.tup (.str n :: fs.map (vlOf w))] os k kx) ∧ (∃ v : Int, (∀ (os : Os) (k : D → Os → Prop) (kx : Kx), k (.int v) os → T_encode CS [.tup (.str n :: fs.map (vlOf w))] os k kx) ∧ (v = w → k (.tup (.str n :: fs.map (vlOf w))) os) ∧ (v ≠ w → ∀ o, kx ⟨CS 1, [(f_at, .int 0)]⟩ o)) ∨
      (∀ (os : Os) (k : D → Os → Prop) (kx : Kx), k (.bl false) os → T_is_instruction CS [.tup (.str n :: fs.map (vlOf w))] os k kx) ∧ ∀ o, kx ⟨CS 1, [(f_at, .int 0)]⟩ o) : T_decode CS [.int w] os k kx := by
  have hmm := FM_at h1 h2
  have h4 := FF_len h2
  have hok := FF_ok fs (List.mem_of_getElem? h2)
  have hi18 : i < 18 := (List.getElem?_eq_some_iff.mp h1).1
  have e30 : w / 2 ^ Int.toNat 30 = (i : Int) + 1 := hi
  unfold T_decode fnT
  walk_at "go"
  refine ⟨.tup (.str n :: fs), (congrArg (fun z => atI FM (z - 1)) e30).trans hmm, ?_⟩
  walk_at "go"
  rename_i p
  rw [cut1]
  refine forX_inv (fun j e o => ∃ x y z, e = [some (.int w), some (.int (w / 2 ^ Int.toNat 30)), some (.tup (.str n :: fs)), some (.ref p), x, y] ∧ o = (p, .lst (.str n :: (fs.take j).map (vlOf w))) :: os ∧ z = 0) ⟨_, _, _, rfl, rfl, rfl⟩ ?_ ?_ (fun _ _ _ _ => trivial)
  · rintro j f e o N hf ⟨x, y, z, rfl, rfl, _⟩ hN
    walk_at "go"
    refine callX_none (w_val (hok f (List.mem_of_getElem? hf)) ?_)
    have ht : (fs.take j).length ≤ 4 := by rw [List.length_take]; omega
    walk_at "go"
    refine hN _ _ _ (.refl _) ⟨_, _, 0, rfl, ?_, rfl⟩
    rw [List.take_succ, hf, List.map_append]
    rfl
  · rintro e o ⟨x, y, z, rfl, rfl, _⟩
    rw [List.take_length]
    walk_at "go"
    rcases h with ⟨hI, v, hE, hT, hF⟩ | ⟨hI, hF⟩
    · refine callX_none (hI _ _ _ ?_)
      walk_at "go"
      refine callX_none (hE _ _ _ ?_)
      walk_at "go"
      · rename_i hb
        exact dropE_id (hF hb _)
      · rename_i hb
        exact dropX_wk .drop1 (hT hb)
    · refine callX_none (hI _ _ _ ?_)
      walk_at "go"
      exact dropE_id (hF _)
theorem w_decR {w : Int} {os : Os} {k : D → Os → Prop} {kx : Kx} (hw : w < 0 ∨ 68719476736 ≤ w ∨ w / 2 ^ 30 < 1 ∨ 18 < w / 2 ^ 30) (h : ∀ o, kx ⟨CS 1, [(f_at, .int 0)]⟩ o) : T_decode CS [.int w] os k kx := by
  have e30 : w / 2 ^ Int.toNat 30 = w / 2 ^ 30 := rfl
  unfold T_decode fnT
  walk_at "go"
  trace_state
  all_goals first
    | exact dropE_id (h _)
    | (exfalso; omega)

end

section
variable {CS : Nat → Addr}
/-! the drawing state -/
def DSt (S : List D) : Prop := ∃ (ns : List Int) (a b c : Int), S = [.lst (ns.map D.int), .int a, .int b, .int c] ∧ 0 ≤ a ∧ 0 ≤ b ∧ 0 ≤ c
theorem absN (x : Int) : 0 ≤ (if x < 0 then -x else x) := by split <;> omega
theorem w_draw {p : Addr} {m : Int} {S : List D} {k : D → Os → Prop} {kx : Kx} (hm : 0 < m) (hm2 : m < 1000000000000000) (hS : DSt S) (h : ∀ (r : Int) (S' : List D), 0 ≤ r → r < m → DSt S' → k (.int r) [(p, .lst S')]) :
    T__law_draw CS [.ref p, .int m] [(p, .lst S)] k kx := by
  obtain ⟨ns, a, b, c, rfl, ha, hb, hc⟩ := hS
  have md : ∀ x : Int, 0 ≤ x % m ∧ x % m < m := fun x => ⟨Int.emod_nonneg _ (by omega), Int.emod_lt_of_pos _ hm⟩
  have dv : ∀ x : Int, 0 ≤ x → 0 ≤ x / m := fun x hx => Int.ediv_nonneg hx (by omega)
  unfold T__law_draw fnT
  walk_at "go"
  all_goals (refine dropX_id (h _ _ (md _).1 (md _).2 ⟨ns, _, _, _, rfl, ?_, ?_, ?_⟩))
  all_goals first
    | omega
    | exact dv _ (absN _)
    | exact dv _ (by omega)
theorem w_start {ns : List Int} {k : D → Os → Prop} {kx : Kx} (hn : ns.length ≤ 63) (h : ∀ (p : Addr) (S : List D), DSt S → k (.ref p) [(p, .lst S)]) :
    T__law_start CS [.lst (ns.map D.int)] [] k kx := by
  unfold T__law_start fnT
  walk_at "go"
  refine forX_inv (fun i en o => ∃ (x : Int) (y : Option D), 0 ≤ x ∧ x < 1000003 ∧ en = [some (.lst (ns.map D.int)), some (.int x), y] ∧ o = []) ⟨7, _, by omega, by omega, rfl, rfl⟩ ?_ ?_ (fun _ _ _ _ => trivial)
  · rintro i w en o N hw ⟨x, y, h0, h1, rfl, rfl⟩ hN
    rw [List.getElem?_map] at hw
    obtain ⟨z, _, rfl⟩ := Option.map_eq_some_iff.mp hw
    walk_at "go"
    exact hN _ _ _ (.refl _) ⟨_, _, by omega, by omega, rfl, rfl⟩
  · rintro en o ⟨x, y, h0, h1, rfl, rfl⟩
    walk_at "go"
    exact dropX_id (h _ _ ⟨ns, _, _, _, rfl, by omega, by omega, by omega⟩)

inductive Kc | r | s | t | k | g | u | a | e | f | p | c | o | q
def Kc.str : Kc → Str
  | .r => "r" | .s => "s" | .t => "t" | .k => "k" | .g => "g" | .u => "u" | .a => "a" | .e => "e" | .f => "f" | .p => "p" | .c => "c" | .o => "o" | .q => "q"
def Kc.sc : Kc → Int
  | .r => 67108864 | .s => 4194304 | .t => 262144 | .k => 8192 | .e => 16384 | .c => 4194304 | _ => 1
def Kc.mn : Kc → Int
  | .r => 16 | .s => 16 | .t => 16 | .k => 32 | .g => 65536 | .u => 65536 | .a => 16384 | .e => 64 | .f => 64 | .p => 4096 | .c => 256 | _ => 16
def Kc.gr : Kc → Int
  | .r => 8 | .s => 8 | .t => 8 | .k => 16 | .o => 3 | .q => 7 | _ => 65535
theorem w_place {c : Kc} {os : Os} {k : D → Os → Prop} {kx : Kx} (h : k (.tup [.int c.sc, .int c.mn]) os) : T__law_place CS [.str c.str] os k kx := by
  unfold T__law_place fnT
  cases c
  all_goals (walk_at "go")
  all_goals exact dropX_id h
theorem w_great {c : Kc} {os : Os} {k : D → Os → Prop} {kx : Kx} (h : k (.int c.gr) os) : T__law_greatest CS [.str c.str] os k kx := by
  unfold T__law_greatest fnT
  cases c
  all_goals (walk_at "go")
  all_goals exact dropX_id h
abbrev SHP : List (List Kc) := [[.r, .g], [.r, .u], [.k, .r, .s, .t], [.r, .a], [.r, .a], [.r, .s, .a, .e], [.r, .s, .a, .e], [.p], [.r, .p], [.c, .f], [.c, .p], [.p], [], [], [.o], [.o], [.r, .q], [.r, .q]]
abbrev STX : List Str := ["rg", "ru", "krst", "ra", "ra", "rsae", "rsae", "p", "rp", "cf", "cp", "p", "", "", "o", "o", "rq", "rq"]
abbrev kcs (cs : List Kc) : List D := cs.map fun c => .str c.str
theorem stx_chs : ∀ (i : Nat) (x : Str) (cs : List Kc), STX[i]? = some x → SHP[i]? = some cs → chs x = kcs cs := by
  intro i x cs h1 h2
  have hi : i < 18 := (List.getElem?_eq_some_iff.mp h1).1
  rcases (by omega : i = 0 ∨ i = 1 ∨ i = 2 ∨ i = 3 ∨ i = 4 ∨ i = 5 ∨ i = 6 ∨ i = 7 ∨ i = 8 ∨ i = 9 ∨ i = 10 ∨ i = 11 ∨ i = 12 ∨ i = 13 ∨ i = 14 ∨ i = 15 ∨ i = 16 ∨ i = 17) with rfl | rfl | rfl | rfl | rfl | rfl | rfl | rfl | rfl | rfl | rfl | rfl | rfl | rfl | rfl | rfl | rfl | rfl
  all_goals (cases h1; cases h2; rfl)
theorem w_shape {m : Int} {os : Os} {k : D → Os → Prop} {kx : Kx} (h0 : 1 ≤ m) (h1 : m ≤ 18) (h : ∀ x, STX[(m - 1).toNat]? = some x → k (.str x) os) : T__law_shape CS [.int m] os k kx := by
  have hj : (m - 1).toNat < STX.length := by have : STX.length = 18 := rfl; omega
  have e := List.getElem?_eq_getElem hj
  have ea : atI (STX.map D.str) (m - 1) = some (.str STX[(m - 1).toNat]) := atI_some (by omega) (by rw [List.getElem?_map, e]; rfl)
  unfold T__law_shape fnT
  walk_at "go"
  exact dropX_id (h _ e)
theorem w_nam {m : Int} {os : Os} {k : D → Os → Prop} {kx : Kx} (h0 : 1 ≤ m) (h1 : m ≤ 18) (h : ∀ x, FN[(m - 1).toNat]? = some x → k (.str x) os) : T__law_name CS [.int m] os k kx := by
  have hj : (m - 1).toNat < FN.length := by have : FN.length = 18 := rfl; omega
  have e := List.getElem?_eq_getElem hj
  have ea : atI (FN.map D.str) (m - 1) = some (.str FN[(m - 1).toNat]) := atI_some (by omega) (by rw [List.getElem?_map, e]; rfl)
  unfold T__law_name fnT
  walk_at "go"
  exact dropX_id (h _ e)
theorem w_op {m : Int} {os : Os} {k : D → Os → Prop} {kx : Kx} (h0 : 0 ≤ m) (h1 : m < 17) (h : k (.str (CALC.getD m.toNat "")) os) : T__law_operation CS [.int m] os k kx := by
  have ea : atI (CALC.map D.str) m = some (.str (CALC.getD m.toNat "")) := atI_strs h0 h1
  unfold T__law_operation fnT
  walk_at "go"
  exact dropX_id h
theorem Kc.bd (c : Kc) : 0 < c.sc ∧ c.sc < 100000000 ∧ 0 < c.mn ∧ c.mn < 100000 ∧ 0 ≤ c.gr ∧ c.gr < 100000 := by cases c <;> decide
theorem seven {m : Int} (h0 : 0 ≤ m) (h1 : m < 7) : ∃ u : Int, atI [D.int 1, D.int 64, D.int 4096, D.int 16384, D.int 262144, D.int 4194304, D.int 33554432] m = some (.int u) := by
  rcases (by omega : m = 0 ∨ m = 1 ∨ m = 2 ∨ m = 3 ∨ m = 4 ∨ m = 5 ∨ m = 6) with rfl | rfl | rfl | rfl | rfl | rfl | rfl
  all_goals exact ⟨_, rfl⟩
theorem w_word {p : Addr} {T : List D} {k : D → Os → Prop} {kx : Kx} (hT : DSt T) (h : ∀ v T, DSt T → k (.int v) [(p, .lst T)]) : T__law_word CS [.ref p] [(p, .lst T)] k kx := by
  unfold T__law_word fnT
  walk_at "go"
  refine callX_all (w_draw (by omega) (by omega) hT fun m T ma mb hT => ?_)
  walk_at "go"
  · refine callX_all (w_draw (by omega) (by omega) hT fun m2 T m2a m2b hT => ?_)
    walk_at "go"
    exact dropX_id (h _ _ hT)
  · refine callX_all (w_draw (by omega) (by omega) hT fun m2 T m2a m2b hT => ?_)
    walk_at "go"
    · refine callX_all (w_draw (by omega) (by omega) hT fun m3 T m3a m3b hT => ?_)
      walk_at "go"
      exact dropX_id (h _ _ hT)
    all_goals (
      refine callX_none (w_shape (by omega) (by omega) fun x hx => ?_)
      walk_at "go"
      have hlt := (List.getElem?_eq_some_iff.mp hx).1
      obtain ⟨cs, hcs⟩ : ∃ cs, SHP[_]? = some cs := ⟨_, List.getElem?_eq_getElem (show _ < SHP.length from hlt)⟩
      rw [stx_chs _ _ _ hx hcs]
      refine forX_inv (fun i e o => ∃ (v : Int) (T : List D) (y1 y2 y4 y5 y6 y7 : Option D), DSt T ∧ e = [some (.ref p), some (.int m), y2, some (.int v), y4, y5, y6, y7] ∧ o = [(p, .lst T)]) ⟨_, _, none, _, _, _, _, _, hT, rfl, rfl⟩ ?_ ?_ (fun _ _ _ _ => trivial)
      · rintro i w e o N hw ⟨v, T, y1, y2, y4, y5, y6, y7, hT, rfl, rfl⟩ hN
        rw [List.getElem?_map] at hw
        obtain ⟨c, _, rfl⟩ := Option.map_eq_some_iff.mp hw
        obtain ⟨b1, b2, b3, b4, b5, b6⟩ := c.bd
        walk_at "go"
        refine callX_none (w_place ?_)
        walk_at "go"
        refine callX_none (w_great ?_)
        walk_at "go"
        refine callX_all (w_draw (by split <;> omega) (by split <;> omega) hT fun m3 T m3a m3b hT => ?_)
        have m3c : m3 < 100000 := by split at m3b <;> omega
        walk_at "go"
        exact hN _ _ _ (.refl _) ⟨_, _, none, _, _, _, _, _, hT, rfl, rfl⟩
      · rintro e o ⟨v, T, y1, y2, y4, y5, y6, y7, hT, rfl, rfl⟩
        walk_at "go"
        · refine callX_all (w_draw (by omega) (by omega) hT fun m4 T m4a m4b hT => ?_)
          obtain ⟨u, hu⟩ := seven m4a m4b
          walk_at "go"
          exact dropX_id (h _ _ hT)
        · exact dropX_id (h _ _ hT))

end

section
variable {CS : Nat → Addr}
theorem w_placeL {c : Kc} {a b : Int} {os : Os} {k : D → Os → Prop} {kx : Kx} (ha : c.sc = a) (hb : c.mn = b) (h : k (.tup [.int a, .int b]) os) : T__law_place CS [.str c.str] os k kx := by
  subst ha hb; exact w_place h
theorem w_greatL {c : Kc} {a : Int} {os : Os} {k : D → Os → Prop} {kx : Kx} (ha : c.gr = a) (h : k (.int a) os) : T__law_greatest CS [.str c.str] os k kx := by
  subst ha; exact w_great h
def Hid (p : Prop) : Prop := p
theorem pt_ae (x : Int) : (x - x / 1 % 16384 * 1) / 16384 % 64 = x / 16384 % 64 := by omega
theorem pt_cf (x : Int) : (x - x / 4194304 % 256 * 4194304) / 1 % 64 = x / 1 % 64 := by omega
theorem pt_cp (x : Int) : (x - x / 4194304 % 256 * 4194304) / 1 % 4096 = x / 1 % 4096 := by omega
theorem pt_kr (x : Int) : (x - x / 8192 % 32 * 8192) / 67108864 % 16 = x / 67108864 % 16 := by omega
theorem pt_ks (x : Int) : (x - x / 8192 % 32 * 8192) / 4194304 % 16 = x / 4194304 % 16 := by omega
theorem pt_kt (x : Int) : (x - x / 8192 % 32 * 8192) / 262144 % 16 = x / 262144 % 16 := by omega
theorem pt_ra (x : Int) : (x - x / 67108864 % 16 * 67108864) / 1 % 16384 = x / 1 % 16384 := by omega
theorem pt_re (x : Int) : (x - x / 67108864 % 16 * 67108864) / 16384 % 64 = x / 16384 % 64 := by omega
theorem pt_rg (x : Int) : (x - x / 67108864 % 16 * 67108864) / 1 % 65536 = x / 1 % 65536 := by omega
theorem pt_rp (x : Int) : (x - x / 67108864 % 16 * 67108864) / 1 % 4096 = x / 1 % 4096 := by omega
theorem pt_rq (x : Int) : (x - x / 67108864 % 16 * 67108864) / 1 % 16 = x / 1 % 16 := by omega
theorem pt_rs (x : Int) : (x - x / 67108864 % 16 * 67108864) / 4194304 % 16 = x / 4194304 % 16 := by omega
theorem pt_rt (x : Int) : (x - x / 67108864 % 16 * 67108864) / 262144 % 16 = x / 262144 % 16 := by omega
theorem pt_ru (x : Int) : (x - x / 67108864 % 16 * 67108864) / 1 % 65536 = x / 1 % 65536 := by omega
theorem pt_sa (x : Int) : (x - x / 4194304 % 16 * 4194304) / 1 % 16384 = x / 1 % 16384 := by omega
theorem pt_se (x : Int) : (x - x / 4194304 % 16 * 4194304) / 16384 % 64 = x / 16384 % 64 := by omega
theorem pt_st (x : Int) : (x - x / 4194304 % 16 * 4194304) / 262144 % 16 = x / 262144 % 16 := by omega
def Gd0 (r : Int) : Prop := (r / 67108864 % 16) ≤ 8 ∧ (r / 67108864 % 16) * 67108864 + (r % 65536) * 1 = r
def Tp0 (r : Int) : D := .tup [.str "set", .int (r / 67108864 % 16), .int (if 32767 < (r % 65536) then (r % 65536) - 65536 else (r % 65536))]
def Gd1 (r : Int) : Prop := (r / 67108864 % 16) ≤ 8 ∧ (r / 67108864 % 16) * 67108864 + (r % 65536) * 1 = r
def Tp1 (r : Int) : D := .tup [.str "high", .int (r / 67108864 % 16), .int (r % 65536)]
def Gd2 (r : Int) : Prop := (r / 8192 % 32) ≤ 16 ∧ (r / 67108864 % 16) ≤ 8 ∧ (r / 4194304 % 16) ≤ 8 ∧ (r / 262144 % 16) ≤ 8 ∧ (r / 8192 % 32) * 8192 + (r / 67108864 % 16) * 67108864 + (r / 4194304 % 16) * 4194304 + (r / 262144 % 16) * 262144 = r
def Tp2 (r : Int) : D := .tup [.str "calc", .str (CALC.getD (r / 8192 % 32).toNat ""), .int (r / 67108864 % 16), .int (r / 4194304 % 16), .int (r / 262144 % 16)]
def Gd3 (r : Int) : Prop := (r / 67108864 % 16) ≤ 8 ∧ (r / 67108864 % 16) * 67108864 + (r % 16384) * 1 = r
def Tp3 (r : Int) : D := .tup [.str "load", .int (r / 67108864 % 16), .int (r % 16384)]
def Gd4 (r : Int) : Prop := (r / 67108864 % 16) ≤ 8 ∧ (r / 67108864 % 16) * 67108864 + (r % 16384) * 1 = r
def Tp4 (r : Int) : D := .tup [.str "store", .int (r / 67108864 % 16), .int (r % 16384)]
def Gd5 (r : Int) : Prop := (r / 67108864 % 16) ≤ 8 ∧ (r / 4194304 % 16) ≤ 8 ∧ (r / 67108864 % 16) * 67108864 + (r / 4194304 % 16) * 4194304 + (r % 16384) * 1 + (r / 16384 % 64) * 16384 = r ∧ (r % 16384) + ((r / 16384 % 64) + 1) ≤ 16384
def Tp5 (r : Int) : D := .tup [.str "loadx", .int (r / 67108864 % 16), .int (r / 4194304 % 16), .int (r % 16384), .int ((r / 16384 % 64) + 1)]
def Gd6 (r : Int) : Prop := (r / 67108864 % 16) ≤ 8 ∧ (r / 4194304 % 16) ≤ 8 ∧ (r / 67108864 % 16) * 67108864 + (r / 4194304 % 16) * 4194304 + (r % 16384) * 1 + (r / 16384 % 64) * 16384 = r ∧ (r % 16384) + ((r / 16384 % 64) + 1) ≤ 16384
def Tp6 (r : Int) : D := .tup [.str "storex", .int (r / 67108864 % 16), .int (r / 4194304 % 16), .int (r % 16384), .int ((r / 16384 % 64) + 1)]
def Gd7 (r : Int) : Prop := (r % 4096) * 1 = r
def Tp7 (r : Int) : D := .tup [.str "jump", .int (r % 4096)]
def Gd8 (r : Int) : Prop := (r / 67108864 % 16) ≤ 8 ∧ (r / 67108864 % 16) * 67108864 + (r % 4096) * 1 = r
def Tp8 (r : Int) : D := .tup [.str "jzero", .int (r / 67108864 % 16), .int (r % 4096)]
def Gd9 (r : Int) : Prop := (r / 4194304 % 256) * 4194304 + (r % 64) * 1 = r
def Tp9 (r : Int) : D := .tup [.str "count", .int (r / 4194304 % 256), .int ((r % 64) + 1)]
def Gd10 (r : Int) : Prop := (r / 4194304 % 256) * 4194304 + (r % 4096) * 1 = r
def Tp10 (r : Int) : D := .tup [.str "again", .int (r / 4194304 % 256), .int (r % 4096)]
def Gd11 (r : Int) : Prop := (r % 4096) * 1 = r
def Tp11 (r : Int) : D := .tup [.str "link", .int (r % 4096)]
def Gd12 (r : Int) : Prop := 0 = r
def Tp12 (r : Int) : D := .tup [.str "back"]
def Gd13 (r : Int) : Prop := 0 = r
def Tp13 (r : Int) : D := .tup [.str "done"]
def Gd14 (r : Int) : Prop := (r % 16) ≤ 3 ∧ (r % 16) * 1 = r
def Tp14 (r : Int) : D := .tup [.str "enter", .int (r % 16)]
def Gd15 (r : Int) : Prop := (r % 16) ≤ 3 ∧ (r % 16) * 1 = r
def Tp15 (r : Int) : D := .tup [.str "leave", .int (r % 16)]
def Gd16 (r : Int) : Prop := (r / 67108864 % 16) ≤ 8 ∧ (r % 16) ≤ 7 ∧ (r / 67108864 % 16) * 67108864 + (r % 16) * 1 = r
def Tp16 (r : Int) : D := .tup [.str "in", .int (r / 67108864 % 16), .int (r % 16)]
def Gd17 (r : Int) : Prop := (r / 67108864 % 16) ≤ 8 ∧ (r % 16) ≤ 7 ∧ (r / 67108864 % 16) * 67108864 + (r % 16) * 1 = r
def Tp17 (r : Int) : D := .tup [.str "out", .int (r / 67108864 % 16), .int (r % 16)]
theorem exp_0 {w : Int} {k : D → Os → Prop} {kx : Kx} (h0 : 0 ≤ w) (h1 : w < 68719476736) (hop : w / 1073741824 = 1) (hT : Gd0 (w % 1073741824) → k (Tp0 (w % 1073741824)) []) (hF : ¬ Gd0 (w % 1073741824) → k .non []) : T__law_expected CS [.int w] [] k kx := by
  unfold T__law_expected fnT
  walk_at "go"
  rw [hop]
  have c0 : 0 ≤ w % 1073741824 ∧ w % 1073741824 < 1073741824 := by omega
  generalize w % 1073741824 = r0 at hT hF c0 ⊢
  clear h0 h1 hop
  refine callX_none (w_nam (by omega) (by omega) fun x hx => ?_)
  cases hx
  walk_at "go"
  refine callX_none (w_shape (by omega) (by omega) fun x hx => ?_)
  cases hx
  walk_at "go"
  rw [stx_chs 0 _ [.r, .g] rfl rfl]
  rw [show kcs [.r, .g] = ([D.str Kc.r.str, D.str Kc.g.str] : List D) from rfl]
  try dsimp only [setE, startE]
  refine forX_cons ?_
  walk_at "go"
  refine callX_none (w_placeL (c := .r) (a := 67108864) (b := 16) rfl rfl ?_)
  walk_at "go"
  have e0 : r0 / 67108864 % 16 = r0 / 67108864 % 16 := by
    rfl
  have b0 : 0 ≤ r0 / 67108864 % 16 ∧ r0 / 67108864 % 16 < 16 := by omega
  generalize hr1 : r0 - r0 / 67108864 % 16 * 67108864 = r1
  have c1 : 0 ≤ r1 ∧ r1 < 1073741824 := by omega
  rw [e0] at b0 ⊢
  have hs1 : r1 = r0 - r0 / 67108864 % 16 * 67108864 := by rw [← e0]; exact hr1.symm
  generalize hq0 : r0 / 67108864 % 16 = q0 at b0 hs1 ⊢
  replace hq0 : Hid (r0 / 67108864 % 16 = q0) := hq0
  clear e0
  try dsimp only [setE, startE]
  refine callX_none (w_greatL (c := .r) (a := 8) rfl ?_)
  walk_at "go"
  · rename_i hb
    exact dropX_wk .drop1 (hF (fun z => by unfold Gd0 at z; unfold Hid at *; omega))
  try dsimp only [setE, startE]
  refine forX_cons ?_
  walk_at "go"
  refine callX_none (w_placeL (c := .g) (a := 1) (b := 65536) rfl rfl ?_)
  walk_at "go"
  have e1 : r1 / 1 % 65536 = r0 % 65536 := by
    rw [← hr1, pt_rg, Int.ediv_one]
  have b1 : 0 ≤ r1 / 1 % 65536 ∧ r1 / 1 % 65536 < 65536 := by omega
  generalize hr2 : r1 - r1 / 1 % 65536 * 1 = r2
  have c2 : 0 ≤ r2 ∧ r2 < 1073741824 := by omega
  rw [e1] at b1 ⊢
  have hs2 : r2 = r1 - r0 % 65536 * 1 := by rw [← e1]; exact hr2.symm
  generalize hq1 : r0 % 65536 = q1 at b1 hs2 ⊢
  replace hq1 : Hid (r0 % 65536 = q1) := hq1
  clear e1
  try dsimp only [setE, startE]
  refine callX_none (w_greatL (c := .g) (a := 65535) rfl ?_)
  walk_at "go"
  all_goals (
    refine forX_nil ?_
    walk_at "go"
    all_goals (unfold Hid at *)
    all_goals first
      | exact dropX_wk .drop1 (hF (fun z => by unfold Gd0 at z; omega))
      | (refine dropX_wk .drop1 (kD (hT (by unfold Gd0; omega)) ?_); simp [Tp0, *]; done)
      | skip)
theorem exp_1 {w : Int} {k : D → Os → Prop} {kx : Kx} (h0 : 0 ≤ w) (h1 : w < 68719476736) (hop : w / 1073741824 = 2) (hT : Gd1 (w % 1073741824) → k (Tp1 (w % 1073741824)) []) (hF : ¬ Gd1 (w % 1073741824) → k .non []) : T__law_expected CS [.int w] [] k kx := by
  unfold T__law_expected fnT
  walk_at "go"
  rw [hop]
  have c0 : 0 ≤ w % 1073741824 ∧ w % 1073741824 < 1073741824 := by omega
  generalize w % 1073741824 = r0 at hT hF c0 ⊢
  clear h0 h1 hop
  refine callX_none (w_nam (by omega) (by omega) fun x hx => ?_)
  cases hx
  walk_at "go"
  refine callX_none (w_shape (by omega) (by omega) fun x hx => ?_)
  cases hx
  walk_at "go"
  rw [stx_chs 1 _ [.r, .u] rfl rfl]
  rw [show kcs [.r, .u] = ([D.str Kc.r.str, D.str Kc.u.str] : List D) from rfl]
  try dsimp only [setE, startE]
  refine forX_cons ?_
  walk_at "go"
  refine callX_none (w_placeL (c := .r) (a := 67108864) (b := 16) rfl rfl ?_)
  walk_at "go"
  have e0 : r0 / 67108864 % 16 = r0 / 67108864 % 16 := by
    rfl
  have b0 : 0 ≤ r0 / 67108864 % 16 ∧ r0 / 67108864 % 16 < 16 := by omega
  generalize hr1 : r0 - r0 / 67108864 % 16 * 67108864 = r1
  have c1 : 0 ≤ r1 ∧ r1 < 1073741824 := by omega
  rw [e0] at b0 ⊢
  have hs1 : r1 = r0 - r0 / 67108864 % 16 * 67108864 := by rw [← e0]; exact hr1.symm
  generalize hq0 : r0 / 67108864 % 16 = q0 at b0 hs1 ⊢
  replace hq0 : Hid (r0 / 67108864 % 16 = q0) := hq0
  clear e0
  try dsimp only [setE, startE]
  refine callX_none (w_greatL (c := .r) (a := 8) rfl ?_)
  walk_at "go"
  · rename_i hb
    exact dropX_wk .drop1 (hF (fun z => by unfold Gd1 at z; unfold Hid at *; omega))
  try dsimp only [setE, startE]
  refine forX_cons ?_
  walk_at "go"
  refine callX_none (w_placeL (c := .u) (a := 1) (b := 65536) rfl rfl ?_)
  walk_at "go"
  have e1 : r1 / 1 % 65536 = r0 % 65536 := by
    rw [← hr1, pt_ru, Int.ediv_one]
  have b1 : 0 ≤ r1 / 1 % 65536 ∧ r1 / 1 % 65536 < 65536 := by omega
  generalize hr2 : r1 - r1 / 1 % 65536 * 1 = r2
  have c2 : 0 ≤ r2 ∧ r2 < 1073741824 := by omega
  rw [e1] at b1 ⊢
  have hs2 : r2 = r1 - r0 % 65536 * 1 := by rw [← e1]; exact hr2.symm
  generalize hq1 : r0 % 65536 = q1 at b1 hs2 ⊢
  replace hq1 : Hid (r0 % 65536 = q1) := hq1
  clear e1
  try dsimp only [setE, startE]
  refine callX_none (w_greatL (c := .u) (a := 65535) rfl ?_)
  walk_at "go"
  all_goals (
    refine forX_nil ?_
    walk_at "go"
    all_goals (unfold Hid at *)
    all_goals first
      | exact dropX_wk .drop1 (hF (fun z => by unfold Gd1 at z; omega))
      | (refine dropX_wk .drop1 (kD (hT (by unfold Gd1; omega)) ?_); simp [Tp1, *]; done)
      | skip)
theorem exp_2 {w : Int} {k : D → Os → Prop} {kx : Kx} (h0 : 0 ≤ w) (h1 : w < 68719476736) (hop : w / 1073741824 = 3) (hT : Gd2 (w % 1073741824) → k (Tp2 (w % 1073741824)) []) (hF : ¬ Gd2 (w % 1073741824) → k .non []) : T__law_expected CS [.int w] [] k kx := by
  unfold T__law_expected fnT
  walk_at "go"
  rw [hop]
  have c0 : 0 ≤ w % 1073741824 ∧ w % 1073741824 < 1073741824 := by omega
  generalize w % 1073741824 = r0 at hT hF c0 ⊢
  clear h0 h1 hop
  refine callX_none (w_nam (by omega) (by omega) fun x hx => ?_)
  cases hx
  walk_at "go"
  refine callX_none (w_shape (by omega) (by omega) fun x hx => ?_)
  cases hx
  walk_at "go"
  rw [stx_chs 2 _ [.k, .r, .s, .t] rfl rfl]
  rw [show kcs [.k, .r, .s, .t] = ([D.str Kc.k.str, D.str Kc.r.str, D.str Kc.s.str, D.str Kc.t.str] : List D) from rfl]
  try dsimp only [setE, startE]
  refine forX_cons ?_
  walk_at "go"
  refine callX_none (w_placeL (c := .k) (a := 8192) (b := 32) rfl rfl ?_)
  walk_at "go"
  have e0 : r0 / 8192 % 32 = r0 / 8192 % 32 := by
    rfl
  have b0 : 0 ≤ r0 / 8192 % 32 ∧ r0 / 8192 % 32 < 32 := by omega
  generalize hr1 : r0 - r0 / 8192 % 32 * 8192 = r1
  have c1 : 0 ≤ r1 ∧ r1 < 1073741824 := by omega
  rw [e0] at b0 ⊢
  have hs1 : r1 = r0 - r0 / 8192 % 32 * 8192 := by rw [← e0]; exact hr1.symm
  generalize hq0 : r0 / 8192 % 32 = q0 at b0 hs1 ⊢
  replace hq0 : Hid (r0 / 8192 % 32 = q0) := hq0
  clear e0
  try dsimp only [setE, startE]
  refine callX_none (w_greatL (c := .k) (a := 16) rfl ?_)
  walk_at "go"
  · rename_i hb
    exact dropX_wk .drop1 (hF (fun z => by unfold Gd2 at z; unfold Hid at *; omega))
  refine callX_none (w_op (by omega) (by omega) ?_)
  walk_at "go"
  try dsimp only [setE, startE]
  refine forX_cons ?_
  walk_at "go"
  refine callX_none (w_placeL (c := .r) (a := 67108864) (b := 16) rfl rfl ?_)
  walk_at "go"
  have e1 : r1 / 67108864 % 16 = r0 / 67108864 % 16 := by
    rw [← hr1, pt_kr]
  have b1 : 0 ≤ r1 / 67108864 % 16 ∧ r1 / 67108864 % 16 < 16 := by omega
  generalize hr2 : r1 - r1 / 67108864 % 16 * 67108864 = r2
  have c2 : 0 ≤ r2 ∧ r2 < 1073741824 := by omega
  rw [e1] at b1 ⊢
  have hs2 : r2 = r1 - r0 / 67108864 % 16 * 67108864 := by rw [← e1]; exact hr2.symm
  generalize hq1 : r0 / 67108864 % 16 = q1 at b1 hs2 ⊢
  replace hq1 : Hid (r0 / 67108864 % 16 = q1) := hq1
  clear e1
  try dsimp only [setE, startE]
  refine callX_none (w_greatL (c := .r) (a := 8) rfl ?_)
  walk_at "go"
  · rename_i hb
    exact dropX_wk .drop1 (hF (fun z => by unfold Gd2 at z; unfold Hid at *; omega))
  try dsimp only [setE, startE]
  refine forX_cons ?_
  walk_at "go"
  refine callX_none (w_placeL (c := .s) (a := 4194304) (b := 16) rfl rfl ?_)
  walk_at "go"
  have e2 : r2 / 4194304 % 16 = r0 / 4194304 % 16 := by
    rw [← hr2, pt_rs, ← hr1, pt_ks]
  have b2 : 0 ≤ r2 / 4194304 % 16 ∧ r2 / 4194304 % 16 < 16 := by omega
  generalize hr3 : r2 - r2 / 4194304 % 16 * 4194304 = r3
  have c3 : 0 ≤ r3 ∧ r3 < 1073741824 := by omega
  rw [e2] at b2 ⊢
  have hs3 : r3 = r2 - r0 / 4194304 % 16 * 4194304 := by rw [← e2]; exact hr3.symm
  generalize hq2 : r0 / 4194304 % 16 = q2 at b2 hs3 ⊢
  replace hq2 : Hid (r0 / 4194304 % 16 = q2) := hq2
  clear e2
  try dsimp only [setE, startE]
  refine callX_none (w_greatL (c := .s) (a := 8) rfl ?_)
  walk_at "go"
  · rename_i hb
    exact dropX_wk .drop1 (hF (fun z => by unfold Gd2 at z; unfold Hid at *; omega))
  try dsimp only [setE, startE]
  refine forX_cons ?_
  walk_at "go"
  refine callX_none (w_placeL (c := .t) (a := 262144) (b := 16) rfl rfl ?_)
  walk_at "go"
  have e3 : r3 / 262144 % 16 = r0 / 262144 % 16 := by
    rw [← hr3, pt_st, ← hr2, pt_rt, ← hr1, pt_kt]
  have b3 : 0 ≤ r3 / 262144 % 16 ∧ r3 / 262144 % 16 < 16 := by omega
  generalize hr4 : r3 - r3 / 262144 % 16 * 262144 = r4
  have c4 : 0 ≤ r4 ∧ r4 < 1073741824 := by omega
  rw [e3] at b3 ⊢
  have hs4 : r4 = r3 - r0 / 262144 % 16 * 262144 := by rw [← e3]; exact hr4.symm
  generalize hq3 : r0 / 262144 % 16 = q3 at b3 hs4 ⊢
  replace hq3 : Hid (r0 / 262144 % 16 = q3) := hq3
  clear e3
  try dsimp only [setE, startE]
  refine callX_none (w_greatL (c := .t) (a := 8) rfl ?_)
  walk_at "go"
  · rename_i hb
    exact dropX_wk .drop1 (hF (fun z => by unfold Gd2 at z; unfold Hid at *; omega))
  all_goals (
    refine forX_nil ?_
    walk_at "go"
    all_goals (unfold Hid at *)
    all_goals first
      | exact dropX_wk .drop1 (hF (fun z => by unfold Gd2 at z; omega))
      | (refine dropX_wk .drop1 (kD (hT (by unfold Gd2; omega)) ?_); simp [Tp2, *]; done)
      | skip)
theorem exp_3 {w : Int} {k : D → Os → Prop} {kx : Kx} (h0 : 0 ≤ w) (h1 : w < 68719476736) (hop : w / 1073741824 = 4) (hT : Gd3 (w % 1073741824) → k (Tp3 (w % 1073741824)) []) (hF : ¬ Gd3 (w % 1073741824) → k .non []) : T__law_expected CS [.int w] [] k kx := by
  unfold T__law_expected fnT
  walk_at "go"
  rw [hop]
  have c0 : 0 ≤ w % 1073741824 ∧ w % 1073741824 < 1073741824 := by omega
  generalize w % 1073741824 = r0 at hT hF c0 ⊢
  clear h0 h1 hop
  refine callX_none (w_nam (by omega) (by omega) fun x hx => ?_)
  cases hx
  walk_at "go"
  refine callX_none (w_shape (by omega) (by omega) fun x hx => ?_)
  cases hx
  walk_at "go"
  rw [stx_chs 3 _ [.r, .a] rfl rfl]
  rw [show kcs [.r, .a] = ([D.str Kc.r.str, D.str Kc.a.str] : List D) from rfl]
  try dsimp only [setE, startE]
  refine forX_cons ?_
  walk_at "go"
  refine callX_none (w_placeL (c := .r) (a := 67108864) (b := 16) rfl rfl ?_)
  walk_at "go"
  have e0 : r0 / 67108864 % 16 = r0 / 67108864 % 16 := by
    rfl
  have b0 : 0 ≤ r0 / 67108864 % 16 ∧ r0 / 67108864 % 16 < 16 := by omega
  generalize hr1 : r0 - r0 / 67108864 % 16 * 67108864 = r1
  have c1 : 0 ≤ r1 ∧ r1 < 1073741824 := by omega
  rw [e0] at b0 ⊢
  have hs1 : r1 = r0 - r0 / 67108864 % 16 * 67108864 := by rw [← e0]; exact hr1.symm
  generalize hq0 : r0 / 67108864 % 16 = q0 at b0 hs1 ⊢
  replace hq0 : Hid (r0 / 67108864 % 16 = q0) := hq0
  clear e0
  try dsimp only [setE, startE]
  refine callX_none (w_greatL (c := .r) (a := 8) rfl ?_)
  walk_at "go"
  · rename_i hb
    exact dropX_wk .drop1 (hF (fun z => by unfold Gd3 at z; unfold Hid at *; omega))
  try dsimp only [setE, startE]
  refine forX_cons ?_
  walk_at "go"
  refine callX_none (w_placeL (c := .a) (a := 1) (b := 16384) rfl rfl ?_)
  walk_at "go"
  have e1 : r1 / 1 % 16384 = r0 % 16384 := by
    rw [← hr1, pt_ra, Int.ediv_one]
  have b1 : 0 ≤ r1 / 1 % 16384 ∧ r1 / 1 % 16384 < 16384 := by omega
  generalize hr2 : r1 - r1 / 1 % 16384 * 1 = r2
  have c2 : 0 ≤ r2 ∧ r2 < 1073741824 := by omega
  rw [e1] at b1 ⊢
  have hs2 : r2 = r1 - r0 % 16384 * 1 := by rw [← e1]; exact hr2.symm
  generalize hq1 : r0 % 16384 = q1 at b1 hs2 ⊢
  replace hq1 : Hid (r0 % 16384 = q1) := hq1
  clear e1
  try dsimp only [setE, startE]
  refine callX_none (w_greatL (c := .a) (a := 65535) rfl ?_)
  walk_at "go"
  all_goals (
    refine forX_nil ?_
    walk_at "go"
    all_goals (unfold Hid at *)
    all_goals first
      | exact dropX_wk .drop1 (hF (fun z => by unfold Gd3 at z; omega))
      | (refine dropX_wk .drop1 (kD (hT (by unfold Gd3; omega)) ?_); simp [Tp3, *]; done)
      | skip)
theorem exp_4 {w : Int} {k : D → Os → Prop} {kx : Kx} (h0 : 0 ≤ w) (h1 : w < 68719476736) (hop : w / 1073741824 = 5) (hT : Gd4 (w % 1073741824) → k (Tp4 (w % 1073741824)) []) (hF : ¬ Gd4 (w % 1073741824) → k .non []) : T__law_expected CS [.int w] [] k kx := by
  unfold T__law_expected fnT
  walk_at "go"
  rw [hop]
  have c0 : 0 ≤ w % 1073741824 ∧ w % 1073741824 < 1073741824 := by omega
  generalize w % 1073741824 = r0 at hT hF c0 ⊢
  clear h0 h1 hop
  refine callX_none (w_nam (by omega) (by omega) fun x hx => ?_)
  cases hx
  walk_at "go"
  refine callX_none (w_shape (by omega) (by omega) fun x hx => ?_)
  cases hx
  walk_at "go"
  rw [stx_chs 4 _ [.r, .a] rfl rfl]
  rw [show kcs [.r, .a] = ([D.str Kc.r.str, D.str Kc.a.str] : List D) from rfl]
  try dsimp only [setE, startE]
  refine forX_cons ?_
  walk_at "go"
  refine callX_none (w_placeL (c := .r) (a := 67108864) (b := 16) rfl rfl ?_)
  walk_at "go"
  have e0 : r0 / 67108864 % 16 = r0 / 67108864 % 16 := by
    rfl
  have b0 : 0 ≤ r0 / 67108864 % 16 ∧ r0 / 67108864 % 16 < 16 := by omega
  generalize hr1 : r0 - r0 / 67108864 % 16 * 67108864 = r1
  have c1 : 0 ≤ r1 ∧ r1 < 1073741824 := by omega
  rw [e0] at b0 ⊢
  have hs1 : r1 = r0 - r0 / 67108864 % 16 * 67108864 := by rw [← e0]; exact hr1.symm
  generalize hq0 : r0 / 67108864 % 16 = q0 at b0 hs1 ⊢
  replace hq0 : Hid (r0 / 67108864 % 16 = q0) := hq0
  clear e0
  try dsimp only [setE, startE]
  refine callX_none (w_greatL (c := .r) (a := 8) rfl ?_)
  walk_at "go"
  · rename_i hb
    exact dropX_wk .drop1 (hF (fun z => by unfold Gd4 at z; unfold Hid at *; omega))
  try dsimp only [setE, startE]
  refine forX_cons ?_
  walk_at "go"
  refine callX_none (w_placeL (c := .a) (a := 1) (b := 16384) rfl rfl ?_)
  walk_at "go"
  have e1 : r1 / 1 % 16384 = r0 % 16384 := by
    rw [← hr1, pt_ra, Int.ediv_one]
  have b1 : 0 ≤ r1 / 1 % 16384 ∧ r1 / 1 % 16384 < 16384 := by omega
  generalize hr2 : r1 - r1 / 1 % 16384 * 1 = r2
  have c2 : 0 ≤ r2 ∧ r2 < 1073741824 := by omega
  rw [e1] at b1 ⊢
  have hs2 : r2 = r1 - r0 % 16384 * 1 := by rw [← e1]; exact hr2.symm
  generalize hq1 : r0 % 16384 = q1 at b1 hs2 ⊢
  replace hq1 : Hid (r0 % 16384 = q1) := hq1
  clear e1
  try dsimp only [setE, startE]
  refine callX_none (w_greatL (c := .a) (a := 65535) rfl ?_)
  walk_at "go"
  all_goals (
    refine forX_nil ?_
    walk_at "go"
    all_goals (unfold Hid at *)
    all_goals first
      | exact dropX_wk .drop1 (hF (fun z => by unfold Gd4 at z; omega))
      | (refine dropX_wk .drop1 (kD (hT (by unfold Gd4; omega)) ?_); simp [Tp4, *]; done)
      | skip)
theorem exp_5 {w : Int} {k : D → Os → Prop} {kx : Kx} (h0 : 0 ≤ w) (h1 : w < 68719476736) (hop : w / 1073741824 = 6) (hT : Gd5 (w % 1073741824) → k (Tp5 (w % 1073741824)) []) (hF : ¬ Gd5 (w % 1073741824) → k .non []) : T__law_expected CS [.int w] [] k kx := by
  unfold T__law_expected fnT
  walk_at "go"
  rw [hop]
  have c0 : 0 ≤ w % 1073741824 ∧ w % 1073741824 < 1073741824 := by omega
  generalize w % 1073741824 = r0 at hT hF c0 ⊢
  clear h0 h1 hop
  refine callX_none (w_nam (by omega) (by omega) fun x hx => ?_)
  cases hx
  walk_at "go"
  refine callX_none (w_shape (by omega) (by omega) fun x hx => ?_)
  cases hx
  walk_at "go"
  rw [stx_chs 5 _ [.r, .s, .a, .e] rfl rfl]
  rw [show kcs [.r, .s, .a, .e] = ([D.str Kc.r.str, D.str Kc.s.str, D.str Kc.a.str, D.str Kc.e.str] : List D) from rfl]
  try dsimp only [setE, startE]
  refine forX_cons ?_
  walk_at "go"
  refine callX_none (w_placeL (c := .r) (a := 67108864) (b := 16) rfl rfl ?_)
  walk_at "go"
  have e0 : r0 / 67108864 % 16 = r0 / 67108864 % 16 := by
    rfl
  have b0 : 0 ≤ r0 / 67108864 % 16 ∧ r0 / 67108864 % 16 < 16 := by omega
  generalize hr1 : r0 - r0 / 67108864 % 16 * 67108864 = r1
  have c1 : 0 ≤ r1 ∧ r1 < 1073741824 := by omega
  rw [e0] at b0 ⊢
  have hs1 : r1 = r0 - r0 / 67108864 % 16 * 67108864 := by rw [← e0]; exact hr1.symm
  generalize hq0 : r0 / 67108864 % 16 = q0 at b0 hs1 ⊢
  replace hq0 : Hid (r0 / 67108864 % 16 = q0) := hq0
  clear e0
  try dsimp only [setE, startE]
  refine callX_none (w_greatL (c := .r) (a := 8) rfl ?_)
  walk_at "go"
  · rename_i hb
    exact dropX_wk .drop1 (hF (fun z => by unfold Gd5 at z; unfold Hid at *; omega))
  try dsimp only [setE, startE]
  refine forX_cons ?_
  walk_at "go"
  refine callX_none (w_placeL (c := .s) (a := 4194304) (b := 16) rfl rfl ?_)
  walk_at "go"
  have e1 : r1 / 4194304 % 16 = r0 / 4194304 % 16 := by
    rw [← hr1, pt_rs]
  have b1 : 0 ≤ r1 / 4194304 % 16 ∧ r1 / 4194304 % 16 < 16 := by omega
  generalize hr2 : r1 - r1 / 4194304 % 16 * 4194304 = r2
  have c2 : 0 ≤ r2 ∧ r2 < 1073741824 := by omega
  rw [e1] at b1 ⊢
  have hs2 : r2 = r1 - r0 / 4194304 % 16 * 4194304 := by rw [← e1]; exact hr2.symm
  generalize hq1 : r0 / 4194304 % 16 = q1 at b1 hs2 ⊢
  replace hq1 : Hid (r0 / 4194304 % 16 = q1) := hq1
  clear e1
  try dsimp only [setE, startE]
  refine callX_none (w_greatL (c := .s) (a := 8) rfl ?_)
  walk_at "go"
  · rename_i hb
    exact dropX_wk .drop1 (hF (fun z => by unfold Gd5 at z; unfold Hid at *; omega))
  try dsimp only [setE, startE]
  refine forX_cons ?_
  walk_at "go"
  refine callX_none (w_placeL (c := .a) (a := 1) (b := 16384) rfl rfl ?_)
  walk_at "go"
  have e2 : r2 / 1 % 16384 = r0 % 16384 := by
    rw [← hr2, pt_sa, ← hr1, pt_ra, Int.ediv_one]
  have b2 : 0 ≤ r2 / 1 % 16384 ∧ r2 / 1 % 16384 < 16384 := by omega
  generalize hr3 : r2 - r2 / 1 % 16384 * 1 = r3
  have c3 : 0 ≤ r3 ∧ r3 < 1073741824 := by omega
  rw [e2] at b2 ⊢
  have hs3 : r3 = r2 - r0 % 16384 * 1 := by rw [← e2]; exact hr3.symm
  generalize hq2 : r0 % 16384 = q2 at b2 hs3 ⊢
  replace hq2 : Hid (r0 % 16384 = q2) := hq2
  clear e2
  try dsimp only [setE, startE]
  refine callX_none (w_greatL (c := .a) (a := 65535) rfl ?_)
  walk_at "go"
  try dsimp only [setE, startE]
  refine forX_cons ?_
  walk_at "go"
  refine callX_none (w_placeL (c := .e) (a := 16384) (b := 64) rfl rfl ?_)
  walk_at "go"
  have e3 : r3 / 16384 % 64 = r0 / 16384 % 64 := by
    rw [← hr3, pt_ae, ← hr2, pt_se, ← hr1, pt_re]
  have b3 : 0 ≤ r3 / 16384 % 64 ∧ r3 / 16384 % 64 < 64 := by omega
  generalize hr4 : r3 - r3 / 16384 % 64 * 16384 = r4
  have c4 : 0 ≤ r4 ∧ r4 < 1073741824 := by omega
  rw [e3] at b3 ⊢
  have hs4 : r4 = r3 - r0 / 16384 % 64 * 16384 := by rw [← e3]; exact hr4.symm
  generalize hq3 : r0 / 16384 % 64 = q3 at b3 hs4 ⊢
  replace hq3 : Hid (r0 / 16384 % 64 = q3) := hq3
  clear e3
  try dsimp only [setE, startE]
  refine callX_none (w_greatL (c := .e) (a := 65535) rfl ?_)
  walk_at "go"
  all_goals (
    refine forX_nil ?_
    walk_at "go"
    all_goals (unfold Hid at *)
    all_goals first
      | exact dropX_wk .drop1 (hF (fun z => by unfold Gd5 at z; omega))
      | (refine dropX_wk .drop1 (kD (hT (by unfold Gd5; omega)) ?_); simp [Tp5, *]; done)
      | skip)
theorem exp_6 {w : Int} {k : D → Os → Prop} {kx : Kx} (h0 : 0 ≤ w) (h1 : w < 68719476736) (hop : w / 1073741824 = 7) (hT : Gd6 (w % 1073741824) → k (Tp6 (w % 1073741824)) []) (hF : ¬ Gd6 (w % 1073741824) → k .non []) : T__law_expected CS [.int w] [] k kx := by
  unfold T__law_expected fnT
  walk_at "go"
  rw [hop]
  have c0 : 0 ≤ w % 1073741824 ∧ w % 1073741824 < 1073741824 := by omega
  generalize w % 1073741824 = r0 at hT hF c0 ⊢
  clear h0 h1 hop
  refine callX_none (w_nam (by omega) (by omega) fun x hx => ?_)
  cases hx
  walk_at "go"
  refine callX_none (w_shape (by omega) (by omega) fun x hx => ?_)
  cases hx
  walk_at "go"
  rw [stx_chs 6 _ [.r, .s, .a, .e] rfl rfl]
  rw [show kcs [.r, .s, .a, .e] = ([D.str Kc.r.str, D.str Kc.s.str, D.str Kc.a.str, D.str Kc.e.str] : List D) from rfl]
  try dsimp only [setE, startE]
  refine forX_cons ?_
  walk_at "go"
  refine callX_none (w_placeL (c := .r) (a := 67108864) (b := 16) rfl rfl ?_)
  walk_at "go"
  have e0 : r0 / 67108864 % 16 = r0 / 67108864 % 16 := by
    rfl
  have b0 : 0 ≤ r0 / 67108864 % 16 ∧ r0 / 67108864 % 16 < 16 := by omega
  generalize hr1 : r0 - r0 / 67108864 % 16 * 67108864 = r1
  have c1 : 0 ≤ r1 ∧ r1 < 1073741824 := by omega
  rw [e0] at b0 ⊢
  have hs1 : r1 = r0 - r0 / 67108864 % 16 * 67108864 := by rw [← e0]; exact hr1.symm
  generalize hq0 : r0 / 67108864 % 16 = q0 at b0 hs1 ⊢
  replace hq0 : Hid (r0 / 67108864 % 16 = q0) := hq0
  clear e0
  try dsimp only [setE, startE]
  refine callX_none (w_greatL (c := .r) (a := 8) rfl ?_)
  walk_at "go"
  · rename_i hb
    exact dropX_wk .drop1 (hF (fun z => by unfold Gd6 at z; unfold Hid at *; omega))
  try dsimp only [setE, startE]
  refine forX_cons ?_
  walk_at "go"
  refine callX_none (w_placeL (c := .s) (a := 4194304) (b := 16) rfl rfl ?_)
  walk_at "go"
  have e1 : r1 / 4194304 % 16 = r0 / 4194304 % 16 := by
    rw [← hr1, pt_rs]
  have b1 : 0 ≤ r1 / 4194304 % 16 ∧ r1 / 4194304 % 16 < 16 := by omega
  generalize hr2 : r1 - r1 / 4194304 % 16 * 4194304 = r2
  have c2 : 0 ≤ r2 ∧ r2 < 1073741824 := by omega
  rw [e1] at b1 ⊢
  have hs2 : r2 = r1 - r0 / 4194304 % 16 * 4194304 := by rw [← e1]; exact hr2.symm
  generalize hq1 : r0 / 4194304 % 16 = q1 at b1 hs2 ⊢
  replace hq1 : Hid (r0 / 4194304 % 16 = q1) := hq1
  clear e1
  try dsimp only [setE, startE]
  refine callX_none (w_greatL (c := .s) (a := 8) rfl ?_)
  walk_at "go"
  · rename_i hb
    exact dropX_wk .drop1 (hF (fun z => by unfold Gd6 at z; unfold Hid at *; omega))
  try dsimp only [setE, startE]
  refine forX_cons ?_
  walk_at "go"
  refine callX_none (w_placeL (c := .a) (a := 1) (b := 16384) rfl rfl ?_)
  walk_at "go"
  have e2 : r2 / 1 % 16384 = r0 % 16384 := by
    rw [← hr2, pt_sa, ← hr1, pt_ra, Int.ediv_one]
  have b2 : 0 ≤ r2 / 1 % 16384 ∧ r2 / 1 % 16384 < 16384 := by omega
  generalize hr3 : r2 - r2 / 1 % 16384 * 1 = r3
  have c3 : 0 ≤ r3 ∧ r3 < 1073741824 := by omega
  rw [e2] at b2 ⊢
  have hs3 : r3 = r2 - r0 % 16384 * 1 := by rw [← e2]; exact hr3.symm
  generalize hq2 : r0 % 16384 = q2 at b2 hs3 ⊢
  replace hq2 : Hid (r0 % 16384 = q2) := hq2
  clear e2
  try dsimp only [setE, startE]
  refine callX_none (w_greatL (c := .a) (a := 65535) rfl ?_)
  walk_at "go"
  try dsimp only [setE, startE]
  refine forX_cons ?_
  walk_at "go"
  refine callX_none (w_placeL (c := .e) (a := 16384) (b := 64) rfl rfl ?_)
  walk_at "go"
  have e3 : r3 / 16384 % 64 = r0 / 16384 % 64 := by
    rw [← hr3, pt_ae, ← hr2, pt_se, ← hr1, pt_re]
  have b3 : 0 ≤ r3 / 16384 % 64 ∧ r3 / 16384 % 64 < 64 := by omega
  generalize hr4 : r3 - r3 / 16384 % 64 * 16384 = r4
  have c4 : 0 ≤ r4 ∧ r4 < 1073741824 := by omega
  rw [e3] at b3 ⊢
  have hs4 : r4 = r3 - r0 / 16384 % 64 * 16384 := by rw [← e3]; exact hr4.symm
  generalize hq3 : r0 / 16384 % 64 = q3 at b3 hs4 ⊢
  replace hq3 : Hid (r0 / 16384 % 64 = q3) := hq3
  clear e3
  try dsimp only [setE, startE]
  refine callX_none (w_greatL (c := .e) (a := 65535) rfl ?_)
  walk_at "go"
  all_goals (
    refine forX_nil ?_
    walk_at "go"
    all_goals (unfold Hid at *)
    all_goals first
      | exact dropX_wk .drop1 (hF (fun z => by unfold Gd6 at z; omega))
      | (refine dropX_wk .drop1 (kD (hT (by unfold Gd6; omega)) ?_); simp [Tp6, *]; done)
      | skip)
theorem exp_7 {w : Int} {k : D → Os → Prop} {kx : Kx} (h0 : 0 ≤ w) (h1 : w < 68719476736) (hop : w / 1073741824 = 8) (hT : Gd7 (w % 1073741824) → k (Tp7 (w % 1073741824)) []) (hF : ¬ Gd7 (w % 1073741824) → k .non []) : T__law_expected CS [.int w] [] k kx := by
  unfold T__law_expected fnT
  walk_at "go"
  rw [hop]
  have c0 : 0 ≤ w % 1073741824 ∧ w % 1073741824 < 1073741824 := by omega
  generalize w % 1073741824 = r0 at hT hF c0 ⊢
  clear h0 h1 hop
  refine callX_none (w_nam (by omega) (by omega) fun x hx => ?_)
  cases hx
  walk_at "go"
  refine callX_none (w_shape (by omega) (by omega) fun x hx => ?_)
  cases hx
  walk_at "go"
  rw [stx_chs 7 _ [.p] rfl rfl]
  rw [show kcs [.p] = ([D.str Kc.p.str] : List D) from rfl]
  try dsimp only [setE, startE]
  refine forX_cons ?_
  walk_at "go"
  refine callX_none (w_placeL (c := .p) (a := 1) (b := 4096) rfl rfl ?_)
  walk_at "go"
  have e0 : r0 / 1 % 4096 = r0 % 4096 := by
    rw [Int.ediv_one]
  have b0 : 0 ≤ r0 / 1 % 4096 ∧ r0 / 1 % 4096 < 4096 := by omega
  generalize hr1 : r0 - r0 / 1 % 4096 * 1 = r1
  have c1 : 0 ≤ r1 ∧ r1 < 1073741824 := by omega
  rw [e0] at b0 ⊢
  have hs1 : r1 = r0 - r0 % 4096 * 1 := by rw [← e0]; exact hr1.symm
  generalize hq0 : r0 % 4096 = q0 at b0 hs1 ⊢
  replace hq0 : Hid (r0 % 4096 = q0) := hq0
  clear e0
  try dsimp only [setE, startE]
  refine callX_none (w_greatL (c := .p) (a := 65535) rfl ?_)
  walk_at "go"
  all_goals (
    refine forX_nil ?_
    walk_at "go"
    all_goals (unfold Hid at *)
    all_goals first
      | exact dropX_wk .drop1 (hF (fun z => by unfold Gd7 at z; omega))
      | (refine dropX_wk .drop1 (kD (hT (by unfold Gd7; omega)) ?_); simp [Tp7, *]; done)
      | skip)
theorem exp_8 {w : Int} {k : D → Os → Prop} {kx : Kx} (h0 : 0 ≤ w) (h1 : w < 68719476736) (hop : w / 1073741824 = 9) (hT : Gd8 (w % 1073741824) → k (Tp8 (w % 1073741824)) []) (hF : ¬ Gd8 (w % 1073741824) → k .non []) : T__law_expected CS [.int w] [] k kx := by
  unfold T__law_expected fnT
  walk_at "go"
  rw [hop]
  have c0 : 0 ≤ w % 1073741824 ∧ w % 1073741824 < 1073741824 := by omega
  generalize w % 1073741824 = r0 at hT hF c0 ⊢
  clear h0 h1 hop
  refine callX_none (w_nam (by omega) (by omega) fun x hx => ?_)
  cases hx
  walk_at "go"
  refine callX_none (w_shape (by omega) (by omega) fun x hx => ?_)
  cases hx
  walk_at "go"
  rw [stx_chs 8 _ [.r, .p] rfl rfl]
  rw [show kcs [.r, .p] = ([D.str Kc.r.str, D.str Kc.p.str] : List D) from rfl]
  try dsimp only [setE, startE]
  refine forX_cons ?_
  walk_at "go"
  refine callX_none (w_placeL (c := .r) (a := 67108864) (b := 16) rfl rfl ?_)
  walk_at "go"
  have e0 : r0 / 67108864 % 16 = r0 / 67108864 % 16 := by
    rfl
  have b0 : 0 ≤ r0 / 67108864 % 16 ∧ r0 / 67108864 % 16 < 16 := by omega
  generalize hr1 : r0 - r0 / 67108864 % 16 * 67108864 = r1
  have c1 : 0 ≤ r1 ∧ r1 < 1073741824 := by omega
  rw [e0] at b0 ⊢
  have hs1 : r1 = r0 - r0 / 67108864 % 16 * 67108864 := by rw [← e0]; exact hr1.symm
  generalize hq0 : r0 / 67108864 % 16 = q0 at b0 hs1 ⊢
  replace hq0 : Hid (r0 / 67108864 % 16 = q0) := hq0
  clear e0
  try dsimp only [setE, startE]
  refine callX_none (w_greatL (c := .r) (a := 8) rfl ?_)
  walk_at "go"
  · rename_i hb
    exact dropX_wk .drop1 (hF (fun z => by unfold Gd8 at z; unfold Hid at *; omega))
  try dsimp only [setE, startE]
  refine forX_cons ?_
  walk_at "go"
  refine callX_none (w_placeL (c := .p) (a := 1) (b := 4096) rfl rfl ?_)
  walk_at "go"
  have e1 : r1 / 1 % 4096 = r0 % 4096 := by
    rw [← hr1, pt_rp, Int.ediv_one]
  have b1 : 0 ≤ r1 / 1 % 4096 ∧ r1 / 1 % 4096 < 4096 := by omega
  generalize hr2 : r1 - r1 / 1 % 4096 * 1 = r2
  have c2 : 0 ≤ r2 ∧ r2 < 1073741824 := by omega
  rw [e1] at b1 ⊢
  have hs2 : r2 = r1 - r0 % 4096 * 1 := by rw [← e1]; exact hr2.symm
  generalize hq1 : r0 % 4096 = q1 at b1 hs2 ⊢
  replace hq1 : Hid (r0 % 4096 = q1) := hq1
  clear e1
  try dsimp only [setE, startE]
  refine callX_none (w_greatL (c := .p) (a := 65535) rfl ?_)
  walk_at "go"
  all_goals (
    refine forX_nil ?_
    walk_at "go"
    all_goals (unfold Hid at *)
    all_goals first
      | exact dropX_wk .drop1 (hF (fun z => by unfold Gd8 at z; omega))
      | (refine dropX_wk .drop1 (kD (hT (by unfold Gd8; omega)) ?_); simp [Tp8, *]; done)
      | skip)
theorem exp_9 {w : Int} {k : D → Os → Prop} {kx : Kx} (h0 : 0 ≤ w) (h1 : w < 68719476736) (hop : w / 1073741824 = 10) (hT : Gd9 (w % 1073741824) → k (Tp9 (w % 1073741824)) []) (hF : ¬ Gd9 (w % 1073741824) → k .non []) : T__law_expected CS [.int w] [] k kx := by
  unfold T__law_expected fnT
  walk_at "go"
  rw [hop]
  have c0 : 0 ≤ w % 1073741824 ∧ w % 1073741824 < 1073741824 := by omega
  generalize w % 1073741824 = r0 at hT hF c0 ⊢
  clear h0 h1 hop
  refine callX_none (w_nam (by omega) (by omega) fun x hx => ?_)
  cases hx
  walk_at "go"
  refine callX_none (w_shape (by omega) (by omega) fun x hx => ?_)
  cases hx
  walk_at "go"
  rw [stx_chs 9 _ [.c, .f] rfl rfl]
  rw [show kcs [.c, .f] = ([D.str Kc.c.str, D.str Kc.f.str] : List D) from rfl]
  try dsimp only [setE, startE]
  refine forX_cons ?_
  walk_at "go"
  refine callX_none (w_placeL (c := .c) (a := 4194304) (b := 256) rfl rfl ?_)
  walk_at "go"
  have e0 : r0 / 4194304 % 256 = r0 / 4194304 % 256 := by
    rfl
  have b0 : 0 ≤ r0 / 4194304 % 256 ∧ r0 / 4194304 % 256 < 256 := by omega
  generalize hr1 : r0 - r0 / 4194304 % 256 * 4194304 = r1
  have c1 : 0 ≤ r1 ∧ r1 < 1073741824 := by omega
  rw [e0] at b0 ⊢
  have hs1 : r1 = r0 - r0 / 4194304 % 256 * 4194304 := by rw [← e0]; exact hr1.symm
  generalize hq0 : r0 / 4194304 % 256 = q0 at b0 hs1 ⊢
  replace hq0 : Hid (r0 / 4194304 % 256 = q0) := hq0
  clear e0
  try dsimp only [setE, startE]
  refine callX_none (w_greatL (c := .c) (a := 65535) rfl ?_)
  walk_at "go"
  try dsimp only [setE, startE]
  refine forX_cons ?_
  walk_at "go"
  refine callX_none (w_placeL (c := .f) (a := 1) (b := 64) rfl rfl ?_)
  walk_at "go"
  have e1 : r1 / 1 % 64 = r0 % 64 := by
    rw [← hr1, pt_cf, Int.ediv_one]
  have b1 : 0 ≤ r1 / 1 % 64 ∧ r1 / 1 % 64 < 64 := by omega
  generalize hr2 : r1 - r1 / 1 % 64 * 1 = r2
  have c2 : 0 ≤ r2 ∧ r2 < 1073741824 := by omega
  rw [e1] at b1 ⊢
  have hs2 : r2 = r1 - r0 % 64 * 1 := by rw [← e1]; exact hr2.symm
  generalize hq1 : r0 % 64 = q1 at b1 hs2 ⊢
  replace hq1 : Hid (r0 % 64 = q1) := hq1
  clear e1
  try dsimp only [setE, startE]
  refine callX_none (w_greatL (c := .f) (a := 65535) rfl ?_)
  walk_at "go"
  all_goals (
    refine forX_nil ?_
    walk_at "go"
    all_goals (unfold Hid at *)
    all_goals first
      | exact dropX_wk .drop1 (hF (fun z => by unfold Gd9 at z; omega))
      | (refine dropX_wk .drop1 (kD (hT (by unfold Gd9; omega)) ?_); simp [Tp9, *]; done)
      | skip)
theorem exp_10 {w : Int} {k : D → Os → Prop} {kx : Kx} (h0 : 0 ≤ w) (h1 : w < 68719476736) (hop : w / 1073741824 = 11) (hT : Gd10 (w % 1073741824) → k (Tp10 (w % 1073741824)) []) (hF : ¬ Gd10 (w % 1073741824) → k .non []) : T__law_expected CS [.int w] [] k kx := by
  unfold T__law_expected fnT
  walk_at "go"
  rw [hop]
  have c0 : 0 ≤ w % 1073741824 ∧ w % 1073741824 < 1073741824 := by omega
  generalize w % 1073741824 = r0 at hT hF c0 ⊢
  clear h0 h1 hop
  refine callX_none (w_nam (by omega) (by omega) fun x hx => ?_)
  cases hx
  walk_at "go"
  refine callX_none (w_shape (by omega) (by omega) fun x hx => ?_)
  cases hx
  walk_at "go"
  rw [stx_chs 10 _ [.c, .p] rfl rfl]
  rw [show kcs [.c, .p] = ([D.str Kc.c.str, D.str Kc.p.str] : List D) from rfl]
  try dsimp only [setE, startE]
  refine forX_cons ?_
  walk_at "go"
  refine callX_none (w_placeL (c := .c) (a := 4194304) (b := 256) rfl rfl ?_)
  walk_at "go"
  have e0 : r0 / 4194304 % 256 = r0 / 4194304 % 256 := by
    rfl
  have b0 : 0 ≤ r0 / 4194304 % 256 ∧ r0 / 4194304 % 256 < 256 := by omega
  generalize hr1 : r0 - r0 / 4194304 % 256 * 4194304 = r1
  have c1 : 0 ≤ r1 ∧ r1 < 1073741824 := by omega
  rw [e0] at b0 ⊢
  have hs1 : r1 = r0 - r0 / 4194304 % 256 * 4194304 := by rw [← e0]; exact hr1.symm
  generalize hq0 : r0 / 4194304 % 256 = q0 at b0 hs1 ⊢
  replace hq0 : Hid (r0 / 4194304 % 256 = q0) := hq0
  clear e0
  try dsimp only [setE, startE]
  refine callX_none (w_greatL (c := .c) (a := 65535) rfl ?_)
  walk_at "go"
  try dsimp only [setE, startE]
  refine forX_cons ?_
  walk_at "go"
  refine callX_none (w_placeL (c := .p) (a := 1) (b := 4096) rfl rfl ?_)
  walk_at "go"
  have e1 : r1 / 1 % 4096 = r0 % 4096 := by
    rw [← hr1, pt_cp, Int.ediv_one]
  have b1 : 0 ≤ r1 / 1 % 4096 ∧ r1 / 1 % 4096 < 4096 := by omega
  generalize hr2 : r1 - r1 / 1 % 4096 * 1 = r2
  have c2 : 0 ≤ r2 ∧ r2 < 1073741824 := by omega
  rw [e1] at b1 ⊢
  have hs2 : r2 = r1 - r0 % 4096 * 1 := by rw [← e1]; exact hr2.symm
  generalize hq1 : r0 % 4096 = q1 at b1 hs2 ⊢
  replace hq1 : Hid (r0 % 4096 = q1) := hq1
  clear e1
  try dsimp only [setE, startE]
  refine callX_none (w_greatL (c := .p) (a := 65535) rfl ?_)
  walk_at "go"
  all_goals (
    refine forX_nil ?_
    walk_at "go"
    all_goals (unfold Hid at *)
    all_goals first
      | exact dropX_wk .drop1 (hF (fun z => by unfold Gd10 at z; omega))
      | (refine dropX_wk .drop1 (kD (hT (by unfold Gd10; omega)) ?_); simp [Tp10, *]; done)
      | skip)
theorem exp_11 {w : Int} {k : D → Os → Prop} {kx : Kx} (h0 : 0 ≤ w) (h1 : w < 68719476736) (hop : w / 1073741824 = 12) (hT : Gd11 (w % 1073741824) → k (Tp11 (w % 1073741824)) []) (hF : ¬ Gd11 (w % 1073741824) → k .non []) : T__law_expected CS [.int w] [] k kx := by
  unfold T__law_expected fnT
  walk_at "go"
  rw [hop]
  have c0 : 0 ≤ w % 1073741824 ∧ w % 1073741824 < 1073741824 := by omega
  generalize w % 1073741824 = r0 at hT hF c0 ⊢
  clear h0 h1 hop
  refine callX_none (w_nam (by omega) (by omega) fun x hx => ?_)
  cases hx
  walk_at "go"
  refine callX_none (w_shape (by omega) (by omega) fun x hx => ?_)
  cases hx
  walk_at "go"
  rw [stx_chs 11 _ [.p] rfl rfl]
  rw [show kcs [.p] = ([D.str Kc.p.str] : List D) from rfl]
  try dsimp only [setE, startE]
  refine forX_cons ?_
  walk_at "go"
  refine callX_none (w_placeL (c := .p) (a := 1) (b := 4096) rfl rfl ?_)
  walk_at "go"
  have e0 : r0 / 1 % 4096 = r0 % 4096 := by
    rw [Int.ediv_one]
  have b0 : 0 ≤ r0 / 1 % 4096 ∧ r0 / 1 % 4096 < 4096 := by omega
  generalize hr1 : r0 - r0 / 1 % 4096 * 1 = r1
  have c1 : 0 ≤ r1 ∧ r1 < 1073741824 := by omega
  rw [e0] at b0 ⊢
  have hs1 : r1 = r0 - r0 % 4096 * 1 := by rw [← e0]; exact hr1.symm
  generalize hq0 : r0 % 4096 = q0 at b0 hs1 ⊢
  replace hq0 : Hid (r0 % 4096 = q0) := hq0
  clear e0
  try dsimp only [setE, startE]
  refine callX_none (w_greatL (c := .p) (a := 65535) rfl ?_)
  walk_at "go"
  all_goals (
    refine forX_nil ?_
    walk_at "go"
    all_goals (unfold Hid at *)
    all_goals first
      | exact dropX_wk .drop1 (hF (fun z => by unfold Gd11 at z; omega))
      | (refine dropX_wk .drop1 (kD (hT (by unfold Gd11; omega)) ?_); simp [Tp11, *]; done)
      | skip)
theorem exp_12 {w : Int} {k : D → Os → Prop} {kx : Kx} (h0 : 0 ≤ w) (h1 : w < 68719476736) (hop : w / 1073741824 = 13) (hT : Gd12 (w % 1073741824) → k (Tp12 (w % 1073741824)) []) (hF : ¬ Gd12 (w % 1073741824) → k .non []) : T__law_expected CS [.int w] [] k kx := by
  unfold T__law_expected fnT
  walk_at "go"
  rw [hop]
  have c0 : 0 ≤ w % 1073741824 ∧ w % 1073741824 < 1073741824 := by omega
  generalize w % 1073741824 = r0 at hT hF c0 ⊢
  clear h0 h1 hop
  refine callX_none (w_nam (by omega) (by omega) fun x hx => ?_)
  cases hx
  walk_at "go"
  refine callX_none (w_shape (by omega) (by omega) fun x hx => ?_)
  cases hx
  walk_at "go"
  rw [stx_chs 12 _ [] rfl rfl]
  rw [show kcs [] = ([] : List D) from rfl]
  all_goals (
    refine forX_nil ?_
    walk_at "go"
    all_goals (unfold Hid at *)
    all_goals first
      | exact dropX_wk .drop1 (hF (fun z => by unfold Gd12 at z; omega))
      | (refine dropX_wk .drop1 (kD (hT (by unfold Gd12; omega)) ?_); simp [Tp12, *]; done)
      | skip)
theorem exp_13 {w : Int} {k : D → Os → Prop} {kx : Kx} (h0 : 0 ≤ w) (h1 : w < 68719476736) (hop : w / 1073741824 = 14) (hT : Gd13 (w % 1073741824) → k (Tp13 (w % 1073741824)) []) (hF : ¬ Gd13 (w % 1073741824) → k .non []) : T__law_expected CS [.int w] [] k kx := by
  unfold T__law_expected fnT
  walk_at "go"
  rw [hop]
  have c0 : 0 ≤ w % 1073741824 ∧ w % 1073741824 < 1073741824 := by omega
  generalize w % 1073741824 = r0 at hT hF c0 ⊢
  clear h0 h1 hop
  refine callX_none (w_nam (by omega) (by omega) fun x hx => ?_)
  cases hx
  walk_at "go"
  refine callX_none (w_shape (by omega) (by omega) fun x hx => ?_)
  cases hx
  walk_at "go"
  rw [stx_chs 13 _ [] rfl rfl]
  rw [show kcs [] = ([] : List D) from rfl]
  all_goals (
    refine forX_nil ?_
    walk_at "go"
    all_goals (unfold Hid at *)
    all_goals first
      | exact dropX_wk .drop1 (hF (fun z => by unfold Gd13 at z; omega))
      | (refine dropX_wk .drop1 (kD (hT (by unfold Gd13; omega)) ?_); simp [Tp13, *]; done)
      | skip)
theorem exp_14 {w : Int} {k : D → Os → Prop} {kx : Kx} (h0 : 0 ≤ w) (h1 : w < 68719476736) (hop : w / 1073741824 = 15) (hT : Gd14 (w % 1073741824) → k (Tp14 (w % 1073741824)) []) (hF : ¬ Gd14 (w % 1073741824) → k .non []) : T__law_expected CS [.int w] [] k kx := by
  unfold T__law_expected fnT
  walk_at "go"
  rw [hop]
  have c0 : 0 ≤ w % 1073741824 ∧ w % 1073741824 < 1073741824 := by omega
  generalize w % 1073741824 = r0 at hT hF c0 ⊢
  clear h0 h1 hop
  refine callX_none (w_nam (by omega) (by omega) fun x hx => ?_)
  cases hx
  walk_at "go"
  refine callX_none (w_shape (by omega) (by omega) fun x hx => ?_)
  cases hx
  walk_at "go"
  rw [stx_chs 14 _ [.o] rfl rfl]
  rw [show kcs [.o] = ([D.str Kc.o.str] : List D) from rfl]
  try dsimp only [setE, startE]
  refine forX_cons ?_
  walk_at "go"
  refine callX_none (w_placeL (c := .o) (a := 1) (b := 16) rfl rfl ?_)
  walk_at "go"
  have e0 : r0 / 1 % 16 = r0 % 16 := by
    rw [Int.ediv_one]
  have b0 : 0 ≤ r0 / 1 % 16 ∧ r0 / 1 % 16 < 16 := by omega
  generalize hr1 : r0 - r0 / 1 % 16 * 1 = r1
  have c1 : 0 ≤ r1 ∧ r1 < 1073741824 := by omega
  rw [e0] at b0 ⊢
  have hs1 : r1 = r0 - r0 % 16 * 1 := by rw [← e0]; exact hr1.symm
  generalize hq0 : r0 % 16 = q0 at b0 hs1 ⊢
  replace hq0 : Hid (r0 % 16 = q0) := hq0
  clear e0
  try dsimp only [setE, startE]
  refine callX_none (w_greatL (c := .o) (a := 3) rfl ?_)
  walk_at "go"
  · rename_i hb
    exact dropX_wk .drop1 (hF (fun z => by unfold Gd14 at z; unfold Hid at *; omega))
  all_goals (
    refine forX_nil ?_
    walk_at "go"
    all_goals (unfold Hid at *)
    all_goals first
      | exact dropX_wk .drop1 (hF (fun z => by unfold Gd14 at z; omega))
      | (refine dropX_wk .drop1 (kD (hT (by unfold Gd14; omega)) ?_); simp [Tp14, *]; done)
      | skip)
theorem exp_15 {w : Int} {k : D → Os → Prop} {kx : Kx} (h0 : 0 ≤ w) (h1 : w < 68719476736) (hop : w / 1073741824 = 16) (hT : Gd15 (w % 1073741824) → k (Tp15 (w % 1073741824)) []) (hF : ¬ Gd15 (w % 1073741824) → k .non []) : T__law_expected CS [.int w] [] k kx := by
  unfold T__law_expected fnT
  walk_at "go"
  rw [hop]
  have c0 : 0 ≤ w % 1073741824 ∧ w % 1073741824 < 1073741824 := by omega
  generalize w % 1073741824 = r0 at hT hF c0 ⊢
  clear h0 h1 hop
  refine callX_none (w_nam (by omega) (by omega) fun x hx => ?_)
  cases hx
  walk_at "go"
  refine callX_none (w_shape (by omega) (by omega) fun x hx => ?_)
  cases hx
  walk_at "go"
  rw [stx_chs 15 _ [.o] rfl rfl]
  rw [show kcs [.o] = ([D.str Kc.o.str] : List D) from rfl]
  try dsimp only [setE, startE]
  refine forX_cons ?_
  walk_at "go"
  refine callX_none (w_placeL (c := .o) (a := 1) (b := 16) rfl rfl ?_)
  walk_at "go"
  have e0 : r0 / 1 % 16 = r0 % 16 := by
    rw [Int.ediv_one]
  have b0 : 0 ≤ r0 / 1 % 16 ∧ r0 / 1 % 16 < 16 := by omega
  generalize hr1 : r0 - r0 / 1 % 16 * 1 = r1
  have c1 : 0 ≤ r1 ∧ r1 < 1073741824 := by omega
  rw [e0] at b0 ⊢
  have hs1 : r1 = r0 - r0 % 16 * 1 := by rw [← e0]; exact hr1.symm
  generalize hq0 : r0 % 16 = q0 at b0 hs1 ⊢
  replace hq0 : Hid (r0 % 16 = q0) := hq0
  clear e0
  try dsimp only [setE, startE]
  refine callX_none (w_greatL (c := .o) (a := 3) rfl ?_)
  walk_at "go"
  · rename_i hb
    exact dropX_wk .drop1 (hF (fun z => by unfold Gd15 at z; unfold Hid at *; omega))
  all_goals (
    refine forX_nil ?_
    walk_at "go"
    all_goals (unfold Hid at *)
    all_goals first
      | exact dropX_wk .drop1 (hF (fun z => by unfold Gd15 at z; omega))
      | (refine dropX_wk .drop1 (kD (hT (by unfold Gd15; omega)) ?_); simp [Tp15, *]; done)
      | skip)
theorem exp_16 {w : Int} {k : D → Os → Prop} {kx : Kx} (h0 : 0 ≤ w) (h1 : w < 68719476736) (hop : w / 1073741824 = 17) (hT : Gd16 (w % 1073741824) → k (Tp16 (w % 1073741824)) []) (hF : ¬ Gd16 (w % 1073741824) → k .non []) : T__law_expected CS [.int w] [] k kx := by
  unfold T__law_expected fnT
  walk_at "go"
  rw [hop]
  have c0 : 0 ≤ w % 1073741824 ∧ w % 1073741824 < 1073741824 := by omega
  generalize w % 1073741824 = r0 at hT hF c0 ⊢
  clear h0 h1 hop
  refine callX_none (w_nam (by omega) (by omega) fun x hx => ?_)
  cases hx
  walk_at "go"
  refine callX_none (w_shape (by omega) (by omega) fun x hx => ?_)
  cases hx
  walk_at "go"
  rw [stx_chs 16 _ [.r, .q] rfl rfl]
  rw [show kcs [.r, .q] = ([D.str Kc.r.str, D.str Kc.q.str] : List D) from rfl]
  try dsimp only [setE, startE]
  refine forX_cons ?_
  walk_at "go"
  refine callX_none (w_placeL (c := .r) (a := 67108864) (b := 16) rfl rfl ?_)
  walk_at "go"
  have e0 : r0 / 67108864 % 16 = r0 / 67108864 % 16 := by
    rfl
  have b0 : 0 ≤ r0 / 67108864 % 16 ∧ r0 / 67108864 % 16 < 16 := by omega
  generalize hr1 : r0 - r0 / 67108864 % 16 * 67108864 = r1
  have c1 : 0 ≤ r1 ∧ r1 < 1073741824 := by omega
  rw [e0] at b0 ⊢
  have hs1 : r1 = r0 - r0 / 67108864 % 16 * 67108864 := by rw [← e0]; exact hr1.symm
  generalize hq0 : r0 / 67108864 % 16 = q0 at b0 hs1 ⊢
  replace hq0 : Hid (r0 / 67108864 % 16 = q0) := hq0
  clear e0
  try dsimp only [setE, startE]
  refine callX_none (w_greatL (c := .r) (a := 8) rfl ?_)
  walk_at "go"
  · rename_i hb
    exact dropX_wk .drop1 (hF (fun z => by unfold Gd16 at z; unfold Hid at *; omega))
  try dsimp only [setE, startE]
  refine forX_cons ?_
  walk_at "go"
  refine callX_none (w_placeL (c := .q) (a := 1) (b := 16) rfl rfl ?_)
  walk_at "go"
  have e1 : r1 / 1 % 16 = r0 % 16 := by
    rw [← hr1, pt_rq, Int.ediv_one]
  have b1 : 0 ≤ r1 / 1 % 16 ∧ r1 / 1 % 16 < 16 := by omega
  generalize hr2 : r1 - r1 / 1 % 16 * 1 = r2
  have c2 : 0 ≤ r2 ∧ r2 < 1073741824 := by omega
  rw [e1] at b1 ⊢
  have hs2 : r2 = r1 - r0 % 16 * 1 := by rw [← e1]; exact hr2.symm
  generalize hq1 : r0 % 16 = q1 at b1 hs2 ⊢
  replace hq1 : Hid (r0 % 16 = q1) := hq1
  clear e1
  try dsimp only [setE, startE]
  refine callX_none (w_greatL (c := .q) (a := 7) rfl ?_)
  walk_at "go"
  · rename_i hb
    exact dropX_wk .drop1 (hF (fun z => by unfold Gd16 at z; unfold Hid at *; omega))
  all_goals (
    refine forX_nil ?_
    walk_at "go"
    all_goals (unfold Hid at *)
    all_goals first
      | exact dropX_wk .drop1 (hF (fun z => by unfold Gd16 at z; omega))
      | (refine dropX_wk .drop1 (kD (hT (by unfold Gd16; omega)) ?_); simp [Tp16, *]; done)
      | skip)
theorem exp_17 {w : Int} {k : D → Os → Prop} {kx : Kx} (h0 : 0 ≤ w) (h1 : w < 68719476736) (hop : w / 1073741824 = 18) (hT : Gd17 (w % 1073741824) → k (Tp17 (w % 1073741824)) []) (hF : ¬ Gd17 (w % 1073741824) → k .non []) : T__law_expected CS [.int w] [] k kx := by
  unfold T__law_expected fnT
  walk_at "go"
  rw [hop]
  have c0 : 0 ≤ w % 1073741824 ∧ w % 1073741824 < 1073741824 := by omega
  generalize w % 1073741824 = r0 at hT hF c0 ⊢
  clear h0 h1 hop
  refine callX_none (w_nam (by omega) (by omega) fun x hx => ?_)
  cases hx
  walk_at "go"
  refine callX_none (w_shape (by omega) (by omega) fun x hx => ?_)
  cases hx
  walk_at "go"
  rw [stx_chs 17 _ [.r, .q] rfl rfl]
  rw [show kcs [.r, .q] = ([D.str Kc.r.str, D.str Kc.q.str] : List D) from rfl]
  try dsimp only [setE, startE]
  refine forX_cons ?_
  walk_at "go"
  refine callX_none (w_placeL (c := .r) (a := 67108864) (b := 16) rfl rfl ?_)
  walk_at "go"
  have e0 : r0 / 67108864 % 16 = r0 / 67108864 % 16 := by
    rfl
  have b0 : 0 ≤ r0 / 67108864 % 16 ∧ r0 / 67108864 % 16 < 16 := by omega
  generalize hr1 : r0 - r0 / 67108864 % 16 * 67108864 = r1
  have c1 : 0 ≤ r1 ∧ r1 < 1073741824 := by omega
  rw [e0] at b0 ⊢
  have hs1 : r1 = r0 - r0 / 67108864 % 16 * 67108864 := by rw [← e0]; exact hr1.symm
  generalize hq0 : r0 / 67108864 % 16 = q0 at b0 hs1 ⊢
  replace hq0 : Hid (r0 / 67108864 % 16 = q0) := hq0
  clear e0
  try dsimp only [setE, startE]
  refine callX_none (w_greatL (c := .r) (a := 8) rfl ?_)
  walk_at "go"
  · rename_i hb
    exact dropX_wk .drop1 (hF (fun z => by unfold Gd17 at z; unfold Hid at *; omega))
  try dsimp only [setE, startE]
  refine forX_cons ?_
  walk_at "go"
  refine callX_none (w_placeL (c := .q) (a := 1) (b := 16) rfl rfl ?_)
  walk_at "go"
  have e1 : r1 / 1 % 16 = r0 % 16 := by
    rw [← hr1, pt_rq, Int.ediv_one]
  have b1 : 0 ≤ r1 / 1 % 16 ∧ r1 / 1 % 16 < 16 := by omega
  generalize hr2 : r1 - r1 / 1 % 16 * 1 = r2
  have c2 : 0 ≤ r2 ∧ r2 < 1073741824 := by omega
  rw [e1] at b1 ⊢
  have hs2 : r2 = r1 - r0 % 16 * 1 := by rw [← e1]; exact hr2.symm
  generalize hq1 : r0 % 16 = q1 at b1 hs2 ⊢
  replace hq1 : Hid (r0 % 16 = q1) := hq1
  clear e1
  try dsimp only [setE, startE]
  refine callX_none (w_greatL (c := .q) (a := 7) rfl ?_)
  walk_at "go"
  · rename_i hb
    exact dropX_wk .drop1 (hF (fun z => by unfold Gd17 at z; unfold Hid at *; omega))
  all_goals (
    refine forX_nil ?_
    walk_at "go"
    all_goals (unfold Hid at *)
    all_goals first
      | exact dropX_wk .drop1 (hF (fun z => by unfold Gd17 at z; omega))
      | (refine dropX_wk .drop1 (kD (hT (by unfold Gd17; omega)) ?_); simp [Tp17, *]; done)
      | skip)

end

section
variable {CS : Nat → Addr}
theorem enc1 {w n lo hi S md off : Int} {fs : List D} {ns : List Int} (s b : Nat) (P Q : Int) (hS : S.toNat = s) (hP : P = 2 ^ s) (hQ : Q = 2 ^ b) (hw : w / P % Q = 0) (h0 : 0 ≤ n) (h1 : n < Q) : encF w (Fd lo hi S md off :: fs) (n :: ns) = encF (w + n * P) fs ns := by
  subst hP hQ
  show encF (Builtin.bitOr w (n * 2 ^ S.toNat)) fs ns = _
  rw [hS, or_add s b rfl hw h0 h1]
theorem encF_nil {w : Int} : encF w [] [] = w := rfl
theorem vl1 {w lo hi S md off v : Int} (s : Nat) (P : Int) (hS : S.toNat = s) (hP : P = 2 ^ s) (hn : ¬ [lo, hi, S, md, off] = [0, 16, 13, 32, 0]) (h : (v = w / P % md + off ∧ v ≤ hi) ∨ (v = w / P % md + off - md ∧ hi < w / P % md + off)) : vlOf w (Fd lo hi S md off) = .int v := by
  subst hP
  show (if _ then _ else _) = _
  rw [if_neg hn, hS]
  rcases h with ⟨rfl, h⟩ | ⟨rfl, h⟩
  · rw [if_neg (by omega)]
  · rw [if_pos h]
theorem Sm_nil : Sm [] [] := fun i f n h _ => by simp at h
theorem Sm_cons {lo hi s md off n : Int} {fs : List D} {ns : List Int} (hs : 0 ≤ s ∧ s ≤ 64) (h0 : 0 ≤ n) (h1 : n < 1000000) (h : Sm fs ns) : Sm (Fd lo hi s md off :: fs) (n :: ns) := fun i f m e1 e2 => by
  cases i with
  | zero => simp at e1 e2; subst e1 e2; exact ⟨⟨lo, hi, s, md, off, rfl, hs⟩, h0, h1⟩
  | succ i => exact h i f m (by simpa using e1) (by simpa using e2)
theorem calc_at {q : Int} (h0 : 0 ≤ q) (h1 : q ≤ 16) : CALC.getD q.toNat "" ∈ CALC ∧ ((CALC.idxOf (CALC.getD q.toNat "") : Nat) : Int) = q := by
  obtain ⟨j, rfl⟩ : ∃ j : Nat, q = (j : Int) := ⟨q.toNat, by omega⟩
  rw [Int.toNat_natCast]
  rcases (by omega : j = 0 ∨ j = 1 ∨ j = 2 ∨ j = 3 ∨ j = 4 ∨ j = 5 ∨ j = 6 ∨ j = 7 ∨ j = 8 ∨ j = 9 ∨ j = 10 ∨ j = 11 ∨ j = 12 ∨ j = 13 ∨ j = 14 ∨ j = 15 ∨ j = 16) with rfl | rfl | rfl | rfl | rfl | rfl | rfl | rfl | rfl | rfl | rfl | rfl | rfl | rfl | rfl | rfl | rfl
  all_goals decide +kernel
theorem no_str : NumNo CS (.str "") NF := fun _ _ _ h => w_numN (fun z => absurd z (by decide)) fun _ => h
theorem dec_0 {w : Int} {k : D → Os → Prop} {kx : Kx} (h0 : 0 ≤ w) (h1 : w < 68719476736) (hop : w / 1073741824 = 1) (hT : Gd0 (w % 1073741824) → k (Tp0 (w % 1073741824)) []) (hF : ¬ Gd0 (w % 1073741824) → ∀ o, kx ⟨CS 1, [(f_at, .int 0)]⟩ o) : T_decode CS [.int w] [] k kx := by
  have hi : w / 2 ^ 30 = ((0 : Nat) : Int) + 1 := hop
  have e0 : w / 67108864 % 16 = (w % 1073741824) / 67108864 % 16 := by omega
  have e1 : w / 1 % 65536 = (w % 1073741824) % 65536 := by omega
  have c0 : 0 ≤ w % 1073741824 ∧ w % 1073741824 < 1073741824 := by omega
  have hw : w = 1073741824 + w % 1073741824 := by omega
  generalize w % 1073741824 = r at *
  clear hop
  have b0 : 0 ≤ r / 67108864 % 16 ∧ r / 67108864 % 16 < 16 := by omega
  generalize hq0 : r / 67108864 % 16 = q0 at e0 b0
  replace hq0 : Hid (r / 67108864 % 16 = q0) := hq0
  have b1 : 0 ≤ r % 65536 ∧ r % 65536 < 65536 := by omega
  generalize hq1 : r % 65536 = q1 at e1 b1
  replace hq1 : Hid (r % 65536 = q1) := hq1
  by_cases g0 : q0 ≤ 8
  rotate_left
  · have v0 : vlOf w fT = .int (q0 - 16) := vl1 26 67108864 rfl (by decide) (by decide) (by omega)
    have no : NumNo CS (vlOf w fT) fT := by rw [v0]; exact fun _ _ _ hh => w_numF (by decide) (by omega) hh
    refine w_dec (i := 0) (n := "set") (fs := [fT, fS]) rfl rfl h0 h1 hi (.inr ⟨fun _ _ _ hh => w_isN (i := 0) (fs := [fT, fS]) rfl rfl rfl (.here no) hh, hF (fun z => ?_)⟩)
    unfold Gd0 at z; (try unfold Hid at *); omega
  have v0 : vlOf w fT = .int q0 := vl1 26 67108864 rfl (by decide) (by decide) (by omega)
  have ok0 : NumOk CS (vlOf w fT) fT q0 := by rw [v0]; exact fun _ _ _ hh => w_numT 4 (by decide) (by decide) (by omega) (by omega) (kI hh (by omega))
  have v1 : vlOf w fS = .int (if 32767 < q1 then q1 - 65536 else q1) := by
    split
    · exact vl1 0 1 rfl (by decide) (by decide) (by omega)
    · exact vl1 0 1 rfl (by decide) (by decide) (by omega)
  have ok1 : NumOk CS (vlOf w fS) fS q1 := by
    rw [v1]
    intro _ _ _ hh
    split
    · exact w_numT 16 (by decide) (by decide) (by omega) (by omega) (kI hh (by omega))
    · exact w_numT 16 (by decide) (by decide) (by omega) (by omega) (kI hh (by omega))
  have hA : AllOk CS (([fT, fS] : List D).map (vlOf w)) [fT, fS] [q0, q1] := (.cons ok0 (.cons ok1 .nil))
  have hS : Sm [fT, fS] [q0, q1] := (Sm_cons (by decide) (by omega) (by omega) (Sm_cons (by decide) (by omega) (by omega) Sm_nil))
  have he : encF ((((0 : Nat) : Int) + 1) * 2 ^ 30) [fT, fS] [q0, q1] = 1073741824 + (q0 * 67108864 + q1 * 1) := by
    refine (enc1 26 4 67108864 16 rfl (by decide) (by decide) (by omega) (by omega) (by omega)).trans ?_
    refine (enc1 0 16 1 65536 rfl (by decide) (by decide) (by omega) (by omega) (by omega)).trans ?_
    rw [encF_nil]
    omega
  have hsp : ("set" : Str) = "loadx" ∨ ("set" : Str) = "storex" → ∃ a e : Int, (([fT, fS] : List D).map (vlOf w))[2]? = some (.int a) ∧ (([fT, fS] : List D).map (vlOf w))[3]? = some (.int e) ∧ a + e ≤ 16384 := fun z => absurd z (by decide)
  refine w_dec (i := 0) (n := "set") (fs := [fT, fS]) rfl rfl h0 h1 hi (.inl ⟨fun _ _ _ hh => w_isT1 (i := 0) (fs := [fT, fS]) rfl rfl hA hsp hh, _, fun _ _ _ hh => w_encT (i := 0) (fs := [fT, fS]) rfl rfl hA hS hsp (kI hh he), fun hv => ?_, fun hv => hF (fun z => ?_)⟩)
  · exact kD (hT (by unfold Gd0; (try unfold Hid at *); omega)) (by show D.tup [.str "set", vlOf w fT, vlOf w fS] = _; rw [v0, v1]; (try unfold Hid at *); simp [Tp0, *])
  · unfold Gd0 at z; (try unfold Hid at *); omega
theorem dec_1 {w : Int} {k : D → Os → Prop} {kx : Kx} (h0 : 0 ≤ w) (h1 : w < 68719476736) (hop : w / 1073741824 = 2) (hT : Gd1 (w % 1073741824) → k (Tp1 (w % 1073741824)) []) (hF : ¬ Gd1 (w % 1073741824) → ∀ o, kx ⟨CS 1, [(f_at, .int 0)]⟩ o) : T_decode CS [.int w] [] k kx := by
  have hi : w / 2 ^ 30 = ((1 : Nat) : Int) + 1 := hop
  have e0 : w / 67108864 % 16 = (w % 1073741824) / 67108864 % 16 := by omega
  have e1 : w / 1 % 65536 = (w % 1073741824) % 65536 := by omega
  have c0 : 0 ≤ w % 1073741824 ∧ w % 1073741824 < 1073741824 := by omega
  have hw : w = 2147483648 + w % 1073741824 := by omega
  generalize w % 1073741824 = r at *
  clear hop
  have b0 : 0 ≤ r / 67108864 % 16 ∧ r / 67108864 % 16 < 16 := by omega
  generalize hq0 : r / 67108864 % 16 = q0 at e0 b0
  replace hq0 : Hid (r / 67108864 % 16 = q0) := hq0
  have b1 : 0 ≤ r % 65536 ∧ r % 65536 < 65536 := by omega
  generalize hq1 : r % 65536 = q1 at e1 b1
  replace hq1 : Hid (r % 65536 = q1) := hq1
  by_cases g0 : q0 ≤ 8
  rotate_left
  · have v0 : vlOf w fT = .int (q0 - 16) := vl1 26 67108864 rfl (by decide) (by decide) (by omega)
    have no : NumNo CS (vlOf w fT) fT := by rw [v0]; exact fun _ _ _ hh => w_numF (by decide) (by omega) hh
    refine w_dec (i := 1) (n := "high") (fs := [fT, fU]) rfl rfl h0 h1 hi (.inr ⟨fun _ _ _ hh => w_isN (i := 1) (fs := [fT, fU]) rfl rfl rfl (.here no) hh, hF (fun z => ?_)⟩)
    unfold Gd1 at z; (try unfold Hid at *); omega
  have v0 : vlOf w fT = .int q0 := vl1 26 67108864 rfl (by decide) (by decide) (by omega)
  have ok0 : NumOk CS (vlOf w fT) fT q0 := by rw [v0]; exact fun _ _ _ hh => w_numT 4 (by decide) (by decide) (by omega) (by omega) (kI hh (by omega))
  have v1 : vlOf w fU = .int q1 := vl1 0 1 rfl (by decide) (by decide) (by omega)
  have ok1 : NumOk CS (vlOf w fU) fU q1 := by rw [v1]; exact fun _ _ _ hh => w_numT 16 (by decide) (by decide) (by omega) (by omega) (kI hh (by omega))
  have hA : AllOk CS (([fT, fU] : List D).map (vlOf w)) [fT, fU] [q0, q1] := (.cons ok0 (.cons ok1 .nil))
  have hS : Sm [fT, fU] [q0, q1] := (Sm_cons (by decide) (by omega) (by omega) (Sm_cons (by decide) (by omega) (by omega) Sm_nil))
  have he : encF ((((1 : Nat) : Int) + 1) * 2 ^ 30) [fT, fU] [q0, q1] = 2147483648 + (q0 * 67108864 + q1 * 1) := by
    refine (enc1 26 4 67108864 16 rfl (by decide) (by decide) (by omega) (by omega) (by omega)).trans ?_
    refine (enc1 0 16 1 65536 rfl (by decide) (by decide) (by omega) (by omega) (by omega)).trans ?_
    rw [encF_nil]
    omega
  have hsp : ("high" : Str) = "loadx" ∨ ("high" : Str) = "storex" → ∃ a e : Int, (([fT, fU] : List D).map (vlOf w))[2]? = some (.int a) ∧ (([fT, fU] : List D).map (vlOf w))[3]? = some (.int e) ∧ a + e ≤ 16384 := fun z => absurd z (by decide)
  refine w_dec (i := 1) (n := "high") (fs := [fT, fU]) rfl rfl h0 h1 hi (.inl ⟨fun _ _ _ hh => w_isT1 (i := 1) (fs := [fT, fU]) rfl rfl hA hsp hh, _, fun _ _ _ hh => w_encT (i := 1) (fs := [fT, fU]) rfl rfl hA hS hsp (kI hh he), fun hv => ?_, fun hv => hF (fun z => ?_)⟩)
  · exact kD (hT (by unfold Gd1; (try unfold Hid at *); omega)) (by show D.tup [.str "high", vlOf w fT, vlOf w fU] = _; rw [v0, v1]; (try unfold Hid at *); simp [Tp1, *])
  · unfold Gd1 at z; (try unfold Hid at *); omega
theorem dec_2 {w : Int} {k : D → Os → Prop} {kx : Kx} (h0 : 0 ≤ w) (h1 : w < 68719476736) (hop : w / 1073741824 = 3) (hT : Gd2 (w % 1073741824) → k (Tp2 (w % 1073741824)) []) (hF : ¬ Gd2 (w % 1073741824) → ∀ o, kx ⟨CS 1, [(f_at, .int 0)]⟩ o) : T_decode CS [.int w] [] k kx := by
  have hi : w / 2 ^ 30 = ((2 : Nat) : Int) + 1 := hop
  have e0 : w / 8192 % 32 = (w % 1073741824) / 8192 % 32 := by omega
  have e1 : w / 67108864 % 16 = (w % 1073741824) / 67108864 % 16 := by omega
  have e2 : w / 4194304 % 16 = (w % 1073741824) / 4194304 % 16 := by omega
  have e3 : w / 262144 % 16 = (w % 1073741824) / 262144 % 16 := by omega
  have c0 : 0 ≤ w % 1073741824 ∧ w % 1073741824 < 1073741824 := by omega
  have hw : w = 3221225472 + w % 1073741824 := by omega
  generalize w % 1073741824 = r at *
  clear hop
  have b0 : 0 ≤ r / 8192 % 32 ∧ r / 8192 % 32 < 32 := by omega
  generalize hq0 : r / 8192 % 32 = q0 at e0 b0
  replace hq0 : Hid (r / 8192 % 32 = q0) := hq0
  have b1 : 0 ≤ r / 67108864 % 16 ∧ r / 67108864 % 16 < 16 := by omega
  generalize hq1 : r / 67108864 % 16 = q1 at e1 b1
  replace hq1 : Hid (r / 67108864 % 16 = q1) := hq1
  have b2 : 0 ≤ r / 4194304 % 16 ∧ r / 4194304 % 16 < 16 := by omega
  generalize hq2 : r / 4194304 % 16 = q2 at e2 b2
  replace hq2 : Hid (r / 4194304 % 16 = q2) := hq2
  have b3 : 0 ≤ r / 262144 % 16 ∧ r / 262144 % 16 < 16 := by omega
  generalize hq3 : r / 262144 % 16 = q3 at e3 b3
  replace hq3 : Hid (r / 262144 % 16 = q3) := hq3
  by_cases g0 : q0 ≤ 16
  rotate_left
  · have v0 : vlOf w NF = .str "" := by rw [vlOf, if_pos rfl, show w / 2 ^ 13 % 32 = q0 from e0, if_neg (by omega)]
    have no : NumNo CS (vlOf w NF) NF := by rw [v0]; exact no_str
    refine w_dec (i := 2) (n := "calc") (fs := [NF, fT, fL, fR]) rfl rfl h0 h1 hi (.inr ⟨fun _ _ _ hh => w_isN (i := 2) (fs := [NF, fT, fL, fR]) rfl rfl rfl (.here no) hh, hF (fun z => ?_)⟩)
    unfold Gd2 at z; (try unfold Hid at *); omega
  have v0 : vlOf w NF = .str (CALC.getD q0.toNat "") := by rw [vlOf, if_pos rfl, show w / 2 ^ 13 % 32 = q0 from e0, if_pos (by omega)]
  have ok0 : NumOk CS (vlOf w NF) NF q0 := by rw [v0]; exact fun _ _ _ hh => w_numN (fun _ => kI hh (calc_at (by omega) (by omega)).2) fun z => absurd (calc_at (by omega) (by omega)).1 z
  by_cases g1 : q1 ≤ 8
  rotate_left
  · have v1 : vlOf w fT = .int (q1 - 16) := vl1 26 67108864 rfl (by decide) (by decide) (by omega)
    have no : NumNo CS (vlOf w fT) fT := by rw [v1]; exact fun _ _ _ hh => w_numF (by decide) (by omega) hh
    refine w_dec (i := 2) (n := "calc") (fs := [NF, fT, fL, fR]) rfl rfl h0 h1 hi (.inr ⟨fun _ _ _ hh => w_isN (i := 2) (fs := [NF, fT, fL, fR]) rfl rfl rfl (.there ok0 (.here no)) hh, hF (fun z => ?_)⟩)
    unfold Gd2 at z; (try unfold Hid at *); omega
  have v1 : vlOf w fT = .int q1 := vl1 26 67108864 rfl (by decide) (by decide) (by omega)
  have ok1 : NumOk CS (vlOf w fT) fT q1 := by rw [v1]; exact fun _ _ _ hh => w_numT 4 (by decide) (by decide) (by omega) (by omega) (kI hh (by omega))
  by_cases g2 : q2 ≤ 8
  rotate_left
  · have v2 : vlOf w fL = .int (q2 - 16) := vl1 22 4194304 rfl (by decide) (by decide) (by omega)
    have no : NumNo CS (vlOf w fL) fL := by rw [v2]; exact fun _ _ _ hh => w_numF (by decide) (by omega) hh
    refine w_dec (i := 2) (n := "calc") (fs := [NF, fT, fL, fR]) rfl rfl h0 h1 hi (.inr ⟨fun _ _ _ hh => w_isN (i := 2) (fs := [NF, fT, fL, fR]) rfl rfl rfl (.there ok0 (.there ok1 (.here no))) hh, hF (fun z => ?_)⟩)
    unfold Gd2 at z; (try unfold Hid at *); omega
  have v2 : vlOf w fL = .int q2 := vl1 22 4194304 rfl (by decide) (by decide) (by omega)
  have ok2 : NumOk CS (vlOf w fL) fL q2 := by rw [v2]; exact fun _ _ _ hh => w_numT 4 (by decide) (by decide) (by omega) (by omega) (kI hh (by omega))
  by_cases g3 : q3 ≤ 8
  rotate_left
  · have v3 : vlOf w fR = .int (q3 - 16) := vl1 18 262144 rfl (by decide) (by decide) (by omega)
    have no : NumNo CS (vlOf w fR) fR := by rw [v3]; exact fun _ _ _ hh => w_numF (by decide) (by omega) hh
    refine w_dec (i := 2) (n := "calc") (fs := [NF, fT, fL, fR]) rfl rfl h0 h1 hi (.inr ⟨fun _ _ _ hh => w_isN (i := 2) (fs := [NF, fT, fL, fR]) rfl rfl rfl (.there ok0 (.there ok1 (.there ok2 (.here no)))) hh, hF (fun z => ?_)⟩)
    unfold Gd2 at z; (try unfold Hid at *); omega
  have v3 : vlOf w fR = .int q3 := vl1 18 262144 rfl (by decide) (by decide) (by omega)
  have ok3 : NumOk CS (vlOf w fR) fR q3 := by rw [v3]; exact fun _ _ _ hh => w_numT 4 (by decide) (by decide) (by omega) (by omega) (kI hh (by omega))
  have hA : AllOk CS (([NF, fT, fL, fR] : List D).map (vlOf w)) [NF, fT, fL, fR] [q0, q1, q2, q3] := (.cons ok0 (.cons ok1 (.cons ok2 (.cons ok3 .nil))))
  have hS : Sm [NF, fT, fL, fR] [q0, q1, q2, q3] := (Sm_cons (by decide) (by omega) (by omega) (Sm_cons (by decide) (by omega) (by omega) (Sm_cons (by decide) (by omega) (by omega) (Sm_cons (by decide) (by omega) (by omega) Sm_nil))))
  have he : encF ((((2 : Nat) : Int) + 1) * 2 ^ 30) [NF, fT, fL, fR] [q0, q1, q2, q3] = 3221225472 + (q0 * 8192 + q1 * 67108864 + q2 * 4194304 + q3 * 262144) := by
    refine (enc1 13 5 8192 32 rfl (by decide) (by decide) (by omega) (by omega) (by omega)).trans ?_
    refine (enc1 26 4 67108864 16 rfl (by decide) (by decide) (by omega) (by omega) (by omega)).trans ?_
    refine (enc1 22 4 4194304 16 rfl (by decide) (by decide) (by omega) (by omega) (by omega)).trans ?_
    refine (enc1 18 4 262144 16 rfl (by decide) (by decide) (by omega) (by omega) (by omega)).trans ?_
    rw [encF_nil]
    omega
  have hsp : ("calc" : Str) = "loadx" ∨ ("calc" : Str) = "storex" → ∃ a e : Int, (([NF, fT, fL, fR] : List D).map (vlOf w))[2]? = some (.int a) ∧ (([NF, fT, fL, fR] : List D).map (vlOf w))[3]? = some (.int e) ∧ a + e ≤ 16384 := fun z => absurd z (by decide)
  refine w_dec (i := 2) (n := "calc") (fs := [NF, fT, fL, fR]) rfl rfl h0 h1 hi (.inl ⟨fun _ _ _ hh => w_isT1 (i := 2) (fs := [NF, fT, fL, fR]) rfl rfl hA hsp hh, _, fun _ _ _ hh => w_encT (i := 2) (fs := [NF, fT, fL, fR]) rfl rfl hA hS hsp (kI hh he), fun hv => ?_, fun hv => hF (fun z => ?_)⟩)
  · exact kD (hT (by unfold Gd2; (try unfold Hid at *); omega)) (by show D.tup [.str "calc", vlOf w NF, vlOf w fT, vlOf w fL, vlOf w fR] = _; rw [v0, v1, v2, v3]; (try unfold Hid at *); simp [Tp2, *])
  · unfold Gd2 at z; (try unfold Hid at *); omega
theorem dec_3 {w : Int} {k : D → Os → Prop} {kx : Kx} (h0 : 0 ≤ w) (h1 : w < 68719476736) (hop : w / 1073741824 = 4) (hT : Gd3 (w % 1073741824) → k (Tp3 (w % 1073741824)) []) (hF : ¬ Gd3 (w % 1073741824) → ∀ o, kx ⟨CS 1, [(f_at, .int 0)]⟩ o) : T_decode CS [.int w] [] k kx := by
  have hi : w / 2 ^ 30 = ((3 : Nat) : Int) + 1 := hop
  have e0 : w / 67108864 % 16 = (w % 1073741824) / 67108864 % 16 := by omega
  have e1 : w / 1 % 16384 = (w % 1073741824) % 16384 := by omega
  have c0 : 0 ≤ w % 1073741824 ∧ w % 1073741824 < 1073741824 := by omega
  have hw : w = 4294967296 + w % 1073741824 := by omega
  generalize w % 1073741824 = r at *
  clear hop
  have b0 : 0 ≤ r / 67108864 % 16 ∧ r / 67108864 % 16 < 16 := by omega
  generalize hq0 : r / 67108864 % 16 = q0 at e0 b0
  replace hq0 : Hid (r / 67108864 % 16 = q0) := hq0
  have b1 : 0 ≤ r % 16384 ∧ r % 16384 < 16384 := by omega
  generalize hq1 : r % 16384 = q1 at e1 b1
  replace hq1 : Hid (r % 16384 = q1) := hq1
  by_cases g0 : q0 ≤ 8
  rotate_left
  · have v0 : vlOf w fT = .int (q0 - 16) := vl1 26 67108864 rfl (by decide) (by decide) (by omega)
    have no : NumNo CS (vlOf w fT) fT := by rw [v0]; exact fun _ _ _ hh => w_numF (by decide) (by omega) hh
    refine w_dec (i := 3) (n := "load") (fs := [fT, fA]) rfl rfl h0 h1 hi (.inr ⟨fun _ _ _ hh => w_isN (i := 3) (fs := [fT, fA]) rfl rfl rfl (.here no) hh, hF (fun z => ?_)⟩)
    unfold Gd3 at z; (try unfold Hid at *); omega
  have v0 : vlOf w fT = .int q0 := vl1 26 67108864 rfl (by decide) (by decide) (by omega)
  have ok0 : NumOk CS (vlOf w fT) fT q0 := by rw [v0]; exact fun _ _ _ hh => w_numT 4 (by decide) (by decide) (by omega) (by omega) (kI hh (by omega))
  have v1 : vlOf w fA = .int q1 := vl1 0 1 rfl (by decide) (by decide) (by omega)
  have ok1 : NumOk CS (vlOf w fA) fA q1 := by rw [v1]; exact fun _ _ _ hh => w_numT 14 (by decide) (by decide) (by omega) (by omega) (kI hh (by omega))
  have hA : AllOk CS (([fT, fA] : List D).map (vlOf w)) [fT, fA] [q0, q1] := (.cons ok0 (.cons ok1 .nil))
  have hS : Sm [fT, fA] [q0, q1] := (Sm_cons (by decide) (by omega) (by omega) (Sm_cons (by decide) (by omega) (by omega) Sm_nil))
  have he : encF ((((3 : Nat) : Int) + 1) * 2 ^ 30) [fT, fA] [q0, q1] = 4294967296 + (q0 * 67108864 + q1 * 1) := by
    refine (enc1 26 4 67108864 16 rfl (by decide) (by decide) (by omega) (by omega) (by omega)).trans ?_
    refine (enc1 0 14 1 16384 rfl (by decide) (by decide) (by omega) (by omega) (by omega)).trans ?_
    rw [encF_nil]
    omega
  have hsp : ("load" : Str) = "loadx" ∨ ("load" : Str) = "storex" → ∃ a e : Int, (([fT, fA] : List D).map (vlOf w))[2]? = some (.int a) ∧ (([fT, fA] : List D).map (vlOf w))[3]? = some (.int e) ∧ a + e ≤ 16384 := fun z => absurd z (by decide)
  refine w_dec (i := 3) (n := "load") (fs := [fT, fA]) rfl rfl h0 h1 hi (.inl ⟨fun _ _ _ hh => w_isT1 (i := 3) (fs := [fT, fA]) rfl rfl hA hsp hh, _, fun _ _ _ hh => w_encT (i := 3) (fs := [fT, fA]) rfl rfl hA hS hsp (kI hh he), fun hv => ?_, fun hv => hF (fun z => ?_)⟩)
  · exact kD (hT (by unfold Gd3; (try unfold Hid at *); omega)) (by show D.tup [.str "load", vlOf w fT, vlOf w fA] = _; rw [v0, v1]; (try unfold Hid at *); simp [Tp3, *])
  · unfold Gd3 at z; (try unfold Hid at *); omega
theorem dec_4 {w : Int} {k : D → Os → Prop} {kx : Kx} (h0 : 0 ≤ w) (h1 : w < 68719476736) (hop : w / 1073741824 = 5) (hT : Gd4 (w % 1073741824) → k (Tp4 (w % 1073741824)) []) (hF : ¬ Gd4 (w % 1073741824) → ∀ o, kx ⟨CS 1, [(f_at, .int 0)]⟩ o) : T_decode CS [.int w] [] k kx := by
  have hi : w / 2 ^ 30 = ((4 : Nat) : Int) + 1 := hop
  have e0 : w / 67108864 % 16 = (w % 1073741824) / 67108864 % 16 := by omega
  have e1 : w / 1 % 16384 = (w % 1073741824) % 16384 := by omega
  have c0 : 0 ≤ w % 1073741824 ∧ w % 1073741824 < 1073741824 := by omega
  have hw : w = 5368709120 + w % 1073741824 := by omega
  generalize w % 1073741824 = r at *
  clear hop
  have b0 : 0 ≤ r / 67108864 % 16 ∧ r / 67108864 % 16 < 16 := by omega
  generalize hq0 : r / 67108864 % 16 = q0 at e0 b0
  replace hq0 : Hid (r / 67108864 % 16 = q0) := hq0
  have b1 : 0 ≤ r % 16384 ∧ r % 16384 < 16384 := by omega
  generalize hq1 : r % 16384 = q1 at e1 b1
  replace hq1 : Hid (r % 16384 = q1) := hq1
  by_cases g0 : q0 ≤ 8
  rotate_left
  · have v0 : vlOf w fT = .int (q0 - 16) := vl1 26 67108864 rfl (by decide) (by decide) (by omega)
    have no : NumNo CS (vlOf w fT) fT := by rw [v0]; exact fun _ _ _ hh => w_numF (by decide) (by omega) hh
    refine w_dec (i := 4) (n := "store") (fs := [fT, fA]) rfl rfl h0 h1 hi (.inr ⟨fun _ _ _ hh => w_isN (i := 4) (fs := [fT, fA]) rfl rfl rfl (.here no) hh, hF (fun z => ?_)⟩)
    unfold Gd4 at z; (try unfold Hid at *); omega
  have v0 : vlOf w fT = .int q0 := vl1 26 67108864 rfl (by decide) (by decide) (by omega)
  have ok0 : NumOk CS (vlOf w fT) fT q0 := by rw [v0]; exact fun _ _ _ hh => w_numT 4 (by decide) (by decide) (by omega) (by omega) (kI hh (by omega))
  have v1 : vlOf w fA = .int q1 := vl1 0 1 rfl (by decide) (by decide) (by omega)
  have ok1 : NumOk CS (vlOf w fA) fA q1 := by rw [v1]; exact fun _ _ _ hh => w_numT 14 (by decide) (by decide) (by omega) (by omega) (kI hh (by omega))
  have hA : AllOk CS (([fT, fA] : List D).map (vlOf w)) [fT, fA] [q0, q1] := (.cons ok0 (.cons ok1 .nil))
  have hS : Sm [fT, fA] [q0, q1] := (Sm_cons (by decide) (by omega) (by omega) (Sm_cons (by decide) (by omega) (by omega) Sm_nil))
  have he : encF ((((4 : Nat) : Int) + 1) * 2 ^ 30) [fT, fA] [q0, q1] = 5368709120 + (q0 * 67108864 + q1 * 1) := by
    refine (enc1 26 4 67108864 16 rfl (by decide) (by decide) (by omega) (by omega) (by omega)).trans ?_
    refine (enc1 0 14 1 16384 rfl (by decide) (by decide) (by omega) (by omega) (by omega)).trans ?_
    rw [encF_nil]
    omega
  have hsp : ("store" : Str) = "loadx" ∨ ("store" : Str) = "storex" → ∃ a e : Int, (([fT, fA] : List D).map (vlOf w))[2]? = some (.int a) ∧ (([fT, fA] : List D).map (vlOf w))[3]? = some (.int e) ∧ a + e ≤ 16384 := fun z => absurd z (by decide)
  refine w_dec (i := 4) (n := "store") (fs := [fT, fA]) rfl rfl h0 h1 hi (.inl ⟨fun _ _ _ hh => w_isT1 (i := 4) (fs := [fT, fA]) rfl rfl hA hsp hh, _, fun _ _ _ hh => w_encT (i := 4) (fs := [fT, fA]) rfl rfl hA hS hsp (kI hh he), fun hv => ?_, fun hv => hF (fun z => ?_)⟩)
  · exact kD (hT (by unfold Gd4; (try unfold Hid at *); omega)) (by show D.tup [.str "store", vlOf w fT, vlOf w fA] = _; rw [v0, v1]; (try unfold Hid at *); simp [Tp4, *])
  · unfold Gd4 at z; (try unfold Hid at *); omega
theorem dec_5 {w : Int} {k : D → Os → Prop} {kx : Kx} (h0 : 0 ≤ w) (h1 : w < 68719476736) (hop : w / 1073741824 = 6) (hT : Gd5 (w % 1073741824) → k (Tp5 (w % 1073741824)) []) (hF : ¬ Gd5 (w % 1073741824) → ∀ o, kx ⟨CS 1, [(f_at, .int 0)]⟩ o) : T_decode CS [.int w] [] k kx := by
  have hi : w / 2 ^ 30 = ((5 : Nat) : Int) + 1 := hop
  have e0 : w / 67108864 % 16 = (w % 1073741824) / 67108864 % 16 := by omega
  have e1 : w / 4194304 % 16 = (w % 1073741824) / 4194304 % 16 := by omega
  have e2 : w / 1 % 16384 = (w % 1073741824) % 16384 := by omega
  have e3 : w / 16384 % 64 = (w % 1073741824) / 16384 % 64 := by omega
  have c0 : 0 ≤ w % 1073741824 ∧ w % 1073741824 < 1073741824 := by omega
  have hw : w = 6442450944 + w % 1073741824 := by omega
  generalize w % 1073741824 = r at *
  clear hop
  have b0 : 0 ≤ r / 67108864 % 16 ∧ r / 67108864 % 16 < 16 := by omega
  generalize hq0 : r / 67108864 % 16 = q0 at e0 b0
  replace hq0 : Hid (r / 67108864 % 16 = q0) := hq0
  have b1 : 0 ≤ r / 4194304 % 16 ∧ r / 4194304 % 16 < 16 := by omega
  generalize hq1 : r / 4194304 % 16 = q1 at e1 b1
  replace hq1 : Hid (r / 4194304 % 16 = q1) := hq1
  have b2 : 0 ≤ r % 16384 ∧ r % 16384 < 16384 := by omega
  generalize hq2 : r % 16384 = q2 at e2 b2
  replace hq2 : Hid (r % 16384 = q2) := hq2
  have b3 : 0 ≤ r / 16384 % 64 ∧ r / 16384 % 64 < 64 := by omega
  generalize hq3 : r / 16384 % 64 = q3 at e3 b3
  replace hq3 : Hid (r / 16384 % 64 = q3) := hq3
  by_cases g0 : q0 ≤ 8
  rotate_left
  · have v0 : vlOf w fT = .int (q0 - 16) := vl1 26 67108864 rfl (by decide) (by decide) (by omega)
    have no : NumNo CS (vlOf w fT) fT := by rw [v0]; exact fun _ _ _ hh => w_numF (by decide) (by omega) hh
    refine w_dec (i := 5) (n := "loadx") (fs := [fT, fL, fA, fE]) rfl rfl h0 h1 hi (.inr ⟨fun _ _ _ hh => w_isN (i := 5) (fs := [fT, fL, fA, fE]) rfl rfl rfl (.here no) hh, hF (fun z => ?_)⟩)
    unfold Gd5 at z; (try unfold Hid at *); omega
  have v0 : vlOf w fT = .int q0 := vl1 26 67108864 rfl (by decide) (by decide) (by omega)
  have ok0 : NumOk CS (vlOf w fT) fT q0 := by rw [v0]; exact fun _ _ _ hh => w_numT 4 (by decide) (by decide) (by omega) (by omega) (kI hh (by omega))
  by_cases g1 : q1 ≤ 8
  rotate_left
  · have v1 : vlOf w fL = .int (q1 - 16) := vl1 22 4194304 rfl (by decide) (by decide) (by omega)
    have no : NumNo CS (vlOf w fL) fL := by rw [v1]; exact fun _ _ _ hh => w_numF (by decide) (by omega) hh
    refine w_dec (i := 5) (n := "loadx") (fs := [fT, fL, fA, fE]) rfl rfl h0 h1 hi (.inr ⟨fun _ _ _ hh => w_isN (i := 5) (fs := [fT, fL, fA, fE]) rfl rfl rfl (.there ok0 (.here no)) hh, hF (fun z => ?_)⟩)
    unfold Gd5 at z; (try unfold Hid at *); omega
  have v1 : vlOf w fL = .int q1 := vl1 22 4194304 rfl (by decide) (by decide) (by omega)
  have ok1 : NumOk CS (vlOf w fL) fL q1 := by rw [v1]; exact fun _ _ _ hh => w_numT 4 (by decide) (by decide) (by omega) (by omega) (kI hh (by omega))
  have v2 : vlOf w fA = .int q2 := vl1 0 1 rfl (by decide) (by decide) (by omega)
  have ok2 : NumOk CS (vlOf w fA) fA q2 := by rw [v2]; exact fun _ _ _ hh => w_numT 14 (by decide) (by decide) (by omega) (by omega) (kI hh (by omega))
  have v3 : vlOf w fE = .int (q3 + 1) := vl1 14 16384 rfl (by decide) (by decide) (by omega)
  have ok3 : NumOk CS (vlOf w fE) fE q3 := by rw [v3]; exact fun _ _ _ hh => w_numT 6 (by decide) (by decide) (by omega) (by omega) (kI hh (by omega))
  have hA : AllOk CS (([fT, fL, fA, fE] : List D).map (vlOf w)) [fT, fL, fA, fE] [q0, q1, q2, q3] := (.cons ok0 (.cons ok1 (.cons ok2 (.cons ok3 .nil))))
  have hS : Sm [fT, fL, fA, fE] [q0, q1, q2, q3] := (Sm_cons (by decide) (by omega) (by omega) (Sm_cons (by decide) (by omega) (by omega) (Sm_cons (by decide) (by omega) (by omega) (Sm_cons (by decide) (by omega) (by omega) Sm_nil))))
  have he : encF ((((5 : Nat) : Int) + 1) * 2 ^ 30) [fT, fL, fA, fE] [q0, q1, q2, q3] = 6442450944 + (q0 * 67108864 + q1 * 4194304 + q2 * 1 + q3 * 16384) := by
    refine (enc1 26 4 67108864 16 rfl (by decide) (by decide) (by omega) (by omega) (by omega)).trans ?_
    refine (enc1 22 4 4194304 16 rfl (by decide) (by decide) (by omega) (by omega) (by omega)).trans ?_
    refine (enc1 0 14 1 16384 rfl (by decide) (by decide) (by omega) (by omega) (by omega)).trans ?_
    refine (enc1 14 6 16384 64 rfl (by decide) (by decide) (by omega) (by omega) (by omega)).trans ?_
    rw [encF_nil]
    omega
  by_cases gs : q2 + (q3 + 1) ≤ 16384
  rotate_left
  · refine w_dec (i := 5) (n := "loadx") (fs := [fT, fL, fA, fE]) rfl rfl h0 h1 hi (.inr ⟨fun _ _ _ hh => w_isT (i := 5) (fs := [fT, fL, fA, fE]) rfl rfl hA (fun _ => ⟨q2, q3 + 1, by show some (vlOf w fA) = _; rw [v2], by show some (vlOf w fE) = _; rw [v3], kB hh (decide_eq_false gs)⟩) (fun z => absurd (by decide) z), hF (fun z => ?_)⟩)
    unfold Gd5 at z; (try unfold Hid at *); omega
  have hsp : ("loadx" : Str) = "loadx" ∨ ("loadx" : Str) = "storex" → ∃ a e : Int, (([fT, fL, fA, fE] : List D).map (vlOf w))[2]? = some (.int a) ∧ (([fT, fL, fA, fE] : List D).map (vlOf w))[3]? = some (.int e) ∧ a + e ≤ 16384 := fun _ => ⟨q2, q3 + 1, by show some (vlOf w fA) = _; rw [v2], by show some (vlOf w fE) = _; rw [v3], gs⟩
  refine w_dec (i := 5) (n := "loadx") (fs := [fT, fL, fA, fE]) rfl rfl h0 h1 hi (.inl ⟨fun _ _ _ hh => w_isT1 (i := 5) (fs := [fT, fL, fA, fE]) rfl rfl hA hsp hh, _, fun _ _ _ hh => w_encT (i := 5) (fs := [fT, fL, fA, fE]) rfl rfl hA hS hsp (kI hh he), fun hv => ?_, fun hv => hF (fun z => ?_)⟩)
  · exact kD (hT (by unfold Gd5; (try unfold Hid at *); omega)) (by show D.tup [.str "loadx", vlOf w fT, vlOf w fL, vlOf w fA, vlOf w fE] = _; rw [v0, v1, v2, v3]; (try unfold Hid at *); simp [Tp5, *])
  · unfold Gd5 at z; (try unfold Hid at *); omega
theorem dec_6 {w : Int} {k : D → Os → Prop} {kx : Kx} (h0 : 0 ≤ w) (h1 : w < 68719476736) (hop : w / 1073741824 = 7) (hT : Gd6 (w % 1073741824) → k (Tp6 (w % 1073741824)) []) (hF : ¬ Gd6 (w % 1073741824) → ∀ o, kx ⟨CS 1, [(f_at, .int 0)]⟩ o) : T_decode CS [.int w] [] k kx := by
  have hi : w / 2 ^ 30 = ((6 : Nat) : Int) + 1 := hop
  have e0 : w / 67108864 % 16 = (w % 1073741824) / 67108864 % 16 := by omega
  have e1 : w / 4194304 % 16 = (w % 1073741824) / 4194304 % 16 := by omega
  have e2 : w / 1 % 16384 = (w % 1073741824) % 16384 := by omega
  have e3 : w / 16384 % 64 = (w % 1073741824) / 16384 % 64 := by omega
  have c0 : 0 ≤ w % 1073741824 ∧ w % 1073741824 < 1073741824 := by omega
  have hw : w = 7516192768 + w % 1073741824 := by omega
  generalize w % 1073741824 = r at *
  clear hop
  have b0 : 0 ≤ r / 67108864 % 16 ∧ r / 67108864 % 16 < 16 := by omega
  generalize hq0 : r / 67108864 % 16 = q0 at e0 b0
  replace hq0 : Hid (r / 67108864 % 16 = q0) := hq0
  have b1 : 0 ≤ r / 4194304 % 16 ∧ r / 4194304 % 16 < 16 := by omega
  generalize hq1 : r / 4194304 % 16 = q1 at e1 b1
  replace hq1 : Hid (r / 4194304 % 16 = q1) := hq1
  have b2 : 0 ≤ r % 16384 ∧ r % 16384 < 16384 := by omega
  generalize hq2 : r % 16384 = q2 at e2 b2
  replace hq2 : Hid (r % 16384 = q2) := hq2
  have b3 : 0 ≤ r / 16384 % 64 ∧ r / 16384 % 64 < 64 := by omega
  generalize hq3 : r / 16384 % 64 = q3 at e3 b3
  replace hq3 : Hid (r / 16384 % 64 = q3) := hq3
  by_cases g0 : q0 ≤ 8
  rotate_left
  · have v0 : vlOf w fT = .int (q0 - 16) := vl1 26 67108864 rfl (by decide) (by decide) (by omega)
    have no : NumNo CS (vlOf w fT) fT := by rw [v0]; exact fun _ _ _ hh => w_numF (by decide) (by omega) hh
    refine w_dec (i := 6) (n := "storex") (fs := [fT, fL, fA, fE]) rfl rfl h0 h1 hi (.inr ⟨fun _ _ _ hh => w_isN (i := 6) (fs := [fT, fL, fA, fE]) rfl rfl rfl (.here no) hh, hF (fun z => ?_)⟩)
    unfold Gd6 at z; (try unfold Hid at *); omega
  have v0 : vlOf w fT = .int q0 := vl1 26 67108864 rfl (by decide) (by decide) (by omega)
  have ok0 : NumOk CS (vlOf w fT) fT q0 := by rw [v0]; exact fun _ _ _ hh => w_numT 4 (by decide) (by decide) (by omega) (by omega) (kI hh (by omega))
  by_cases g1 : q1 ≤ 8
  rotate_left
  · have v1 : vlOf w fL = .int (q1 - 16) := vl1 22 4194304 rfl (by decide) (by decide) (by omega)
    have no : NumNo CS (vlOf w fL) fL := by rw [v1]; exact fun _ _ _ hh => w_numF (by decide) (by omega) hh
    refine w_dec (i := 6) (n := "storex") (fs := [fT, fL, fA, fE]) rfl rfl h0 h1 hi (.inr ⟨fun _ _ _ hh => w_isN (i := 6) (fs := [fT, fL, fA, fE]) rfl rfl rfl (.there ok0 (.here no)) hh, hF (fun z => ?_)⟩)
    unfold Gd6 at z; (try unfold Hid at *); omega
  have v1 : vlOf w fL = .int q1 := vl1 22 4194304 rfl (by decide) (by decide) (by omega)
  have ok1 : NumOk CS (vlOf w fL) fL q1 := by rw [v1]; exact fun _ _ _ hh => w_numT 4 (by decide) (by decide) (by omega) (by omega) (kI hh (by omega))
  have v2 : vlOf w fA = .int q2 := vl1 0 1 rfl (by decide) (by decide) (by omega)
  have ok2 : NumOk CS (vlOf w fA) fA q2 := by rw [v2]; exact fun _ _ _ hh => w_numT 14 (by decide) (by decide) (by omega) (by omega) (kI hh (by omega))
  have v3 : vlOf w fE = .int (q3 + 1) := vl1 14 16384 rfl (by decide) (by decide) (by omega)
  have ok3 : NumOk CS (vlOf w fE) fE q3 := by rw [v3]; exact fun _ _ _ hh => w_numT 6 (by decide) (by decide) (by omega) (by omega) (kI hh (by omega))
  have hA : AllOk CS (([fT, fL, fA, fE] : List D).map (vlOf w)) [fT, fL, fA, fE] [q0, q1, q2, q3] := (.cons ok0 (.cons ok1 (.cons ok2 (.cons ok3 .nil))))
  have hS : Sm [fT, fL, fA, fE] [q0, q1, q2, q3] := (Sm_cons (by decide) (by omega) (by omega) (Sm_cons (by decide) (by omega) (by omega) (Sm_cons (by decide) (by omega) (by omega) (Sm_cons (by decide) (by omega) (by omega) Sm_nil))))
  have he : encF ((((6 : Nat) : Int) + 1) * 2 ^ 30) [fT, fL, fA, fE] [q0, q1, q2, q3] = 7516192768 + (q0 * 67108864 + q1 * 4194304 + q2 * 1 + q3 * 16384) := by
    refine (enc1 26 4 67108864 16 rfl (by decide) (by decide) (by omega) (by omega) (by omega)).trans ?_
    refine (enc1 22 4 4194304 16 rfl (by decide) (by decide) (by omega) (by omega) (by omega)).trans ?_
    refine (enc1 0 14 1 16384 rfl (by decide) (by decide) (by omega) (by omega) (by omega)).trans ?_
    refine (enc1 14 6 16384 64 rfl (by decide) (by decide) (by omega) (by omega) (by omega)).trans ?_
    rw [encF_nil]
    omega
  by_cases gs : q2 + (q3 + 1) ≤ 16384
  rotate_left
  · refine w_dec (i := 6) (n := "storex") (fs := [fT, fL, fA, fE]) rfl rfl h0 h1 hi (.inr ⟨fun _ _ _ hh => w_isT (i := 6) (fs := [fT, fL, fA, fE]) rfl rfl hA (fun _ => ⟨q2, q3 + 1, by show some (vlOf w fA) = _; rw [v2], by show some (vlOf w fE) = _; rw [v3], kB hh (decide_eq_false gs)⟩) (fun z => absurd (by decide) z), hF (fun z => ?_)⟩)
    unfold Gd6 at z; (try unfold Hid at *); omega
  have hsp : ("storex" : Str) = "loadx" ∨ ("storex" : Str) = "storex" → ∃ a e : Int, (([fT, fL, fA, fE] : List D).map (vlOf w))[2]? = some (.int a) ∧ (([fT, fL, fA, fE] : List D).map (vlOf w))[3]? = some (.int e) ∧ a + e ≤ 16384 := fun _ => ⟨q2, q3 + 1, by show some (vlOf w fA) = _; rw [v2], by show some (vlOf w fE) = _; rw [v3], gs⟩
  refine w_dec (i := 6) (n := "storex") (fs := [fT, fL, fA, fE]) rfl rfl h0 h1 hi (.inl ⟨fun _ _ _ hh => w_isT1 (i := 6) (fs := [fT, fL, fA, fE]) rfl rfl hA hsp hh, _, fun _ _ _ hh => w_encT (i := 6) (fs := [fT, fL, fA, fE]) rfl rfl hA hS hsp (kI hh he), fun hv => ?_, fun hv => hF (fun z => ?_)⟩)
  · exact kD (hT (by unfold Gd6; (try unfold Hid at *); omega)) (by show D.tup [.str "storex", vlOf w fT, vlOf w fL, vlOf w fA, vlOf w fE] = _; rw [v0, v1, v2, v3]; (try unfold Hid at *); simp [Tp6, *])
  · unfold Gd6 at z; (try unfold Hid at *); omega
theorem dec_7 {w : Int} {k : D → Os → Prop} {kx : Kx} (h0 : 0 ≤ w) (h1 : w < 68719476736) (hop : w / 1073741824 = 8) (hT : Gd7 (w % 1073741824) → k (Tp7 (w % 1073741824)) []) (hF : ¬ Gd7 (w % 1073741824) → ∀ o, kx ⟨CS 1, [(f_at, .int 0)]⟩ o) : T_decode CS [.int w] [] k kx := by
  have hi : w / 2 ^ 30 = ((7 : Nat) : Int) + 1 := hop
  have e0 : w / 1 % 4096 = (w % 1073741824) % 4096 := by omega
  have c0 : 0 ≤ w % 1073741824 ∧ w % 1073741824 < 1073741824 := by omega
  have hw : w = 8589934592 + w % 1073741824 := by omega
  generalize w % 1073741824 = r at *
  clear hop
  have b0 : 0 ≤ r % 4096 ∧ r % 4096 < 4096 := by omega
  generalize hq0 : r % 4096 = q0 at e0 b0
  replace hq0 : Hid (r % 4096 = q0) := hq0
  have v0 : vlOf w fP = .int q0 := vl1 0 1 rfl (by decide) (by decide) (by omega)
  have ok0 : NumOk CS (vlOf w fP) fP q0 := by rw [v0]; exact fun _ _ _ hh => w_numT 12 (by decide) (by decide) (by omega) (by omega) (kI hh (by omega))
  have hA : AllOk CS (([fP] : List D).map (vlOf w)) [fP] [q0] := (.cons ok0 .nil)
  have hS : Sm [fP] [q0] := (Sm_cons (by decide) (by omega) (by omega) Sm_nil)
  have he : encF ((((7 : Nat) : Int) + 1) * 2 ^ 30) [fP] [q0] = 8589934592 + (q0 * 1) := by
    refine (enc1 0 12 1 4096 rfl (by decide) (by decide) (by omega) (by omega) (by omega)).trans ?_
    rw [encF_nil]
    omega
  have hsp : ("jump" : Str) = "loadx" ∨ ("jump" : Str) = "storex" → ∃ a e : Int, (([fP] : List D).map (vlOf w))[2]? = some (.int a) ∧ (([fP] : List D).map (vlOf w))[3]? = some (.int e) ∧ a + e ≤ 16384 := fun z => absurd z (by decide)
  refine w_dec (i := 7) (n := "jump") (fs := [fP]) rfl rfl h0 h1 hi (.inl ⟨fun _ _ _ hh => w_isT1 (i := 7) (fs := [fP]) rfl rfl hA hsp hh, _, fun _ _ _ hh => w_encT (i := 7) (fs := [fP]) rfl rfl hA hS hsp (kI hh he), fun hv => ?_, fun hv => hF (fun z => ?_)⟩)
  · exact kD (hT (by unfold Gd7; (try unfold Hid at *); omega)) (by show D.tup [.str "jump", vlOf w fP] = _; rw [v0]; (try unfold Hid at *); simp [Tp7, *])
  · unfold Gd7 at z; (try unfold Hid at *); omega
theorem dec_8 {w : Int} {k : D → Os → Prop} {kx : Kx} (h0 : 0 ≤ w) (h1 : w < 68719476736) (hop : w / 1073741824 = 9) (hT : Gd8 (w % 1073741824) → k (Tp8 (w % 1073741824)) []) (hF : ¬ Gd8 (w % 1073741824) → ∀ o, kx ⟨CS 1, [(f_at, .int 0)]⟩ o) : T_decode CS [.int w] [] k kx := by
  have hi : w / 2 ^ 30 = ((8 : Nat) : Int) + 1 := hop
  have e0 : w / 67108864 % 16 = (w % 1073741824) / 67108864 % 16 := by omega
  have e1 : w / 1 % 4096 = (w % 1073741824) % 4096 := by omega
  have c0 : 0 ≤ w % 1073741824 ∧ w % 1073741824 < 1073741824 := by omega
  have hw : w = 9663676416 + w % 1073741824 := by omega
  generalize w % 1073741824 = r at *
  clear hop
  have b0 : 0 ≤ r / 67108864 % 16 ∧ r / 67108864 % 16 < 16 := by omega
  generalize hq0 : r / 67108864 % 16 = q0 at e0 b0
  replace hq0 : Hid (r / 67108864 % 16 = q0) := hq0
  have b1 : 0 ≤ r % 4096 ∧ r % 4096 < 4096 := by omega
  generalize hq1 : r % 4096 = q1 at e1 b1
  replace hq1 : Hid (r % 4096 = q1) := hq1
  by_cases g0 : q0 ≤ 8
  rotate_left
  · have v0 : vlOf w fT = .int (q0 - 16) := vl1 26 67108864 rfl (by decide) (by decide) (by omega)
    have no : NumNo CS (vlOf w fT) fT := by rw [v0]; exact fun _ _ _ hh => w_numF (by decide) (by omega) hh
    refine w_dec (i := 8) (n := "jzero") (fs := [fT, fP]) rfl rfl h0 h1 hi (.inr ⟨fun _ _ _ hh => w_isN (i := 8) (fs := [fT, fP]) rfl rfl rfl (.here no) hh, hF (fun z => ?_)⟩)
    unfold Gd8 at z; (try unfold Hid at *); omega
  have v0 : vlOf w fT = .int q0 := vl1 26 67108864 rfl (by decide) (by decide) (by omega)
  have ok0 : NumOk CS (vlOf w fT) fT q0 := by rw [v0]; exact fun _ _ _ hh => w_numT 4 (by decide) (by decide) (by omega) (by omega) (kI hh (by omega))
  have v1 : vlOf w fP = .int q1 := vl1 0 1 rfl (by decide) (by decide) (by omega)
  have ok1 : NumOk CS (vlOf w fP) fP q1 := by rw [v1]; exact fun _ _ _ hh => w_numT 12 (by decide) (by decide) (by omega) (by omega) (kI hh (by omega))
  have hA : AllOk CS (([fT, fP] : List D).map (vlOf w)) [fT, fP] [q0, q1] := (.cons ok0 (.cons ok1 .nil))
  have hS : Sm [fT, fP] [q0, q1] := (Sm_cons (by decide) (by omega) (by omega) (Sm_cons (by decide) (by omega) (by omega) Sm_nil))
  have he : encF ((((8 : Nat) : Int) + 1) * 2 ^ 30) [fT, fP] [q0, q1] = 9663676416 + (q0 * 67108864 + q1 * 1) := by
    refine (enc1 26 4 67108864 16 rfl (by decide) (by decide) (by omega) (by omega) (by omega)).trans ?_
    refine (enc1 0 12 1 4096 rfl (by decide) (by decide) (by omega) (by omega) (by omega)).trans ?_
    rw [encF_nil]
    omega
  have hsp : ("jzero" : Str) = "loadx" ∨ ("jzero" : Str) = "storex" → ∃ a e : Int, (([fT, fP] : List D).map (vlOf w))[2]? = some (.int a) ∧ (([fT, fP] : List D).map (vlOf w))[3]? = some (.int e) ∧ a + e ≤ 16384 := fun z => absurd z (by decide)
  refine w_dec (i := 8) (n := "jzero") (fs := [fT, fP]) rfl rfl h0 h1 hi (.inl ⟨fun _ _ _ hh => w_isT1 (i := 8) (fs := [fT, fP]) rfl rfl hA hsp hh, _, fun _ _ _ hh => w_encT (i := 8) (fs := [fT, fP]) rfl rfl hA hS hsp (kI hh he), fun hv => ?_, fun hv => hF (fun z => ?_)⟩)
  · exact kD (hT (by unfold Gd8; (try unfold Hid at *); omega)) (by show D.tup [.str "jzero", vlOf w fT, vlOf w fP] = _; rw [v0, v1]; (try unfold Hid at *); simp [Tp8, *])
  · unfold Gd8 at z; (try unfold Hid at *); omega
theorem dec_9 {w : Int} {k : D → Os → Prop} {kx : Kx} (h0 : 0 ≤ w) (h1 : w < 68719476736) (hop : w / 1073741824 = 10) (hT : Gd9 (w % 1073741824) → k (Tp9 (w % 1073741824)) []) (hF : ¬ Gd9 (w % 1073741824) → ∀ o, kx ⟨CS 1, [(f_at, .int 0)]⟩ o) : T_decode CS [.int w] [] k kx := by
  have hi : w / 2 ^ 30 = ((9 : Nat) : Int) + 1 := hop
  have e0 : w / 4194304 % 256 = (w % 1073741824) / 4194304 % 256 := by omega
  have e1 : w / 1 % 64 = (w % 1073741824) % 64 := by omega
  have c0 : 0 ≤ w % 1073741824 ∧ w % 1073741824 < 1073741824 := by omega
  have hw : w = 10737418240 + w % 1073741824 := by omega
  generalize w % 1073741824 = r at *
  clear hop
  have b0 : 0 ≤ r / 4194304 % 256 ∧ r / 4194304 % 256 < 256 := by omega
  generalize hq0 : r / 4194304 % 256 = q0 at e0 b0
  replace hq0 : Hid (r / 4194304 % 256 = q0) := hq0
  have b1 : 0 ≤ r % 64 ∧ r % 64 < 64 := by omega
  generalize hq1 : r % 64 = q1 at e1 b1
  replace hq1 : Hid (r % 64 = q1) := hq1
  have v0 : vlOf w fC = .int q0 := vl1 22 4194304 rfl (by decide) (by decide) (by omega)
  have ok0 : NumOk CS (vlOf w fC) fC q0 := by rw [v0]; exact fun _ _ _ hh => w_numT 8 (by decide) (by decide) (by omega) (by omega) (kI hh (by omega))
  have v1 : vlOf w fO = .int (q1 + 1) := vl1 0 1 rfl (by decide) (by decide) (by omega)
  have ok1 : NumOk CS (vlOf w fO) fO q1 := by rw [v1]; exact fun _ _ _ hh => w_numT 6 (by decide) (by decide) (by omega) (by omega) (kI hh (by omega))
  have hA : AllOk CS (([fC, fO] : List D).map (vlOf w)) [fC, fO] [q0, q1] := (.cons ok0 (.cons ok1 .nil))
  have hS : Sm [fC, fO] [q0, q1] := (Sm_cons (by decide) (by omega) (by omega) (Sm_cons (by decide) (by omega) (by omega) Sm_nil))
  have he : encF ((((9 : Nat) : Int) + 1) * 2 ^ 30) [fC, fO] [q0, q1] = 10737418240 + (q0 * 4194304 + q1 * 1) := by
    refine (enc1 22 8 4194304 256 rfl (by decide) (by decide) (by omega) (by omega) (by omega)).trans ?_
    refine (enc1 0 6 1 64 rfl (by decide) (by decide) (by omega) (by omega) (by omega)).trans ?_
    rw [encF_nil]
    omega
  have hsp : ("count" : Str) = "loadx" ∨ ("count" : Str) = "storex" → ∃ a e : Int, (([fC, fO] : List D).map (vlOf w))[2]? = some (.int a) ∧ (([fC, fO] : List D).map (vlOf w))[3]? = some (.int e) ∧ a + e ≤ 16384 := fun z => absurd z (by decide)
  refine w_dec (i := 9) (n := "count") (fs := [fC, fO]) rfl rfl h0 h1 hi (.inl ⟨fun _ _ _ hh => w_isT1 (i := 9) (fs := [fC, fO]) rfl rfl hA hsp hh, _, fun _ _ _ hh => w_encT (i := 9) (fs := [fC, fO]) rfl rfl hA hS hsp (kI hh he), fun hv => ?_, fun hv => hF (fun z => ?_)⟩)
  · exact kD (hT (by unfold Gd9; (try unfold Hid at *); omega)) (by show D.tup [.str "count", vlOf w fC, vlOf w fO] = _; rw [v0, v1]; (try unfold Hid at *); simp [Tp9, *])
  · unfold Gd9 at z; (try unfold Hid at *); omega
theorem dec_10 {w : Int} {k : D → Os → Prop} {kx : Kx} (h0 : 0 ≤ w) (h1 : w < 68719476736) (hop : w / 1073741824 = 11) (hT : Gd10 (w % 1073741824) → k (Tp10 (w % 1073741824)) []) (hF : ¬ Gd10 (w % 1073741824) → ∀ o, kx ⟨CS 1, [(f_at, .int 0)]⟩ o) : T_decode CS [.int w] [] k kx := by
  have hi : w / 2 ^ 30 = ((10 : Nat) : Int) + 1 := hop
  have e0 : w / 4194304 % 256 = (w % 1073741824) / 4194304 % 256 := by omega
  have e1 : w / 1 % 4096 = (w % 1073741824) % 4096 := by omega
  have c0 : 0 ≤ w % 1073741824 ∧ w % 1073741824 < 1073741824 := by omega
  have hw : w = 11811160064 + w % 1073741824 := by omega
  generalize w % 1073741824 = r at *
  clear hop
  have b0 : 0 ≤ r / 4194304 % 256 ∧ r / 4194304 % 256 < 256 := by omega
  generalize hq0 : r / 4194304 % 256 = q0 at e0 b0
  replace hq0 : Hid (r / 4194304 % 256 = q0) := hq0
  have b1 : 0 ≤ r % 4096 ∧ r % 4096 < 4096 := by omega
  generalize hq1 : r % 4096 = q1 at e1 b1
  replace hq1 : Hid (r % 4096 = q1) := hq1
  have v0 : vlOf w fC = .int q0 := vl1 22 4194304 rfl (by decide) (by decide) (by omega)
  have ok0 : NumOk CS (vlOf w fC) fC q0 := by rw [v0]; exact fun _ _ _ hh => w_numT 8 (by decide) (by decide) (by omega) (by omega) (kI hh (by omega))
  have v1 : vlOf w fP = .int q1 := vl1 0 1 rfl (by decide) (by decide) (by omega)
  have ok1 : NumOk CS (vlOf w fP) fP q1 := by rw [v1]; exact fun _ _ _ hh => w_numT 12 (by decide) (by decide) (by omega) (by omega) (kI hh (by omega))
  have hA : AllOk CS (([fC, fP] : List D).map (vlOf w)) [fC, fP] [q0, q1] := (.cons ok0 (.cons ok1 .nil))
  have hS : Sm [fC, fP] [q0, q1] := (Sm_cons (by decide) (by omega) (by omega) (Sm_cons (by decide) (by omega) (by omega) Sm_nil))
  have he : encF ((((10 : Nat) : Int) + 1) * 2 ^ 30) [fC, fP] [q0, q1] = 11811160064 + (q0 * 4194304 + q1 * 1) := by
    refine (enc1 22 8 4194304 256 rfl (by decide) (by decide) (by omega) (by omega) (by omega)).trans ?_
    refine (enc1 0 12 1 4096 rfl (by decide) (by decide) (by omega) (by omega) (by omega)).trans ?_
    rw [encF_nil]
    omega
  have hsp : ("again" : Str) = "loadx" ∨ ("again" : Str) = "storex" → ∃ a e : Int, (([fC, fP] : List D).map (vlOf w))[2]? = some (.int a) ∧ (([fC, fP] : List D).map (vlOf w))[3]? = some (.int e) ∧ a + e ≤ 16384 := fun z => absurd z (by decide)
  refine w_dec (i := 10) (n := "again") (fs := [fC, fP]) rfl rfl h0 h1 hi (.inl ⟨fun _ _ _ hh => w_isT1 (i := 10) (fs := [fC, fP]) rfl rfl hA hsp hh, _, fun _ _ _ hh => w_encT (i := 10) (fs := [fC, fP]) rfl rfl hA hS hsp (kI hh he), fun hv => ?_, fun hv => hF (fun z => ?_)⟩)
  · exact kD (hT (by unfold Gd10; (try unfold Hid at *); omega)) (by show D.tup [.str "again", vlOf w fC, vlOf w fP] = _; rw [v0, v1]; (try unfold Hid at *); simp [Tp10, *])
  · unfold Gd10 at z; (try unfold Hid at *); omega
theorem dec_11 {w : Int} {k : D → Os → Prop} {kx : Kx} (h0 : 0 ≤ w) (h1 : w < 68719476736) (hop : w / 1073741824 = 12) (hT : Gd11 (w % 1073741824) → k (Tp11 (w % 1073741824)) []) (hF : ¬ Gd11 (w % 1073741824) → ∀ o, kx ⟨CS 1, [(f_at, .int 0)]⟩ o) : T_decode CS [.int w] [] k kx := by
  have hi : w / 2 ^ 30 = ((11 : Nat) : Int) + 1 := hop
  have e0 : w / 1 % 4096 = (w % 1073741824) % 4096 := by omega
  have c0 : 0 ≤ w % 1073741824 ∧ w % 1073741824 < 1073741824 := by omega
  have hw : w = 12884901888 + w % 1073741824 := by omega
  generalize w % 1073741824 = r at *
  clear hop
  have b0 : 0 ≤ r % 4096 ∧ r % 4096 < 4096 := by omega
  generalize hq0 : r % 4096 = q0 at e0 b0
  replace hq0 : Hid (r % 4096 = q0) := hq0
  have v0 : vlOf w fP = .int q0 := vl1 0 1 rfl (by decide) (by decide) (by omega)
  have ok0 : NumOk CS (vlOf w fP) fP q0 := by rw [v0]; exact fun _ _ _ hh => w_numT 12 (by decide) (by decide) (by omega) (by omega) (kI hh (by omega))
  have hA : AllOk CS (([fP] : List D).map (vlOf w)) [fP] [q0] := (.cons ok0 .nil)
  have hS : Sm [fP] [q0] := (Sm_cons (by decide) (by omega) (by omega) Sm_nil)
  have he : encF ((((11 : Nat) : Int) + 1) * 2 ^ 30) [fP] [q0] = 12884901888 + (q0 * 1) := by
    refine (enc1 0 12 1 4096 rfl (by decide) (by decide) (by omega) (by omega) (by omega)).trans ?_
    rw [encF_nil]
    omega
  have hsp : ("link" : Str) = "loadx" ∨ ("link" : Str) = "storex" → ∃ a e : Int, (([fP] : List D).map (vlOf w))[2]? = some (.int a) ∧ (([fP] : List D).map (vlOf w))[3]? = some (.int e) ∧ a + e ≤ 16384 := fun z => absurd z (by decide)
  refine w_dec (i := 11) (n := "link") (fs := [fP]) rfl rfl h0 h1 hi (.inl ⟨fun _ _ _ hh => w_isT1 (i := 11) (fs := [fP]) rfl rfl hA hsp hh, _, fun _ _ _ hh => w_encT (i := 11) (fs := [fP]) rfl rfl hA hS hsp (kI hh he), fun hv => ?_, fun hv => hF (fun z => ?_)⟩)
  · exact kD (hT (by unfold Gd11; (try unfold Hid at *); omega)) (by show D.tup [.str "link", vlOf w fP] = _; rw [v0]; (try unfold Hid at *); simp [Tp11, *])
  · unfold Gd11 at z; (try unfold Hid at *); omega
theorem dec_12 {w : Int} {k : D → Os → Prop} {kx : Kx} (h0 : 0 ≤ w) (h1 : w < 68719476736) (hop : w / 1073741824 = 13) (hT : Gd12 (w % 1073741824) → k (Tp12 (w % 1073741824)) []) (hF : ¬ Gd12 (w % 1073741824) → ∀ o, kx ⟨CS 1, [(f_at, .int 0)]⟩ o) : T_decode CS [.int w] [] k kx := by
  have hi : w / 2 ^ 30 = ((12 : Nat) : Int) + 1 := hop
  have c0 : 0 ≤ w % 1073741824 ∧ w % 1073741824 < 1073741824 := by omega
  have hw : w = 13958643712 + w % 1073741824 := by omega
  generalize w % 1073741824 = r at *
  clear hop
  have hA : AllOk CS (([] : List D).map (vlOf w)) [] [] := .nil
  have hS : Sm [] [] := Sm_nil
  have he : encF ((((12 : Nat) : Int) + 1) * 2 ^ 30) [] [] = 13958643712 + (0) := by
    rw [encF_nil]
    omega
  have hsp : ("back" : Str) = "loadx" ∨ ("back" : Str) = "storex" → ∃ a e : Int, (([] : List D).map (vlOf w))[2]? = some (.int a) ∧ (([] : List D).map (vlOf w))[3]? = some (.int e) ∧ a + e ≤ 16384 := fun z => absurd z (by decide)
  refine w_dec (i := 12) (n := "back") (fs := []) rfl rfl h0 h1 hi (.inl ⟨fun _ _ _ hh => w_isT1 (i := 12) (fs := []) rfl rfl hA hsp hh, _, fun _ _ _ hh => w_encT (i := 12) (fs := []) rfl rfl hA hS hsp (kI hh he), fun hv => ?_, fun hv => hF (fun z => ?_)⟩)
  · exact kD (hT (by unfold Gd12; (try unfold Hid at *); omega)) (by show D.tup [.str "back"] = _; (try unfold Hid at *); simp [Tp12, *])
  · unfold Gd12 at z; (try unfold Hid at *); omega
theorem dec_13 {w : Int} {k : D → Os → Prop} {kx : Kx} (h0 : 0 ≤ w) (h1 : w < 68719476736) (hop : w / 1073741824 = 14) (hT : Gd13 (w % 1073741824) → k (Tp13 (w % 1073741824)) []) (hF : ¬ Gd13 (w % 1073741824) → ∀ o, kx ⟨CS 1, [(f_at, .int 0)]⟩ o) : T_decode CS [.int w] [] k kx := by
  have hi : w / 2 ^ 30 = ((13 : Nat) : Int) + 1 := hop
  have c0 : 0 ≤ w % 1073741824 ∧ w % 1073741824 < 1073741824 := by omega
  have hw : w = 15032385536 + w % 1073741824 := by omega
  generalize w % 1073741824 = r at *
  clear hop
  have hA : AllOk CS (([] : List D).map (vlOf w)) [] [] := .nil
  have hS : Sm [] [] := Sm_nil
  have he : encF ((((13 : Nat) : Int) + 1) * 2 ^ 30) [] [] = 15032385536 + (0) := by
    rw [encF_nil]
    omega
  have hsp : ("done" : Str) = "loadx" ∨ ("done" : Str) = "storex" → ∃ a e : Int, (([] : List D).map (vlOf w))[2]? = some (.int a) ∧ (([] : List D).map (vlOf w))[3]? = some (.int e) ∧ a + e ≤ 16384 := fun z => absurd z (by decide)
  refine w_dec (i := 13) (n := "done") (fs := []) rfl rfl h0 h1 hi (.inl ⟨fun _ _ _ hh => w_isT1 (i := 13) (fs := []) rfl rfl hA hsp hh, _, fun _ _ _ hh => w_encT (i := 13) (fs := []) rfl rfl hA hS hsp (kI hh he), fun hv => ?_, fun hv => hF (fun z => ?_)⟩)
  · exact kD (hT (by unfold Gd13; (try unfold Hid at *); omega)) (by show D.tup [.str "done"] = _; (try unfold Hid at *); simp [Tp13, *])
  · unfold Gd13 at z; (try unfold Hid at *); omega
theorem dec_14 {w : Int} {k : D → Os → Prop} {kx : Kx} (h0 : 0 ≤ w) (h1 : w < 68719476736) (hop : w / 1073741824 = 15) (hT : Gd14 (w % 1073741824) → k (Tp14 (w % 1073741824)) []) (hF : ¬ Gd14 (w % 1073741824) → ∀ o, kx ⟨CS 1, [(f_at, .int 0)]⟩ o) : T_decode CS [.int w] [] k kx := by
  have hi : w / 2 ^ 30 = ((14 : Nat) : Int) + 1 := hop
  have e0 : w / 1 % 16 = (w % 1073741824) % 16 := by omega
  have c0 : 0 ≤ w % 1073741824 ∧ w % 1073741824 < 1073741824 := by omega
  have hw : w = 16106127360 + w % 1073741824 := by omega
  generalize w % 1073741824 = r at *
  clear hop
  have b0 : 0 ≤ r % 16 ∧ r % 16 < 16 := by omega
  generalize hq0 : r % 16 = q0 at e0 b0
  replace hq0 : Hid (r % 16 = q0) := hq0
  by_cases g0 : q0 ≤ 3
  rotate_left
  · have v0 : vlOf w fH = .int (q0 - 16) := vl1 0 1 rfl (by decide) (by decide) (by omega)
    have no : NumNo CS (vlOf w fH) fH := by rw [v0]; exact fun _ _ _ hh => w_numF (by decide) (by omega) hh
    refine w_dec (i := 14) (n := "enter") (fs := [fH]) rfl rfl h0 h1 hi (.inr ⟨fun _ _ _ hh => w_isN (i := 14) (fs := [fH]) rfl rfl rfl (.here no) hh, hF (fun z => ?_)⟩)
    unfold Gd14 at z; (try unfold Hid at *); omega
  have v0 : vlOf w fH = .int q0 := vl1 0 1 rfl (by decide) (by decide) (by omega)
  have ok0 : NumOk CS (vlOf w fH) fH q0 := by rw [v0]; exact fun _ _ _ hh => w_numT 4 (by decide) (by decide) (by omega) (by omega) (kI hh (by omega))
  have hA : AllOk CS (([fH] : List D).map (vlOf w)) [fH] [q0] := (.cons ok0 .nil)
  have hS : Sm [fH] [q0] := (Sm_cons (by decide) (by omega) (by omega) Sm_nil)
  have he : encF ((((14 : Nat) : Int) + 1) * 2 ^ 30) [fH] [q0] = 16106127360 + (q0 * 1) := by
    refine (enc1 0 4 1 16 rfl (by decide) (by decide) (by omega) (by omega) (by omega)).trans ?_
    rw [encF_nil]
    omega
  have hsp : ("enter" : Str) = "loadx" ∨ ("enter" : Str) = "storex" → ∃ a e : Int, (([fH] : List D).map (vlOf w))[2]? = some (.int a) ∧ (([fH] : List D).map (vlOf w))[3]? = some (.int e) ∧ a + e ≤ 16384 := fun z => absurd z (by decide)
  refine w_dec (i := 14) (n := "enter") (fs := [fH]) rfl rfl h0 h1 hi (.inl ⟨fun _ _ _ hh => w_isT1 (i := 14) (fs := [fH]) rfl rfl hA hsp hh, _, fun _ _ _ hh => w_encT (i := 14) (fs := [fH]) rfl rfl hA hS hsp (kI hh he), fun hv => ?_, fun hv => hF (fun z => ?_)⟩)
  · exact kD (hT (by unfold Gd14; (try unfold Hid at *); omega)) (by show D.tup [.str "enter", vlOf w fH] = _; rw [v0]; (try unfold Hid at *); simp [Tp14, *])
  · unfold Gd14 at z; (try unfold Hid at *); omega
theorem dec_15 {w : Int} {k : D → Os → Prop} {kx : Kx} (h0 : 0 ≤ w) (h1 : w < 68719476736) (hop : w / 1073741824 = 16) (hT : Gd15 (w % 1073741824) → k (Tp15 (w % 1073741824)) []) (hF : ¬ Gd15 (w % 1073741824) → ∀ o, kx ⟨CS 1, [(f_at, .int 0)]⟩ o) : T_decode CS [.int w] [] k kx := by
  have hi : w / 2 ^ 30 = ((15 : Nat) : Int) + 1 := hop
  have e0 : w / 1 % 16 = (w % 1073741824) % 16 := by omega
  have c0 : 0 ≤ w % 1073741824 ∧ w % 1073741824 < 1073741824 := by omega
  have hw : w = 17179869184 + w % 1073741824 := by omega
  generalize w % 1073741824 = r at *
  clear hop
  have b0 : 0 ≤ r % 16 ∧ r % 16 < 16 := by omega
  generalize hq0 : r % 16 = q0 at e0 b0
  replace hq0 : Hid (r % 16 = q0) := hq0
  by_cases g0 : q0 ≤ 3
  rotate_left
  · have v0 : vlOf w fH = .int (q0 - 16) := vl1 0 1 rfl (by decide) (by decide) (by omega)
    have no : NumNo CS (vlOf w fH) fH := by rw [v0]; exact fun _ _ _ hh => w_numF (by decide) (by omega) hh
    refine w_dec (i := 15) (n := "leave") (fs := [fH]) rfl rfl h0 h1 hi (.inr ⟨fun _ _ _ hh => w_isN (i := 15) (fs := [fH]) rfl rfl rfl (.here no) hh, hF (fun z => ?_)⟩)
    unfold Gd15 at z; (try unfold Hid at *); omega
  have v0 : vlOf w fH = .int q0 := vl1 0 1 rfl (by decide) (by decide) (by omega)
  have ok0 : NumOk CS (vlOf w fH) fH q0 := by rw [v0]; exact fun _ _ _ hh => w_numT 4 (by decide) (by decide) (by omega) (by omega) (kI hh (by omega))
  have hA : AllOk CS (([fH] : List D).map (vlOf w)) [fH] [q0] := (.cons ok0 .nil)
  have hS : Sm [fH] [q0] := (Sm_cons (by decide) (by omega) (by omega) Sm_nil)
  have he : encF ((((15 : Nat) : Int) + 1) * 2 ^ 30) [fH] [q0] = 17179869184 + (q0 * 1) := by
    refine (enc1 0 4 1 16 rfl (by decide) (by decide) (by omega) (by omega) (by omega)).trans ?_
    rw [encF_nil]
    omega
  have hsp : ("leave" : Str) = "loadx" ∨ ("leave" : Str) = "storex" → ∃ a e : Int, (([fH] : List D).map (vlOf w))[2]? = some (.int a) ∧ (([fH] : List D).map (vlOf w))[3]? = some (.int e) ∧ a + e ≤ 16384 := fun z => absurd z (by decide)
  refine w_dec (i := 15) (n := "leave") (fs := [fH]) rfl rfl h0 h1 hi (.inl ⟨fun _ _ _ hh => w_isT1 (i := 15) (fs := [fH]) rfl rfl hA hsp hh, _, fun _ _ _ hh => w_encT (i := 15) (fs := [fH]) rfl rfl hA hS hsp (kI hh he), fun hv => ?_, fun hv => hF (fun z => ?_)⟩)
  · exact kD (hT (by unfold Gd15; (try unfold Hid at *); omega)) (by show D.tup [.str "leave", vlOf w fH] = _; rw [v0]; (try unfold Hid at *); simp [Tp15, *])
  · unfold Gd15 at z; (try unfold Hid at *); omega
theorem dec_16 {w : Int} {k : D → Os → Prop} {kx : Kx} (h0 : 0 ≤ w) (h1 : w < 68719476736) (hop : w / 1073741824 = 17) (hT : Gd16 (w % 1073741824) → k (Tp16 (w % 1073741824)) []) (hF : ¬ Gd16 (w % 1073741824) → ∀ o, kx ⟨CS 1, [(f_at, .int 0)]⟩ o) : T_decode CS [.int w] [] k kx := by
  have hi : w / 2 ^ 30 = ((16 : Nat) : Int) + 1 := hop
  have e0 : w / 67108864 % 16 = (w % 1073741824) / 67108864 % 16 := by omega
  have e1 : w / 1 % 16 = (w % 1073741824) % 16 := by omega
  have c0 : 0 ≤ w % 1073741824 ∧ w % 1073741824 < 1073741824 := by omega
  have hw : w = 18253611008 + w % 1073741824 := by omega
  generalize w % 1073741824 = r at *
  clear hop
  have b0 : 0 ≤ r / 67108864 % 16 ∧ r / 67108864 % 16 < 16 := by omega
  generalize hq0 : r / 67108864 % 16 = q0 at e0 b0
  replace hq0 : Hid (r / 67108864 % 16 = q0) := hq0
  have b1 : 0 ≤ r % 16 ∧ r % 16 < 16 := by omega
  generalize hq1 : r % 16 = q1 at e1 b1
  replace hq1 : Hid (r % 16 = q1) := hq1
  by_cases g0 : q0 ≤ 8
  rotate_left
  · have v0 : vlOf w fT = .int (q0 - 16) := vl1 26 67108864 rfl (by decide) (by decide) (by omega)
    have no : NumNo CS (vlOf w fT) fT := by rw [v0]; exact fun _ _ _ hh => w_numF (by decide) (by omega) hh
    refine w_dec (i := 16) (n := "in") (fs := [fT, fQ]) rfl rfl h0 h1 hi (.inr ⟨fun _ _ _ hh => w_isN (i := 16) (fs := [fT, fQ]) rfl rfl rfl (.here no) hh, hF (fun z => ?_)⟩)
    unfold Gd16 at z; (try unfold Hid at *); omega
  have v0 : vlOf w fT = .int q0 := vl1 26 67108864 rfl (by decide) (by decide) (by omega)
  have ok0 : NumOk CS (vlOf w fT) fT q0 := by rw [v0]; exact fun _ _ _ hh => w_numT 4 (by decide) (by decide) (by omega) (by omega) (kI hh (by omega))
  by_cases g1 : q1 ≤ 7
  rotate_left
  · have v1 : vlOf w fQ = .int (q1 - 16) := vl1 0 1 rfl (by decide) (by decide) (by omega)
    have no : NumNo CS (vlOf w fQ) fQ := by rw [v1]; exact fun _ _ _ hh => w_numF (by decide) (by omega) hh
    refine w_dec (i := 16) (n := "in") (fs := [fT, fQ]) rfl rfl h0 h1 hi (.inr ⟨fun _ _ _ hh => w_isN (i := 16) (fs := [fT, fQ]) rfl rfl rfl (.there ok0 (.here no)) hh, hF (fun z => ?_)⟩)
    unfold Gd16 at z; (try unfold Hid at *); omega
  have v1 : vlOf w fQ = .int q1 := vl1 0 1 rfl (by decide) (by decide) (by omega)
  have ok1 : NumOk CS (vlOf w fQ) fQ q1 := by rw [v1]; exact fun _ _ _ hh => w_numT 4 (by decide) (by decide) (by omega) (by omega) (kI hh (by omega))
  have hA : AllOk CS (([fT, fQ] : List D).map (vlOf w)) [fT, fQ] [q0, q1] := (.cons ok0 (.cons ok1 .nil))
  have hS : Sm [fT, fQ] [q0, q1] := (Sm_cons (by decide) (by omega) (by omega) (Sm_cons (by decide) (by omega) (by omega) Sm_nil))
  have he : encF ((((16 : Nat) : Int) + 1) * 2 ^ 30) [fT, fQ] [q0, q1] = 18253611008 + (q0 * 67108864 + q1 * 1) := by
    refine (enc1 26 4 67108864 16 rfl (by decide) (by decide) (by omega) (by omega) (by omega)).trans ?_
    refine (enc1 0 4 1 16 rfl (by decide) (by decide) (by omega) (by omega) (by omega)).trans ?_
    rw [encF_nil]
    omega
  have hsp : ("in" : Str) = "loadx" ∨ ("in" : Str) = "storex" → ∃ a e : Int, (([fT, fQ] : List D).map (vlOf w))[2]? = some (.int a) ∧ (([fT, fQ] : List D).map (vlOf w))[3]? = some (.int e) ∧ a + e ≤ 16384 := fun z => absurd z (by decide)
  refine w_dec (i := 16) (n := "in") (fs := [fT, fQ]) rfl rfl h0 h1 hi (.inl ⟨fun _ _ _ hh => w_isT1 (i := 16) (fs := [fT, fQ]) rfl rfl hA hsp hh, _, fun _ _ _ hh => w_encT (i := 16) (fs := [fT, fQ]) rfl rfl hA hS hsp (kI hh he), fun hv => ?_, fun hv => hF (fun z => ?_)⟩)
  · exact kD (hT (by unfold Gd16; (try unfold Hid at *); omega)) (by show D.tup [.str "in", vlOf w fT, vlOf w fQ] = _; rw [v0, v1]; (try unfold Hid at *); simp [Tp16, *])
  · unfold Gd16 at z; (try unfold Hid at *); omega
theorem dec_17 {w : Int} {k : D → Os → Prop} {kx : Kx} (h0 : 0 ≤ w) (h1 : w < 68719476736) (hop : w / 1073741824 = 18) (hT : Gd17 (w % 1073741824) → k (Tp17 (w % 1073741824)) []) (hF : ¬ Gd17 (w % 1073741824) → ∀ o, kx ⟨CS 1, [(f_at, .int 0)]⟩ o) : T_decode CS [.int w] [] k kx := by
  have hi : w / 2 ^ 30 = ((17 : Nat) : Int) + 1 := hop
  have e0 : w / 67108864 % 16 = (w % 1073741824) / 67108864 % 16 := by omega
  have e1 : w / 1 % 16 = (w % 1073741824) % 16 := by omega
  have c0 : 0 ≤ w % 1073741824 ∧ w % 1073741824 < 1073741824 := by omega
  have hw : w = 19327352832 + w % 1073741824 := by omega
  generalize w % 1073741824 = r at *
  clear hop
  have b0 : 0 ≤ r / 67108864 % 16 ∧ r / 67108864 % 16 < 16 := by omega
  generalize hq0 : r / 67108864 % 16 = q0 at e0 b0
  replace hq0 : Hid (r / 67108864 % 16 = q0) := hq0
  have b1 : 0 ≤ r % 16 ∧ r % 16 < 16 := by omega
  generalize hq1 : r % 16 = q1 at e1 b1
  replace hq1 : Hid (r % 16 = q1) := hq1
  by_cases g0 : q0 ≤ 8
  rotate_left
  · have v0 : vlOf w fT = .int (q0 - 16) := vl1 26 67108864 rfl (by decide) (by decide) (by omega)
    have no : NumNo CS (vlOf w fT) fT := by rw [v0]; exact fun _ _ _ hh => w_numF (by decide) (by omega) hh
    refine w_dec (i := 17) (n := "out") (fs := [fT, fQ]) rfl rfl h0 h1 hi (.inr ⟨fun _ _ _ hh => w_isN (i := 17) (fs := [fT, fQ]) rfl rfl rfl (.here no) hh, hF (fun z => ?_)⟩)
    unfold Gd17 at z; (try unfold Hid at *); omega
  have v0 : vlOf w fT = .int q0 := vl1 26 67108864 rfl (by decide) (by decide) (by omega)
  have ok0 : NumOk CS (vlOf w fT) fT q0 := by rw [v0]; exact fun _ _ _ hh => w_numT 4 (by decide) (by decide) (by omega) (by omega) (kI hh (by omega))
  by_cases g1 : q1 ≤ 7
  rotate_left
  · have v1 : vlOf w fQ = .int (q1 - 16) := vl1 0 1 rfl (by decide) (by decide) (by omega)
    have no : NumNo CS (vlOf w fQ) fQ := by rw [v1]; exact fun _ _ _ hh => w_numF (by decide) (by omega) hh
    refine w_dec (i := 17) (n := "out") (fs := [fT, fQ]) rfl rfl h0 h1 hi (.inr ⟨fun _ _ _ hh => w_isN (i := 17) (fs := [fT, fQ]) rfl rfl rfl (.there ok0 (.here no)) hh, hF (fun z => ?_)⟩)
    unfold Gd17 at z; (try unfold Hid at *); omega
  have v1 : vlOf w fQ = .int q1 := vl1 0 1 rfl (by decide) (by decide) (by omega)
  have ok1 : NumOk CS (vlOf w fQ) fQ q1 := by rw [v1]; exact fun _ _ _ hh => w_numT 4 (by decide) (by decide) (by omega) (by omega) (kI hh (by omega))
  have hA : AllOk CS (([fT, fQ] : List D).map (vlOf w)) [fT, fQ] [q0, q1] := (.cons ok0 (.cons ok1 .nil))
  have hS : Sm [fT, fQ] [q0, q1] := (Sm_cons (by decide) (by omega) (by omega) (Sm_cons (by decide) (by omega) (by omega) Sm_nil))
  have he : encF ((((17 : Nat) : Int) + 1) * 2 ^ 30) [fT, fQ] [q0, q1] = 19327352832 + (q0 * 67108864 + q1 * 1) := by
    refine (enc1 26 4 67108864 16 rfl (by decide) (by decide) (by omega) (by omega) (by omega)).trans ?_
    refine (enc1 0 4 1 16 rfl (by decide) (by decide) (by omega) (by omega) (by omega)).trans ?_
    rw [encF_nil]
    omega
  have hsp : ("out" : Str) = "loadx" ∨ ("out" : Str) = "storex" → ∃ a e : Int, (([fT, fQ] : List D).map (vlOf w))[2]? = some (.int a) ∧ (([fT, fQ] : List D).map (vlOf w))[3]? = some (.int e) ∧ a + e ≤ 16384 := fun z => absurd z (by decide)
  refine w_dec (i := 17) (n := "out") (fs := [fT, fQ]) rfl rfl h0 h1 hi (.inl ⟨fun _ _ _ hh => w_isT1 (i := 17) (fs := [fT, fQ]) rfl rfl hA hsp hh, _, fun _ _ _ hh => w_encT (i := 17) (fs := [fT, fQ]) rfl rfl hA hS hsp (kI hh he), fun hv => ?_, fun hv => hF (fun z => ?_)⟩)
  · exact kD (hT (by unfold Gd17; (try unfold Hid at *); omega)) (by show D.tup [.str "out", vlOf w fT, vlOf w fQ] = _; rw [v0, v1]; (try unfold Hid at *); simp [Tp17, *])
  · unfold Gd17 at z; (try unfold Hid at *); omega

end

section
variable {CS : Nat → Addr}
def ItS (d : D) : Prop := (∃ v : Int, d = .int v) ∨ ∃ z : Str, d = .str z
def Same (CS : Nat → Addr) (w : Int) : Prop :=
  (∃ L : List D, (∀ d ∈ L, ItS d) ∧ L.length ≤ 5 ∧ (∀ (k : D → Os → Prop) (kx : Kx), k (.tup L) [] → T__law_expected CS [.int w] [] k kx) ∧ ∀ (k : D → Os → Prop) (kx : Kx), k (.tup L) [] → T_decode CS [.int w] [] k kx) ∨
  ((∀ (k : D → Os → Prop) (kx : Kx), k .non [] → T__law_expected CS [.int w] [] k kx) ∧ ∀ (k : D → Os → Prop) (kx : Kx), (∀ o, kx ⟨CS 1, [(f_at, .int 0)]⟩ o) → T_decode CS [.int w] [] k kx)
theorem exp_R {w : Int} {k : D → Os → Prop} {kx : Kx} (hw : w < 0 ∨ w / 1073741824 < 1 ∨ 18 < w / 1073741824) (h : k .non []) : T__law_expected CS [.int w] [] k kx := by
  unfold T__law_expected fnT
  walk_at "go"
  all_goals first
    | exact dropX_id h
    | (exfalso; omega)
theorem same_R {w : Int} (hw : w < 0 ∨ 68719476736 ≤ w ∨ w / 1073741824 < 1 ∨ 18 < w / 1073741824) : Same CS w :=
  .inr ⟨fun _ _ h => exp_R (by omega) h, fun _ _ h => w_decR hw h⟩
theorem its_i {v : Int} : ItS (.int v) := .inl ⟨v, rfl⟩
theorem its_s {z : Str} : ItS (.str z) := .inr ⟨z, rfl⟩
theorem same_0 {w : Int} (h0 : 0 ≤ w) (h1 : w < 68719476736) (hop : w / 1073741824 = 1) : Same CS w := by
  by_cases hG : Gd0 (w % 1073741824)
  · refine .inl ⟨_, ?_, ?_, fun _ _ h => exp_0 h0 h1 hop (fun _ => h) (fun z => absurd hG z), fun _ _ h => dec_0 h0 h1 hop (fun _ => h) (fun z => absurd hG z)⟩
    · simp [its_i, its_s]
    · simp
  · exact .inr ⟨fun _ _ h => exp_0 h0 h1 hop (fun z => absurd z hG) (fun _ => h), fun _ _ h => dec_0 h0 h1 hop (fun z => absurd z hG) (fun _ => h)⟩
theorem same_1 {w : Int} (h0 : 0 ≤ w) (h1 : w < 68719476736) (hop : w / 1073741824 = 2) : Same CS w := by
  by_cases hG : Gd1 (w % 1073741824)
  · refine .inl ⟨_, ?_, ?_, fun _ _ h => exp_1 h0 h1 hop (fun _ => h) (fun z => absurd hG z), fun _ _ h => dec_1 h0 h1 hop (fun _ => h) (fun z => absurd hG z)⟩
    · simp [its_i, its_s]
    · simp
  · exact .inr ⟨fun _ _ h => exp_1 h0 h1 hop (fun z => absurd z hG) (fun _ => h), fun _ _ h => dec_1 h0 h1 hop (fun z => absurd z hG) (fun _ => h)⟩
theorem same_2 {w : Int} (h0 : 0 ≤ w) (h1 : w < 68719476736) (hop : w / 1073741824 = 3) : Same CS w := by
  by_cases hG : Gd2 (w % 1073741824)
  · refine .inl ⟨_, ?_, ?_, fun _ _ h => exp_2 h0 h1 hop (fun _ => h) (fun z => absurd hG z), fun _ _ h => dec_2 h0 h1 hop (fun _ => h) (fun z => absurd hG z)⟩
    · simp [its_i, its_s]
    · simp
  · exact .inr ⟨fun _ _ h => exp_2 h0 h1 hop (fun z => absurd z hG) (fun _ => h), fun _ _ h => dec_2 h0 h1 hop (fun z => absurd z hG) (fun _ => h)⟩
theorem same_3 {w : Int} (h0 : 0 ≤ w) (h1 : w < 68719476736) (hop : w / 1073741824 = 4) : Same CS w := by
  by_cases hG : Gd3 (w % 1073741824)
  · refine .inl ⟨_, ?_, ?_, fun _ _ h => exp_3 h0 h1 hop (fun _ => h) (fun z => absurd hG z), fun _ _ h => dec_3 h0 h1 hop (fun _ => h) (fun z => absurd hG z)⟩
    · simp [its_i, its_s]
    · simp
  · exact .inr ⟨fun _ _ h => exp_3 h0 h1 hop (fun z => absurd z hG) (fun _ => h), fun _ _ h => dec_3 h0 h1 hop (fun z => absurd z hG) (fun _ => h)⟩
theorem same_4 {w : Int} (h0 : 0 ≤ w) (h1 : w < 68719476736) (hop : w / 1073741824 = 5) : Same CS w := by
  by_cases hG : Gd4 (w % 1073741824)
  · refine .inl ⟨_, ?_, ?_, fun _ _ h => exp_4 h0 h1 hop (fun _ => h) (fun z => absurd hG z), fun _ _ h => dec_4 h0 h1 hop (fun _ => h) (fun z => absurd hG z)⟩
    · simp [its_i, its_s]
    · simp
  · exact .inr ⟨fun _ _ h => exp_4 h0 h1 hop (fun z => absurd z hG) (fun _ => h), fun _ _ h => dec_4 h0 h1 hop (fun z => absurd z hG) (fun _ => h)⟩
theorem same_5 {w : Int} (h0 : 0 ≤ w) (h1 : w < 68719476736) (hop : w / 1073741824 = 6) : Same CS w := by
  by_cases hG : Gd5 (w % 1073741824)
  · refine .inl ⟨_, ?_, ?_, fun _ _ h => exp_5 h0 h1 hop (fun _ => h) (fun z => absurd hG z), fun _ _ h => dec_5 h0 h1 hop (fun _ => h) (fun z => absurd hG z)⟩
    · simp [its_i, its_s]
    · simp
  · exact .inr ⟨fun _ _ h => exp_5 h0 h1 hop (fun z => absurd z hG) (fun _ => h), fun _ _ h => dec_5 h0 h1 hop (fun z => absurd z hG) (fun _ => h)⟩
theorem same_6 {w : Int} (h0 : 0 ≤ w) (h1 : w < 68719476736) (hop : w / 1073741824 = 7) : Same CS w := by
  by_cases hG : Gd6 (w % 1073741824)
  · refine .inl ⟨_, ?_, ?_, fun _ _ h => exp_6 h0 h1 hop (fun _ => h) (fun z => absurd hG z), fun _ _ h => dec_6 h0 h1 hop (fun _ => h) (fun z => absurd hG z)⟩
    · simp [its_i, its_s]
    · simp
  · exact .inr ⟨fun _ _ h => exp_6 h0 h1 hop (fun z => absurd z hG) (fun _ => h), fun _ _ h => dec_6 h0 h1 hop (fun z => absurd z hG) (fun _ => h)⟩
theorem same_7 {w : Int} (h0 : 0 ≤ w) (h1 : w < 68719476736) (hop : w / 1073741824 = 8) : Same CS w := by
  by_cases hG : Gd7 (w % 1073741824)
  · refine .inl ⟨_, ?_, ?_, fun _ _ h => exp_7 h0 h1 hop (fun _ => h) (fun z => absurd hG z), fun _ _ h => dec_7 h0 h1 hop (fun _ => h) (fun z => absurd hG z)⟩
    · simp [its_i, its_s]
    · simp
  · exact .inr ⟨fun _ _ h => exp_7 h0 h1 hop (fun z => absurd z hG) (fun _ => h), fun _ _ h => dec_7 h0 h1 hop (fun z => absurd z hG) (fun _ => h)⟩
theorem same_8 {w : Int} (h0 : 0 ≤ w) (h1 : w < 68719476736) (hop : w / 1073741824 = 9) : Same CS w := by
  by_cases hG : Gd8 (w % 1073741824)
  · refine .inl ⟨_, ?_, ?_, fun _ _ h => exp_8 h0 h1 hop (fun _ => h) (fun z => absurd hG z), fun _ _ h => dec_8 h0 h1 hop (fun _ => h) (fun z => absurd hG z)⟩
    · simp [its_i, its_s]
    · simp
  · exact .inr ⟨fun _ _ h => exp_8 h0 h1 hop (fun z => absurd z hG) (fun _ => h), fun _ _ h => dec_8 h0 h1 hop (fun z => absurd z hG) (fun _ => h)⟩
theorem same_9 {w : Int} (h0 : 0 ≤ w) (h1 : w < 68719476736) (hop : w / 1073741824 = 10) : Same CS w := by
  by_cases hG : Gd9 (w % 1073741824)
  · refine .inl ⟨_, ?_, ?_, fun _ _ h => exp_9 h0 h1 hop (fun _ => h) (fun z => absurd hG z), fun _ _ h => dec_9 h0 h1 hop (fun _ => h) (fun z => absurd hG z)⟩
    · simp [its_i, its_s]
    · simp
  · exact .inr ⟨fun _ _ h => exp_9 h0 h1 hop (fun z => absurd z hG) (fun _ => h), fun _ _ h => dec_9 h0 h1 hop (fun z => absurd z hG) (fun _ => h)⟩
theorem same_10 {w : Int} (h0 : 0 ≤ w) (h1 : w < 68719476736) (hop : w / 1073741824 = 11) : Same CS w := by
  by_cases hG : Gd10 (w % 1073741824)
  · refine .inl ⟨_, ?_, ?_, fun _ _ h => exp_10 h0 h1 hop (fun _ => h) (fun z => absurd hG z), fun _ _ h => dec_10 h0 h1 hop (fun _ => h) (fun z => absurd hG z)⟩
    · simp [its_i, its_s]
    · simp
  · exact .inr ⟨fun _ _ h => exp_10 h0 h1 hop (fun z => absurd z hG) (fun _ => h), fun _ _ h => dec_10 h0 h1 hop (fun z => absurd z hG) (fun _ => h)⟩
theorem same_11 {w : Int} (h0 : 0 ≤ w) (h1 : w < 68719476736) (hop : w / 1073741824 = 12) : Same CS w := by
  by_cases hG : Gd11 (w % 1073741824)
  · refine .inl ⟨_, ?_, ?_, fun _ _ h => exp_11 h0 h1 hop (fun _ => h) (fun z => absurd hG z), fun _ _ h => dec_11 h0 h1 hop (fun _ => h) (fun z => absurd hG z)⟩
    · simp [its_i, its_s]
    · simp
  · exact .inr ⟨fun _ _ h => exp_11 h0 h1 hop (fun z => absurd z hG) (fun _ => h), fun _ _ h => dec_11 h0 h1 hop (fun z => absurd z hG) (fun _ => h)⟩
theorem same_12 {w : Int} (h0 : 0 ≤ w) (h1 : w < 68719476736) (hop : w / 1073741824 = 13) : Same CS w := by
  by_cases hG : Gd12 (w % 1073741824)
  · refine .inl ⟨_, ?_, ?_, fun _ _ h => exp_12 h0 h1 hop (fun _ => h) (fun z => absurd hG z), fun _ _ h => dec_12 h0 h1 hop (fun _ => h) (fun z => absurd hG z)⟩
    · simp [its_i, its_s]
    · simp
  · exact .inr ⟨fun _ _ h => exp_12 h0 h1 hop (fun z => absurd z hG) (fun _ => h), fun _ _ h => dec_12 h0 h1 hop (fun z => absurd z hG) (fun _ => h)⟩
theorem same_13 {w : Int} (h0 : 0 ≤ w) (h1 : w < 68719476736) (hop : w / 1073741824 = 14) : Same CS w := by
  by_cases hG : Gd13 (w % 1073741824)
  · refine .inl ⟨_, ?_, ?_, fun _ _ h => exp_13 h0 h1 hop (fun _ => h) (fun z => absurd hG z), fun _ _ h => dec_13 h0 h1 hop (fun _ => h) (fun z => absurd hG z)⟩
    · simp [its_i, its_s]
    · simp
  · exact .inr ⟨fun _ _ h => exp_13 h0 h1 hop (fun z => absurd z hG) (fun _ => h), fun _ _ h => dec_13 h0 h1 hop (fun z => absurd z hG) (fun _ => h)⟩
theorem same_14 {w : Int} (h0 : 0 ≤ w) (h1 : w < 68719476736) (hop : w / 1073741824 = 15) : Same CS w := by
  by_cases hG : Gd14 (w % 1073741824)
  · refine .inl ⟨_, ?_, ?_, fun _ _ h => exp_14 h0 h1 hop (fun _ => h) (fun z => absurd hG z), fun _ _ h => dec_14 h0 h1 hop (fun _ => h) (fun z => absurd hG z)⟩
    · simp [its_i, its_s]
    · simp
  · exact .inr ⟨fun _ _ h => exp_14 h0 h1 hop (fun z => absurd z hG) (fun _ => h), fun _ _ h => dec_14 h0 h1 hop (fun z => absurd z hG) (fun _ => h)⟩
theorem same_15 {w : Int} (h0 : 0 ≤ w) (h1 : w < 68719476736) (hop : w / 1073741824 = 16) : Same CS w := by
  by_cases hG : Gd15 (w % 1073741824)
  · refine .inl ⟨_, ?_, ?_, fun _ _ h => exp_15 h0 h1 hop (fun _ => h) (fun z => absurd hG z), fun _ _ h => dec_15 h0 h1 hop (fun _ => h) (fun z => absurd hG z)⟩
    · simp [its_i, its_s]
    · simp
  · exact .inr ⟨fun _ _ h => exp_15 h0 h1 hop (fun z => absurd z hG) (fun _ => h), fun _ _ h => dec_15 h0 h1 hop (fun z => absurd z hG) (fun _ => h)⟩
theorem same_16 {w : Int} (h0 : 0 ≤ w) (h1 : w < 68719476736) (hop : w / 1073741824 = 17) : Same CS w := by
  by_cases hG : Gd16 (w % 1073741824)
  · refine .inl ⟨_, ?_, ?_, fun _ _ h => exp_16 h0 h1 hop (fun _ => h) (fun z => absurd hG z), fun _ _ h => dec_16 h0 h1 hop (fun _ => h) (fun z => absurd hG z)⟩
    · simp [its_i, its_s]
    · simp
  · exact .inr ⟨fun _ _ h => exp_16 h0 h1 hop (fun z => absurd z hG) (fun _ => h), fun _ _ h => dec_16 h0 h1 hop (fun z => absurd z hG) (fun _ => h)⟩
theorem same_17 {w : Int} (h0 : 0 ≤ w) (h1 : w < 68719476736) (hop : w / 1073741824 = 18) : Same CS w := by
  by_cases hG : Gd17 (w % 1073741824)
  · refine .inl ⟨_, ?_, ?_, fun _ _ h => exp_17 h0 h1 hop (fun _ => h) (fun z => absurd hG z), fun _ _ h => dec_17 h0 h1 hop (fun _ => h) (fun z => absurd hG z)⟩
    · simp [its_i, its_s]
    · simp
  · exact .inr ⟨fun _ _ h => exp_17 h0 h1 hop (fun z => absurd z hG) (fun _ => h), fun _ _ h => dec_17 h0 h1 hop (fun z => absurd z hG) (fun _ => h)⟩
theorem same_all (w : Int) : Same CS w := by
  by_cases hr : w < 0 ∨ 68719476736 ≤ w ∨ w / 1073741824 < 1 ∨ 18 < w / 1073741824
  · exact same_R hr
  · have h0 : 0 ≤ w := by omega
    have h1 : w < 68719476736 := by omega
    rcases (by omega : w / 1073741824 = 1 ∨ w / 1073741824 = 2 ∨ w / 1073741824 = 3 ∨ w / 1073741824 = 4 ∨ w / 1073741824 = 5 ∨ w / 1073741824 = 6 ∨ w / 1073741824 = 7 ∨ w / 1073741824 = 8 ∨ w / 1073741824 = 9 ∨ w / 1073741824 = 10 ∨ w / 1073741824 = 11 ∨ w / 1073741824 = 12 ∨ w / 1073741824 = 13 ∨ w / 1073741824 = 14 ∨ w / 1073741824 = 15 ∨ w / 1073741824 = 16 ∨ w / 1073741824 = 17 ∨ w / 1073741824 = 18) with h | h | h | h | h | h | h | h | h | h | h | h | h | h | h | h | h | h
    · exact same_0 h0 h1 h
    · exact same_1 h0 h1 h
    · exact same_2 h0 h1 h
    · exact same_3 h0 h1 h
    · exact same_4 h0 h1 h
    · exact same_5 h0 h1 h
    · exact same_6 h0 h1 h
    · exact same_7 h0 h1 h
    · exact same_8 h0 h1 h
    · exact same_9 h0 h1 h
    · exact same_10 h0 h1 h
    · exact same_11 h0 h1 h
    · exact same_12 h0 h1 h
    · exact same_13 h0 h1 h
    · exact same_14 h0 h1 h
    · exact same_15 h0 h1 h
    · exact same_16 h0 h1 h
    · exact same_17 h0 h1 h
theorem w_holds {w : Int} {os : Os} {k : D → Os → Prop} {kx : Kx} (h : k (.bl true) os) : T__law_holds CS [.int w] os k kx := by
  unfold T__law_holds fnT
  walk_at "go"
  rcases same_all (CS := CS) w with ⟨L, hL, hl, hE, hD⟩ | ⟨hE, hD⟩
  · refine callX_none (hE _ _ ?_)
    walk_at "go"
    refine callX_none (hD _ _ ?_)
    walk_at "go"
    refine forX_inv (fun i e o => ∃ x y, e = [some (.int w), some (.tup L), some (.tup L), x, y] ∧ o = os) ⟨_, _, rfl, rfl⟩ ?_ ?_ (fun _ _ _ _ => trivial)
    · rintro i d e o N hw ⟨x, y, rfl, rfl⟩ hN
      obtain ⟨rfl, hi⟩ := rng_at hw
      have hi2 : i < L.length := by omega
      have ea : atI L (0 + (i : Int) * 1) = some L[i] := atI_some (by omega) (by rw [show (0 + (i : Int) * 1).toNat = i by omega]; exact List.getElem?_eq_getElem hi2)
      rcases hL _ (List.getElem_mem hi2) with ⟨v, hv⟩ | ⟨z, hv⟩
      · rw [hv] at ea
        walk_at "go"
        exact hN _ _ _ (.refl _) ⟨_, _, rfl, rfl⟩
      · rw [hv] at ea
        walk_at "go"
        exact hN _ _ _ (.refl _) ⟨_, _, rfl, rfl⟩
    · rintro e o ⟨x, y, rfl, rfl⟩
      walk_at "go"
      exact dropX_id h
  · refine callX_none (hE _ _ ?_)
    walk_at "go"
    refine callX_none (hD _ _ fun o => ?_)
    walk_at "go"
    exact dropX_wk (os2 := os) ⟨o, List.perm_append_comm⟩ h
theorem law_true (ns : List Int) (hn : ns.length ≤ 63) : T_law CS [.lst (ns.map D.int)] [] (fun w _ => w = .bl true) (fun _ _ => False) := by
  unfold T_law fnT
  walk_at "go"
  refine callX_all (w_start hn ?_)
  intro st T hT
  walk_at "go"
  refine forX_inv (fun i e o => ∃ T x y, DSt T ∧ e = [some (.lst (ns.map D.int)), some (.ref st), x, y] ∧ o = [(st, .lst T)]) ⟨_, _, _, hT, rfl, rfl⟩ ?_ ?_ (fun _ _ _ _ => trivial)
  · clear hT
    rintro i w e o N hw ⟨T, x, y, hT, rfl, rfl⟩ hN
    walk_at "go"
    refine callX_all (w_word hT fun v T hT => ?_)
    walk_at "go"
    refine callX_all (w_holds ?_)
    walk_at "go"
    exact hN _ _ _ (.refl _) ⟨_, _, _, hT, rfl, rfl⟩
  · clear hT
    rintro e o ⟨T, x, y, hT, rfl, rfl⟩
    walk_at "go"
    refine forX_inv (fun i e o => ∃ T x y, e = [some (.lst (ns.map D.int)), some (.ref st), x, y] ∧ o = [(st, .lst T)]) ⟨_, _, _, rfl, rfl⟩ ?_ ?_ (fun _ _ _ _ => trivial)
    · rintro i w e o N hw ⟨T, x, y, rfl, rfl⟩ hN
      rw [List.getElem?_map] at hw
      obtain ⟨v, _, rfl⟩ := Option.map_eq_some_iff.mp hw
      walk_at "go"
      refine callX_all (w_holds ?_)
      walk_at "go"
      exact hN _ _ _ (.refl _) ⟨_, _, _, rfl, rfl⟩
    · rintro e o ⟨T, x, y, rfl, rfl⟩
      walk_at "go"
      exact dropX_id rfl

end
/-- the law, whatever the classes are called -/
def LawT : FT := fun ws os k kx => ∀ CS : Nat → Addr, T_law CS ws os k kx
theorem all_mk {l : PySem.W.OpenLaw} {w : World} {K : PySem.W.Frag} {h : Heap} {mg : Str → Option Value} {fa : Addr} (X : K.In h) (G : h.Ns mainGlobals mg) (hfa : mg "law" = some (.ref fa))
    {A_CALCULATIONS_1 : Addr} {n_CALCULATIONS_1 : Nat} {sl_CALCULATIONS_1 : Array (Option Value)}
    {t_CALCULATIONS_2 : Tok}
    {t_CALCULATIONS_3 : Tok}
    {t_CALCULATIONS_4 : Tok}
    {t_CALCULATIONS_5 : Tok}
    {t_CALCULATIONS_6 : Tok}
    {t_CALCULATIONS_7 : Tok}
    {t_CALCULATIONS_8 : Tok}
    {t_CALCULATIONS_9 : Tok}
    {t_CALCULATIONS_10 : Tok}
    {t_CALCULATIONS_11 : Tok}
    {t_CALCULATIONS_12 : Tok}
    {t_CALCULATIONS_13 : Tok}
    {t_CALCULATIONS_14 : Tok}
    {t_CALCULATIONS_15 : Tok}
    {t_CALCULATIONS_16 : Tok}
    {t_CALCULATIONS_17 : Tok}
    {t_CALCULATIONS_18 : Tok}
    {A_NAMED_1 : Addr} {n_NAMED_1 : Nat} {sl_NAMED_1 : Array (Option Value)}
    {t_NAMED_2 : Tok}
    {t_NAMED_3 : Tok}
    {t_NAMED_4 : Tok}
    {t_NAMED_5 : Tok}
    {t_NAMED_6 : Tok}
    {A_FORMS_1 : Addr} {n_FORMS_1 : Nat} {sl_FORMS_1 : Array (Option Value)}
    {A_FORMS_2 : Addr} {n_FORMS_2 : Nat} {sl_FORMS_2 : Array (Option Value)}
    {t_FORMS_3 : Tok}
    {A_FORMS_4 : Addr} {n_FORMS_4 : Nat} {sl_FORMS_4 : Array (Option Value)}
    {t_FORMS_5 : Tok}
    {t_FORMS_6 : Tok}
    {t_FORMS_7 : Tok}
    {t_FORMS_8 : Tok}
    {t_FORMS_9 : Tok}
    {A_FORMS_10 : Addr} {n_FORMS_10 : Nat} {sl_FORMS_10 : Array (Option Value)}
    {t_FORMS_11 : Tok}
    {t_FORMS_12 : Tok}
    {t_FORMS_13 : Tok}
    {t_FORMS_14 : Tok}
    {t_FORMS_15 : Tok}
    {A_FORMS_16 : Addr} {n_FORMS_16 : Nat} {sl_FORMS_16 : Array (Option Value)}
    {t_FORMS_17 : Tok}
    {A_FORMS_18 : Addr} {n_FORMS_18 : Nat} {sl_FORMS_18 : Array (Option Value)}
    {t_FORMS_19 : Tok}
    {t_FORMS_20 : Tok}
    {t_FORMS_21 : Tok}
    {t_FORMS_22 : Tok}
    {t_FORMS_23 : Tok}
    {A_FORMS_24 : Addr} {n_FORMS_24 : Nat} {sl_FORMS_24 : Array (Option Value)}
    {t_FORMS_25 : Tok}
    {t_FORMS_26 : Tok}
    {t_FORMS_27 : Tok}
    {t_FORMS_28 : Tok}
    {t_FORMS_29 : Tok}
    {A_FORMS_30 : Addr} {n_FORMS_30 : Nat} {sl_FORMS_30 : Array (Option Value)}
    {t_FORMS_31 : Tok}
    {A_FORMS_32 : Addr} {n_FORMS_32 : Nat} {sl_FORMS_32 : Array (Option Value)}
    {t_FORMS_33 : Tok}
    {t_FORMS_34 : Tok}
    {t_FORMS_35 : Tok}
    {t_FORMS_36 : Tok}
    {t_FORMS_37 : Tok}
    {A_FORMS_38 : Addr} {n_FORMS_38 : Nat} {sl_FORMS_38 : Array (Option Value)}
    {t_FORMS_39 : Tok}
    {t_FORMS_40 : Tok}
    {t_FORMS_41 : Tok}
    {t_FORMS_42 : Tok}
    {t_FORMS_43 : Tok}
    {A_FORMS_44 : Addr} {n_FORMS_44 : Nat} {sl_FORMS_44 : Array (Option Value)}
    {t_FORMS_45 : Tok}
    {t_FORMS_46 : Tok}
    {t_FORMS_47 : Tok}
    {t_FORMS_48 : Tok}
    {t_FORMS_49 : Tok}
    {A_FORMS_50 : Addr} {n_FORMS_50 : Nat} {sl_FORMS_50 : Array (Option Value)}
    {t_FORMS_51 : Tok}
    {t_FORMS_52 : Tok}
    {t_FORMS_53 : Tok}
    {t_FORMS_54 : Tok}
    {t_FORMS_55 : Tok}
    {A_FORMS_56 : Addr} {n_FORMS_56 : Nat} {sl_FORMS_56 : Array (Option Value)}
    {t_FORMS_57 : Tok}
    {A_FORMS_58 : Addr} {n_FORMS_58 : Nat} {sl_FORMS_58 : Array (Option Value)}
    {t_FORMS_59 : Tok}
    {t_FORMS_60 : Tok}
    {t_FORMS_61 : Tok}
    {t_FORMS_62 : Tok}
    {t_FORMS_63 : Tok}
    {A_FORMS_64 : Addr} {n_FORMS_64 : Nat} {sl_FORMS_64 : Array (Option Value)}
    {t_FORMS_65 : Tok}
    {t_FORMS_66 : Tok}
    {t_FORMS_67 : Tok}
    {t_FORMS_68 : Tok}
    {t_FORMS_69 : Tok}
    {A_FORMS_70 : Addr} {n_FORMS_70 : Nat} {sl_FORMS_70 : Array (Option Value)}
    {t_FORMS_71 : Tok}
    {A_FORMS_72 : Addr} {n_FORMS_72 : Nat} {sl_FORMS_72 : Array (Option Value)}
    {t_FORMS_73 : Tok}
    {t_FORMS_74 : Tok}
    {t_FORMS_75 : Tok}
    {t_FORMS_76 : Tok}
    {t_FORMS_77 : Tok}
    {A_FORMS_78 : Addr} {n_FORMS_78 : Nat} {sl_FORMS_78 : Array (Option Value)}
    {t_FORMS_79 : Tok}
    {t_FORMS_80 : Tok}
    {t_FORMS_81 : Tok}
    {t_FORMS_82 : Tok}
    {t_FORMS_83 : Tok}
    {A_FORMS_84 : Addr} {n_FORMS_84 : Nat} {sl_FORMS_84 : Array (Option Value)}
    {t_FORMS_85 : Tok}
    {A_FORMS_86 : Addr} {n_FORMS_86 : Nat} {sl_FORMS_86 : Array (Option Value)}
    {t_FORMS_87 : Tok}
    {t_FORMS_88 : Tok}
    {t_FORMS_89 : Tok}
    {t_FORMS_90 : Tok}
    {t_FORMS_91 : Tok}
    {A_FORMS_92 : Addr} {n_FORMS_92 : Nat} {sl_FORMS_92 : Array (Option Value)}
    {t_FORMS_93 : Tok}
    {t_FORMS_94 : Tok}
    {t_FORMS_95 : Tok}
    {t_FORMS_96 : Tok}
    {t_FORMS_97 : Tok}
    {A_FORMS_98 : Addr} {n_FORMS_98 : Nat} {sl_FORMS_98 : Array (Option Value)}
    {t_FORMS_99 : Tok}
    {t_FORMS_100 : Tok}
    {t_FORMS_101 : Tok}
    {t_FORMS_102 : Tok}
    {t_FORMS_103 : Tok}
    {A_FORMS_104 : Addr} {n_FORMS_104 : Nat} {sl_FORMS_104 : Array (Option Value)}
    {t_FORMS_105 : Tok}
    {t_FORMS_106 : Tok}
    {t_FORMS_107 : Tok}
    {t_FORMS_108 : Tok}
    {t_FORMS_109 : Tok}
    {A_FORMS_110 : Addr} {n_FORMS_110 : Nat} {sl_FORMS_110 : Array (Option Value)}
    {t_FORMS_111 : Tok}
    {A_FORMS_112 : Addr} {n_FORMS_112 : Nat} {sl_FORMS_112 : Array (Option Value)}
    {t_FORMS_113 : Tok}
    {t_FORMS_114 : Tok}
    {t_FORMS_115 : Tok}
    {t_FORMS_116 : Tok}
    {t_FORMS_117 : Tok}
    {A_FORMS_118 : Addr} {n_FORMS_118 : Nat} {sl_FORMS_118 : Array (Option Value)}
    {t_FORMS_119 : Tok}
    {t_FORMS_120 : Tok}
    {t_FORMS_121 : Tok}
    {t_FORMS_122 : Tok}
    {t_FORMS_123 : Tok}
    {A_FORMS_124 : Addr} {n_FORMS_124 : Nat} {sl_FORMS_124 : Array (Option Value)}
    {t_FORMS_125 : Tok}
    {t_FORMS_126 : Tok}
    {t_FORMS_127 : Tok}
    {t_FORMS_128 : Tok}
    {t_FORMS_129 : Tok}
    {A_FORMS_130 : Addr} {n_FORMS_130 : Nat} {sl_FORMS_130 : Array (Option Value)}
    {t_FORMS_131 : Tok}
    {t_FORMS_132 : Tok}
    {t_FORMS_133 : Tok}
    {t_FORMS_134 : Tok}
    {t_FORMS_135 : Tok}
    {A_FORMS_136 : Addr} {n_FORMS_136 : Nat} {sl_FORMS_136 : Array (Option Value)}
    {t_FORMS_137 : Tok}
    {A_FORMS_138 : Addr} {n_FORMS_138 : Nat} {sl_FORMS_138 : Array (Option Value)}
    {t_FORMS_139 : Tok}
    {t_FORMS_140 : Tok}
    {t_FORMS_141 : Tok}
    {t_FORMS_142 : Tok}
    {t_FORMS_143 : Tok}
    {A_FORMS_144 : Addr} {n_FORMS_144 : Nat} {sl_FORMS_144 : Array (Option Value)}
    {t_FORMS_145 : Tok}
    {A_FORMS_146 : Addr} {n_FORMS_146 : Nat} {sl_FORMS_146 : Array (Option Value)}
    {t_FORMS_147 : Tok}
    {t_FORMS_148 : Tok}
    {t_FORMS_149 : Tok}
    {t_FORMS_150 : Tok}
    {t_FORMS_151 : Tok}
    {A_FORMS_152 : Addr} {n_FORMS_152 : Nat} {sl_FORMS_152 : Array (Option Value)}
    {t_FORMS_153 : Tok}
    {t_FORMS_154 : Tok}
    {t_FORMS_155 : Tok}
    {t_FORMS_156 : Tok}
    {t_FORMS_157 : Tok}
    {A_FORMS_158 : Addr} {n_FORMS_158 : Nat} {sl_FORMS_158 : Array (Option Value)}
    {t_FORMS_159 : Tok}
    {A_FORMS_160 : Addr} {n_FORMS_160 : Nat} {sl_FORMS_160 : Array (Option Value)}
    {t_FORMS_161 : Tok}
    {t_FORMS_162 : Tok}
    {t_FORMS_163 : Tok}
    {t_FORMS_164 : Tok}
    {t_FORMS_165 : Tok}
    {A_FORMS_166 : Addr} {n_FORMS_166 : Nat} {sl_FORMS_166 : Array (Option Value)}
    {t_FORMS_167 : Tok}
    {t_FORMS_168 : Tok}
    {t_FORMS_169 : Tok}
    {t_FORMS_170 : Tok}
    {t_FORMS_171 : Tok}
    {A_FORMS_172 : Addr} {n_FORMS_172 : Nat} {sl_FORMS_172 : Array (Option Value)}
    {t_FORMS_173 : Tok}
    {A_FORMS_174 : Addr} {n_FORMS_174 : Nat} {sl_FORMS_174 : Array (Option Value)}
    {t_FORMS_175 : Tok}
    {t_FORMS_176 : Tok}
    {t_FORMS_177 : Tok}
    {t_FORMS_178 : Tok}
    {t_FORMS_179 : Tok}
    {A_FORMS_180 : Addr} {n_FORMS_180 : Nat} {sl_FORMS_180 : Array (Option Value)}
    {t_FORMS_181 : Tok}
    {t_FORMS_182 : Tok}
    {t_FORMS_183 : Tok}
    {t_FORMS_184 : Tok}
    {t_FORMS_185 : Tok}
    {A_FORMS_186 : Addr} {n_FORMS_186 : Nat} {sl_FORMS_186 : Array (Option Value)}
    {t_FORMS_187 : Tok}
    {A_FORMS_188 : Addr} {n_FORMS_188 : Nat} {sl_FORMS_188 : Array (Option Value)}
    {t_FORMS_189 : Tok}
    {t_FORMS_190 : Tok}
    {t_FORMS_191 : Tok}
    {t_FORMS_192 : Tok}
    {t_FORMS_193 : Tok}
    {A_FORMS_194 : Addr} {n_FORMS_194 : Nat} {sl_FORMS_194 : Array (Option Value)}
    {t_FORMS_195 : Tok}
    {A_FORMS_196 : Addr} {n_FORMS_196 : Nat} {sl_FORMS_196 : Array (Option Value)}
    {t_FORMS_197 : Tok}
    {A_FORMS_198 : Addr} {n_FORMS_198 : Nat} {sl_FORMS_198 : Array (Option Value)}
    {t_FORMS_199 : Tok}
    {A_FORMS_200 : Addr} {n_FORMS_200 : Nat} {sl_FORMS_200 : Array (Option Value)}
    {t_FORMS_201 : Tok}
    {t_FORMS_202 : Tok}
    {t_FORMS_203 : Tok}
    {t_FORMS_204 : Tok}
    {t_FORMS_205 : Tok}
    {A_FORMS_206 : Addr} {n_FORMS_206 : Nat} {sl_FORMS_206 : Array (Option Value)}
    {t_FORMS_207 : Tok}
    {A_FORMS_208 : Addr} {n_FORMS_208 : Nat} {sl_FORMS_208 : Array (Option Value)}
    {t_FORMS_209 : Tok}
    {t_FORMS_210 : Tok}
    {t_FORMS_211 : Tok}
    {t_FORMS_212 : Tok}
    {t_FORMS_213 : Tok}
    {A_FORMS_214 : Addr} {n_FORMS_214 : Nat} {sl_FORMS_214 : Array (Option Value)}
    {t_FORMS_215 : Tok}
    {A_FORMS_216 : Addr} {n_FORMS_216 : Nat} {sl_FORMS_216 : Array (Option Value)}
    {t_FORMS_217 : Tok}
    {t_FORMS_218 : Tok}
    {t_FORMS_219 : Tok}
    {t_FORMS_220 : Tok}
    {t_FORMS_221 : Tok}
    {A_FORMS_222 : Addr} {n_FORMS_222 : Nat} {sl_FORMS_222 : Array (Option Value)}
    {t_FORMS_223 : Tok}
    {t_FORMS_224 : Tok}
    {t_FORMS_225 : Tok}
    {t_FORMS_226 : Tok}
    {t_FORMS_227 : Tok}
    {A_FORMS_228 : Addr} {n_FORMS_228 : Nat} {sl_FORMS_228 : Array (Option Value)}
    {t_FORMS_229 : Tok}
    {A_FORMS_230 : Addr} {n_FORMS_230 : Nat} {sl_FORMS_230 : Array (Option Value)}
    {t_FORMS_231 : Tok}
    {t_FORMS_232 : Tok}
    {t_FORMS_233 : Tok}
    {t_FORMS_234 : Tok}
    {t_FORMS_235 : Tok}
    {A_FORMS_236 : Addr} {n_FORMS_236 : Nat} {sl_FORMS_236 : Array (Option Value)}
    {t_FORMS_237 : Tok}
    {t_FORMS_238 : Tok}
    {t_FORMS_239 : Tok}
    {t_FORMS_240 : Tok}
    {t_FORMS_241 : Tok}
    {t_OPCODE_SHIFT : Tok}
    {t_WORDS : Tok}
    {t_MEMORY : Tok}
    {A_CodeError : Addr}
    {xn_CodeError xq_CodeError : Str} {xN_CodeError : Addr} {xb_CodeError : List Value} {xs_CodeError : List Str} {xu_CodeError : List Value} {xa_CodeError : Bool} {xo_CodeError : Option Bool} {xd_CodeError : Option Addr} {x0_CodeError x1_CodeError x2_CodeError x3_CodeError x5_CodeError : Option Value}
    {A_DeadbeatError : Addr}
    {f_CodeError___init__ : Addr} {od_CodeError___init__ an_CodeError___init__ : Option Addr} {sl_CodeError___init__ : Array (Option Value)} {oc_CodeError___init__ kV_CodeError___init__ dc_CodeError___init__ pm_CodeError___init__ cd_CodeError___init__ ct_CodeError___init__ : Value}
    {f__law_start : Addr} {od__law_start an__law_start : Option Addr} {sl__law_start : Array (Option Value)} {oc__law_start kV__law_start dc__law_start pm__law_start cd__law_start ct__law_start : Value}
    {f__law_shape : Addr} {od__law_shape an__law_shape : Option Addr} {sl__law_shape : Array (Option Value)} {oc__law_shape kV__law_shape dc__law_shape pm__law_shape cd__law_shape ct__law_shape : Value}
    {f__law_name : Addr} {od__law_name an__law_name : Option Addr} {sl__law_name : Array (Option Value)} {oc__law_name kV__law_name dc__law_name pm__law_name cd__law_name ct__law_name : Value}
    {f__law_place : Addr} {od__law_place an__law_place : Option Addr} {sl__law_place : Array (Option Value)} {oc__law_place kV__law_place dc__law_place pm__law_place cd__law_place ct__law_place : Value}
    {f__law_greatest : Addr} {od__law_greatest an__law_greatest : Option Addr} {sl__law_greatest : Array (Option Value)} {oc__law_greatest kV__law_greatest dc__law_greatest pm__law_greatest cd__law_greatest ct__law_greatest : Value}
    {f__law_operation : Addr} {od__law_operation an__law_operation : Option Addr} {sl__law_operation : Array (Option Value)} {oc__law_operation kV__law_operation dc__law_operation pm__law_operation cd__law_operation ct__law_operation : Value}
    {f__law_expected : Addr} {od__law_expected an__law_expected : Option Addr} {sl__law_expected : Array (Option Value)} {oc__law_expected kV__law_expected dc__law_expected pm__law_expected cd__law_expected ct__law_expected : Value}
    {f_value_of : Addr} {od_value_of an_value_of : Option Addr} {sl_value_of : Array (Option Value)} {oc_value_of kV_value_of dc_value_of pm_value_of cd_value_of ct_value_of : Value}
    {f_opcode_of : Addr} {od_opcode_of an_opcode_of : Option Addr} {sl_opcode_of : Array (Option Value)} {oc_opcode_of kV_opcode_of dc_opcode_of pm_opcode_of cd_opcode_of ct_opcode_of : Value}
    {f_number_of : Addr} {od_number_of an_number_of : Option Addr} {sl_number_of : Array (Option Value)} {oc_number_of kV_number_of dc_number_of pm_number_of cd_number_of ct_number_of : Value}
    {f_is_instruction : Addr} {od_is_instruction an_is_instruction : Option Addr} {sl_is_instruction : Array (Option Value)} {oc_is_instruction kV_is_instruction dc_is_instruction pm_is_instruction cd_is_instruction ct_is_instruction : Value}
    {f_encode : Addr} {od_encode an_encode : Option Addr} {sl_encode : Array (Option Value)} {oc_encode kV_encode dc_encode pm_encode cd_encode ct_encode : Value}
    {f_decode : Addr} {od_decode an_decode : Option Addr} {sl_decode : Array (Option Value)} {oc_decode kV_decode dc_decode pm_decode cd_decode ct_decode : Value}
    {f__law_holds : Addr} {od__law_holds an__law_holds : Option Addr} {sl__law_holds : Array (Option Value)} {oc__law_holds kV__law_holds dc__law_holds pm__law_holds cd__law_holds ct__law_holds : Value}
    {f__law_draw : Addr} {od__law_draw an__law_draw : Option Addr} {sl__law_draw : Array (Option Value)} {oc__law_draw kV__law_draw dc__law_draw pm__law_draw cd__law_draw ct__law_draw : Value}
    {f__law_word : Addr} {od__law_word an__law_word : Option Addr} {sl__law_word : Array (Option Value)} {oc__law_word kV__law_word dc__law_word pm__law_word cd__law_word ct__law_word : Value}
    {f_law : Addr} {od_law an_law : Option Addr} {sl_law : Array (Option Value)} {oc_law kV_law dc_law pm_law cd_law ct_law : Value}
    (m_CALCULATIONS : PySem.W.nsIn K mainGlobals "CALCULATIONS" = some (some (.ref A_CALCULATIONS_1)))
    (u_CALCULATIONS_1 : K.lookup A_CALCULATIONS_1 = some ⟨.type "tuple", none, .seq #[.str "add" t_CALCULATIONS_2, .str "sub" t_CALCULATIONS_3, .str "mul" t_CALCULATIONS_4, .str "div" t_CALCULATIONS_5, .str "mod" t_CALCULATIONS_6, .str "and" t_CALCULATIONS_7, .str "or" t_CALCULATIONS_8, .str "xor" t_CALCULATIONS_9, .str "shl" t_CALCULATIONS_10, .str "shr" t_CALCULATIONS_11, .str "ult" t_CALCULATIONS_12, .str "ule" t_CALCULATIONS_13, .str "slt" t_CALCULATIONS_14, .str "sle" t_CALCULATIONS_15, .str "eq" t_CALCULATIONS_16, .str "ne" t_CALCULATIONS_17, .str "nor" t_CALCULATIONS_18] n_CALCULATIONS_1, sl_CALCULATIONS_1⟩)
    (m_NAMED : PySem.W.nsIn K mainGlobals "NAMED" = some (some (.ref A_NAMED_1)))
    (u_NAMED_1 : K.lookup A_NAMED_1 = some ⟨.type "tuple", none, .seq #[.int 0 t_NAMED_2, .int 16 t_NAMED_3, .int 13 t_NAMED_4, .int 32 t_NAMED_5, .int 0 t_NAMED_6] n_NAMED_1, sl_NAMED_1⟩)
    (m_FORMS : PySem.W.nsIn K mainGlobals "FORMS" = some (some (.ref A_FORMS_1)))
    (u_FORMS_1 : K.lookup A_FORMS_1 = some ⟨.type "tuple", none, .seq #[.ref A_FORMS_2, .ref A_FORMS_16, .ref A_FORMS_30, .ref A_FORMS_56, .ref A_FORMS_70, .ref A_FORMS_84, .ref A_FORMS_110, .ref A_FORMS_136, .ref A_FORMS_144, .ref A_FORMS_158, .ref A_FORMS_172, .ref A_FORMS_186, .ref A_FORMS_194, .ref A_FORMS_196, .ref A_FORMS_198, .ref A_FORMS_206, .ref A_FORMS_214, .ref A_FORMS_228] n_FORMS_1, sl_FORMS_1⟩)
    (u_FORMS_2 : K.lookup A_FORMS_2 = some ⟨.type "tuple", none, .seq #[.str "set" t_FORMS_3, .ref A_FORMS_4, .ref A_FORMS_10] n_FORMS_2, sl_FORMS_2⟩)
    (u_FORMS_4 : K.lookup A_FORMS_4 = some ⟨.type "tuple", none, .seq #[.int 0 t_FORMS_5, .int 8 t_FORMS_6, .int 26 t_FORMS_7, .int 16 t_FORMS_8, .int 0 t_FORMS_9] n_FORMS_4, sl_FORMS_4⟩)
    (u_FORMS_10 : K.lookup A_FORMS_10 = some ⟨.type "tuple", none, .seq #[.int (-32768) t_FORMS_11, .int 32767 t_FORMS_12, .int 0 t_FORMS_13, .int 65536 t_FORMS_14, .int 0 t_FORMS_15] n_FORMS_10, sl_FORMS_10⟩)
    (u_FORMS_16 : K.lookup A_FORMS_16 = some ⟨.type "tuple", none, .seq #[.str "high" t_FORMS_17, .ref A_FORMS_18, .ref A_FORMS_24] n_FORMS_16, sl_FORMS_16⟩)
    (u_FORMS_18 : K.lookup A_FORMS_18 = some ⟨.type "tuple", none, .seq #[.int 0 t_FORMS_19, .int 8 t_FORMS_20, .int 26 t_FORMS_21, .int 16 t_FORMS_22, .int 0 t_FORMS_23] n_FORMS_18, sl_FORMS_18⟩)
    (u_FORMS_24 : K.lookup A_FORMS_24 = some ⟨.type "tuple", none, .seq #[.int 0 t_FORMS_25, .int 65535 t_FORMS_26, .int 0 t_FORMS_27, .int 65536 t_FORMS_28, .int 0 t_FORMS_29] n_FORMS_24, sl_FORMS_24⟩)
    (u_FORMS_30 : K.lookup A_FORMS_30 = some ⟨.type "tuple", none, .seq #[.str "calc" t_FORMS_31, .ref A_FORMS_32, .ref A_FORMS_38, .ref A_FORMS_44, .ref A_FORMS_50] n_FORMS_30, sl_FORMS_30⟩)
    (u_FORMS_32 : K.lookup A_FORMS_32 = some ⟨.type "tuple", none, .seq #[.int 0 t_FORMS_33, .int 16 t_FORMS_34, .int 13 t_FORMS_35, .int 32 t_FORMS_36, .int 0 t_FORMS_37] n_FORMS_32, sl_FORMS_32⟩)
    (u_FORMS_38 : K.lookup A_FORMS_38 = some ⟨.type "tuple", none, .seq #[.int 0 t_FORMS_39, .int 8 t_FORMS_40, .int 26 t_FORMS_41, .int 16 t_FORMS_42, .int 0 t_FORMS_43] n_FORMS_38, sl_FORMS_38⟩)
    (u_FORMS_44 : K.lookup A_FORMS_44 = some ⟨.type "tuple", none, .seq #[.int 0 t_FORMS_45, .int 8 t_FORMS_46, .int 22 t_FORMS_47, .int 16 t_FORMS_48, .int 0 t_FORMS_49] n_FORMS_44, sl_FORMS_44⟩)
    (u_FORMS_50 : K.lookup A_FORMS_50 = some ⟨.type "tuple", none, .seq #[.int 0 t_FORMS_51, .int 8 t_FORMS_52, .int 18 t_FORMS_53, .int 16 t_FORMS_54, .int 0 t_FORMS_55] n_FORMS_50, sl_FORMS_50⟩)
    (u_FORMS_56 : K.lookup A_FORMS_56 = some ⟨.type "tuple", none, .seq #[.str "load" t_FORMS_57, .ref A_FORMS_58, .ref A_FORMS_64] n_FORMS_56, sl_FORMS_56⟩)
    (u_FORMS_58 : K.lookup A_FORMS_58 = some ⟨.type "tuple", none, .seq #[.int 0 t_FORMS_59, .int 8 t_FORMS_60, .int 26 t_FORMS_61, .int 16 t_FORMS_62, .int 0 t_FORMS_63] n_FORMS_58, sl_FORMS_58⟩)
    (u_FORMS_64 : K.lookup A_FORMS_64 = some ⟨.type "tuple", none, .seq #[.int 0 t_FORMS_65, .int 16383 t_FORMS_66, .int 0 t_FORMS_67, .int 16384 t_FORMS_68, .int 0 t_FORMS_69] n_FORMS_64, sl_FORMS_64⟩)
    (u_FORMS_70 : K.lookup A_FORMS_70 = some ⟨.type "tuple", none, .seq #[.str "store" t_FORMS_71, .ref A_FORMS_72, .ref A_FORMS_78] n_FORMS_70, sl_FORMS_70⟩)
    (u_FORMS_72 : K.lookup A_FORMS_72 = some ⟨.type "tuple", none, .seq #[.int 0 t_FORMS_73, .int 8 t_FORMS_74, .int 26 t_FORMS_75, .int 16 t_FORMS_76, .int 0 t_FORMS_77] n_FORMS_72, sl_FORMS_72⟩)
    (u_FORMS_78 : K.lookup A_FORMS_78 = some ⟨.type "tuple", none, .seq #[.int 0 t_FORMS_79, .int 16383 t_FORMS_80, .int 0 t_FORMS_81, .int 16384 t_FORMS_82, .int 0 t_FORMS_83] n_FORMS_78, sl_FORMS_78⟩)
    (u_FORMS_84 : K.lookup A_FORMS_84 = some ⟨.type "tuple", none, .seq #[.str "loadx" t_FORMS_85, .ref A_FORMS_86, .ref A_FORMS_92, .ref A_FORMS_98, .ref A_FORMS_104] n_FORMS_84, sl_FORMS_84⟩)
    (u_FORMS_86 : K.lookup A_FORMS_86 = some ⟨.type "tuple", none, .seq #[.int 0 t_FORMS_87, .int 8 t_FORMS_88, .int 26 t_FORMS_89, .int 16 t_FORMS_90, .int 0 t_FORMS_91] n_FORMS_86, sl_FORMS_86⟩)
    (u_FORMS_92 : K.lookup A_FORMS_92 = some ⟨.type "tuple", none, .seq #[.int 0 t_FORMS_93, .int 8 t_FORMS_94, .int 22 t_FORMS_95, .int 16 t_FORMS_96, .int 0 t_FORMS_97] n_FORMS_92, sl_FORMS_92⟩)
    (u_FORMS_98 : K.lookup A_FORMS_98 = some ⟨.type "tuple", none, .seq #[.int 0 t_FORMS_99, .int 16383 t_FORMS_100, .int 0 t_FORMS_101, .int 16384 t_FORMS_102, .int 0 t_FORMS_103] n_FORMS_98, sl_FORMS_98⟩)
    (u_FORMS_104 : K.lookup A_FORMS_104 = some ⟨.type "tuple", none, .seq #[.int 1 t_FORMS_105, .int 64 t_FORMS_106, .int 14 t_FORMS_107, .int 64 t_FORMS_108, .int 1 t_FORMS_109] n_FORMS_104, sl_FORMS_104⟩)
    (u_FORMS_110 : K.lookup A_FORMS_110 = some ⟨.type "tuple", none, .seq #[.str "storex" t_FORMS_111, .ref A_FORMS_112, .ref A_FORMS_118, .ref A_FORMS_124, .ref A_FORMS_130] n_FORMS_110, sl_FORMS_110⟩)
    (u_FORMS_112 : K.lookup A_FORMS_112 = some ⟨.type "tuple", none, .seq #[.int 0 t_FORMS_113, .int 8 t_FORMS_114, .int 26 t_FORMS_115, .int 16 t_FORMS_116, .int 0 t_FORMS_117] n_FORMS_112, sl_FORMS_112⟩)
    (u_FORMS_118 : K.lookup A_FORMS_118 = some ⟨.type "tuple", none, .seq #[.int 0 t_FORMS_119, .int 8 t_FORMS_120, .int 22 t_FORMS_121, .int 16 t_FORMS_122, .int 0 t_FORMS_123] n_FORMS_118, sl_FORMS_118⟩)
    (u_FORMS_124 : K.lookup A_FORMS_124 = some ⟨.type "tuple", none, .seq #[.int 0 t_FORMS_125, .int 16383 t_FORMS_126, .int 0 t_FORMS_127, .int 16384 t_FORMS_128, .int 0 t_FORMS_129] n_FORMS_124, sl_FORMS_124⟩)
    (u_FORMS_130 : K.lookup A_FORMS_130 = some ⟨.type "tuple", none, .seq #[.int 1 t_FORMS_131, .int 64 t_FORMS_132, .int 14 t_FORMS_133, .int 64 t_FORMS_134, .int 1 t_FORMS_135] n_FORMS_130, sl_FORMS_130⟩)
    (u_FORMS_136 : K.lookup A_FORMS_136 = some ⟨.type "tuple", none, .seq #[.str "jump" t_FORMS_137, .ref A_FORMS_138] n_FORMS_136, sl_FORMS_136⟩)
    (u_FORMS_138 : K.lookup A_FORMS_138 = some ⟨.type "tuple", none, .seq #[.int 0 t_FORMS_139, .int 4095 t_FORMS_140, .int 0 t_FORMS_141, .int 4096 t_FORMS_142, .int 0 t_FORMS_143] n_FORMS_138, sl_FORMS_138⟩)
    (u_FORMS_144 : K.lookup A_FORMS_144 = some ⟨.type "tuple", none, .seq #[.str "jzero" t_FORMS_145, .ref A_FORMS_146, .ref A_FORMS_152] n_FORMS_144, sl_FORMS_144⟩)
    (u_FORMS_146 : K.lookup A_FORMS_146 = some ⟨.type "tuple", none, .seq #[.int 0 t_FORMS_147, .int 8 t_FORMS_148, .int 26 t_FORMS_149, .int 16 t_FORMS_150, .int 0 t_FORMS_151] n_FORMS_146, sl_FORMS_146⟩)
    (u_FORMS_152 : K.lookup A_FORMS_152 = some ⟨.type "tuple", none, .seq #[.int 0 t_FORMS_153, .int 4095 t_FORMS_154, .int 0 t_FORMS_155, .int 4096 t_FORMS_156, .int 0 t_FORMS_157] n_FORMS_152, sl_FORMS_152⟩)
    (u_FORMS_158 : K.lookup A_FORMS_158 = some ⟨.type "tuple", none, .seq #[.str "count" t_FORMS_159, .ref A_FORMS_160, .ref A_FORMS_166] n_FORMS_158, sl_FORMS_158⟩)
    (u_FORMS_160 : K.lookup A_FORMS_160 = some ⟨.type "tuple", none, .seq #[.int 0 t_FORMS_161, .int 255 t_FORMS_162, .int 22 t_FORMS_163, .int 256 t_FORMS_164, .int 0 t_FORMS_165] n_FORMS_160, sl_FORMS_160⟩)
    (u_FORMS_166 : K.lookup A_FORMS_166 = some ⟨.type "tuple", none, .seq #[.int 1 t_FORMS_167, .int 64 t_FORMS_168, .int 0 t_FORMS_169, .int 64 t_FORMS_170, .int 1 t_FORMS_171] n_FORMS_166, sl_FORMS_166⟩)
    (u_FORMS_172 : K.lookup A_FORMS_172 = some ⟨.type "tuple", none, .seq #[.str "again" t_FORMS_173, .ref A_FORMS_174, .ref A_FORMS_180] n_FORMS_172, sl_FORMS_172⟩)
    (u_FORMS_174 : K.lookup A_FORMS_174 = some ⟨.type "tuple", none, .seq #[.int 0 t_FORMS_175, .int 255 t_FORMS_176, .int 22 t_FORMS_177, .int 256 t_FORMS_178, .int 0 t_FORMS_179] n_FORMS_174, sl_FORMS_174⟩)
    (u_FORMS_180 : K.lookup A_FORMS_180 = some ⟨.type "tuple", none, .seq #[.int 0 t_FORMS_181, .int 4095 t_FORMS_182, .int 0 t_FORMS_183, .int 4096 t_FORMS_184, .int 0 t_FORMS_185] n_FORMS_180, sl_FORMS_180⟩)
    (u_FORMS_186 : K.lookup A_FORMS_186 = some ⟨.type "tuple", none, .seq #[.str "link" t_FORMS_187, .ref A_FORMS_188] n_FORMS_186, sl_FORMS_186⟩)
    (u_FORMS_188 : K.lookup A_FORMS_188 = some ⟨.type "tuple", none, .seq #[.int 0 t_FORMS_189, .int 4095 t_FORMS_190, .int 0 t_FORMS_191, .int 4096 t_FORMS_192, .int 0 t_FORMS_193] n_FORMS_188, sl_FORMS_188⟩)
    (u_FORMS_194 : K.lookup A_FORMS_194 = some ⟨.type "tuple", none, .seq #[.str "back" t_FORMS_195] n_FORMS_194, sl_FORMS_194⟩)
    (u_FORMS_196 : K.lookup A_FORMS_196 = some ⟨.type "tuple", none, .seq #[.str "done" t_FORMS_197] n_FORMS_196, sl_FORMS_196⟩)
    (u_FORMS_198 : K.lookup A_FORMS_198 = some ⟨.type "tuple", none, .seq #[.str "enter" t_FORMS_199, .ref A_FORMS_200] n_FORMS_198, sl_FORMS_198⟩)
    (u_FORMS_200 : K.lookup A_FORMS_200 = some ⟨.type "tuple", none, .seq #[.int 0 t_FORMS_201, .int 3 t_FORMS_202, .int 0 t_FORMS_203, .int 16 t_FORMS_204, .int 0 t_FORMS_205] n_FORMS_200, sl_FORMS_200⟩)
    (u_FORMS_206 : K.lookup A_FORMS_206 = some ⟨.type "tuple", none, .seq #[.str "leave" t_FORMS_207, .ref A_FORMS_208] n_FORMS_206, sl_FORMS_206⟩)
    (u_FORMS_208 : K.lookup A_FORMS_208 = some ⟨.type "tuple", none, .seq #[.int 0 t_FORMS_209, .int 3 t_FORMS_210, .int 0 t_FORMS_211, .int 16 t_FORMS_212, .int 0 t_FORMS_213] n_FORMS_208, sl_FORMS_208⟩)
    (u_FORMS_214 : K.lookup A_FORMS_214 = some ⟨.type "tuple", none, .seq #[.str "in" t_FORMS_215, .ref A_FORMS_216, .ref A_FORMS_222] n_FORMS_214, sl_FORMS_214⟩)
    (u_FORMS_216 : K.lookup A_FORMS_216 = some ⟨.type "tuple", none, .seq #[.int 0 t_FORMS_217, .int 8 t_FORMS_218, .int 26 t_FORMS_219, .int 16 t_FORMS_220, .int 0 t_FORMS_221] n_FORMS_216, sl_FORMS_216⟩)
    (u_FORMS_222 : K.lookup A_FORMS_222 = some ⟨.type "tuple", none, .seq #[.int 0 t_FORMS_223, .int 7 t_FORMS_224, .int 0 t_FORMS_225, .int 16 t_FORMS_226, .int 0 t_FORMS_227] n_FORMS_222, sl_FORMS_222⟩)
    (u_FORMS_228 : K.lookup A_FORMS_228 = some ⟨.type "tuple", none, .seq #[.str "out" t_FORMS_229, .ref A_FORMS_230, .ref A_FORMS_236] n_FORMS_228, sl_FORMS_228⟩)
    (u_FORMS_230 : K.lookup A_FORMS_230 = some ⟨.type "tuple", none, .seq #[.int 0 t_FORMS_231, .int 8 t_FORMS_232, .int 26 t_FORMS_233, .int 16 t_FORMS_234, .int 0 t_FORMS_235] n_FORMS_230, sl_FORMS_230⟩)
    (u_FORMS_236 : K.lookup A_FORMS_236 = some ⟨.type "tuple", none, .seq #[.int 0 t_FORMS_237, .int 7 t_FORMS_238, .int 0 t_FORMS_239, .int 16 t_FORMS_240, .int 0 t_FORMS_241] n_FORMS_236, sl_FORMS_236⟩)
    (m_OPCODE_SHIFT : PySem.W.nsIn K mainGlobals "OPCODE_SHIFT" = some (some (.int 30 t_OPCODE_SHIFT)))
    (m_WORDS : PySem.W.nsIn K mainGlobals "WORDS" = some (some (.int 68719476736 t_WORDS)))
    (m_MEMORY : PySem.W.nsIn K mainGlobals "MEMORY" = some (some (.int 16384 t_MEMORY)))
    (z_int : PySem.W.nsIn K mainGlobals "int" = some none)
    (z_list : PySem.W.nsIn K mainGlobals "list" = some none)
    (z_tuple : PySem.W.nsIn K mainGlobals "tuple" = some none)
    (z_len : PySem.W.nsIn K mainGlobals "len" = some none)
    (z_enumerate : PySem.W.nsIn K mainGlobals "enumerate" = some none)
    (z_isinstance : PySem.W.nsIn K mainGlobals "isinstance" = some none)
    (z_zip : PySem.W.nsIn K mainGlobals "zip" = some none)
    (z_range : PySem.W.nsIn K mainGlobals "range" = some none)
    (z_bool : PySem.W.nsIn K mainGlobals "bool" = some none)
    (z_abs : PySem.W.nsIn K mainGlobals "abs" = some none)
    (z_min : PySem.W.nsIn K mainGlobals "min" = some none)
    (aC_CodeError : PySem.W.nsIn K mainGlobals "CodeError" = some (some (.ref A_CodeError)))
    (tC_CodeError : PySem.W.typeIn K (.ref A_CodeError) = some (.type "type"))
    (be_CodeError : PySem.W.subIn K (.ref A_CodeError) (.type "BaseException") = some true)
    (no_CodeError : PySem.W.findIn K (.ref A_CodeError) "at" = some none)
    (xL_CodeError : K.lookup A_CodeError = some (excClassObj xn_CodeError xq_CodeError A_CodeError xN_CodeError xb_CodeError [.ref A_DeadbeatError, .type "ValueError", .type "Exception", .type "BaseException", .type "object"] true xs_CodeError xu_CodeError xa_CodeError xo_CodeError xd_CodeError x0_CodeError x1_CodeError x2_CodeError x3_CodeError x5_CodeError "ValueError.__new__"))
    (sa_CodeError : PySem.W.findIn K (.ref A_CodeError) "__setattr__" = some (some (.builtin "object.__setattr__")))
    (kC_CodeError : PySem.W.keepIn K (.ref A_CodeError) = true)
    (ga_CodeError : PySem.W.findIn K (.ref A_CodeError) "__getattribute__" = some (some (.builtin "BaseException.__getattribute__")))
    (gg_CodeError : PySem.W.findIn K (.ref A_CodeError) "__getattr__" = some none)
    (hD_CodeError : PySem.W.hasDictIn K A_CodeError = true)
    (iC_CodeError : PySem.W.isClsIn K A_CodeError = true)
    (sC_CodeError : PySem.W.subIn K (.ref A_CodeError) (.ref A_CodeError) = some true)
    (cl_CodeError : PySem.W.findIn K (.ref A_CodeError) "__class__" = some (some (.builtin "object.__class__")))
    (mo_CodeError : PySem.W.mroIn K A_CodeError (.type "object") = some true)
    (aC_DeadbeatError : PySem.W.nsIn K mainGlobals "DeadbeatError" = some (some (.ref A_DeadbeatError)))
    (tC_DeadbeatError : PySem.W.typeIn K (.ref A_DeadbeatError) = some (.type "type"))
    (rd_DeadbeatError : PySem.W.readsIn K A_DeadbeatError (.type "type") = true)
    (sg_DeadbeatError : PySem.W.specialIn K (.ref A_DeadbeatError) "__getattribute__" = some (some (.builtin "type.__getattribute__")))
    (fc_DeadbeatError : PySem.W.findCls K (.ref A_DeadbeatError) (.type "type") "__init__" = some (.val (.builtin "ValueError.__init__")))
    (gn : PySem.W.specialIn K (.builtin "object.__class__") "__get__" = some (some (.builtin "getset_descriptor.__get__")))
    (gt : PySem.W.takesIn K (.builtin "object.__class__") = some true)
    (jC_CodeError_DeadbeatError : PySem.W.isClsIn K A_DeadbeatError = true)
    (jT_CodeError_DeadbeatError : PySem.W.typeIn K (.ref A_DeadbeatError) = some (.type "type"))
    (js_CodeError_DeadbeatError : PySem.W.subIn K (.ref A_CodeError) (.ref A_DeadbeatError) = some true)
    (a_CodeError___init__ : PySem.W.findIn K (.ref A_CodeError) "__init__" = some (some (.ref f_CodeError___init__)))
    (t_CodeError___init__ : PySem.W.typeIn K (.ref f_CodeError___init__) = some (.type "function"))
    (l_CodeError___init__ : K.lookup f_CodeError___init__ = some ⟨oc_CodeError___init__, od_CodeError___init__, .func (PySem.W.fnOf "__init__" "CodeError.__init__" (defArgs s_CodeError___init__) (defBody s_CodeError___init__) (defScope s_CodeError___init__) .none kV_CodeError___init__ dc_CodeError___init__ pm_CodeError___init__ an_CodeError___init__ cd_CodeError___init__ ct_CodeError___init__), sl_CodeError___init__⟩)
    (c_CodeError___init__ : PySem.W.codeIn K cd_CodeError___init__ "CodeError.__init__" = true)
    (k_CodeError___init__ : PySem.W.keepIn K (.ref f_CodeError___init__) = true)
    (a__law_start : PySem.W.nsIn K mainGlobals "_law_start" = some (some (.ref f__law_start)))
    (l__law_start : K.lookup f__law_start = some ⟨oc__law_start, od__law_start, .func (PySem.W.fnOf "_law_start" "_law_start" (defArgs s__law_start) (defBody s__law_start) (defScope s__law_start) .none kV__law_start dc__law_start pm__law_start an__law_start cd__law_start ct__law_start), sl__law_start⟩)
    (c__law_start : PySem.W.codeIn K cd__law_start "_law_start" = true)
    (k__law_start : PySem.W.keepIn K (.ref f__law_start) = true)
    (a__law_shape : PySem.W.nsIn K mainGlobals "_law_shape" = some (some (.ref f__law_shape)))
    (l__law_shape : K.lookup f__law_shape = some ⟨oc__law_shape, od__law_shape, .func (PySem.W.fnOf "_law_shape" "_law_shape" (defArgs s__law_shape) (defBody s__law_shape) (defScope s__law_shape) .none kV__law_shape dc__law_shape pm__law_shape an__law_shape cd__law_shape ct__law_shape), sl__law_shape⟩)
    (c__law_shape : PySem.W.codeIn K cd__law_shape "_law_shape" = true)
    (k__law_shape : PySem.W.keepIn K (.ref f__law_shape) = true)
    (a__law_name : PySem.W.nsIn K mainGlobals "_law_name" = some (some (.ref f__law_name)))
    (l__law_name : K.lookup f__law_name = some ⟨oc__law_name, od__law_name, .func (PySem.W.fnOf "_law_name" "_law_name" (defArgs s__law_name) (defBody s__law_name) (defScope s__law_name) .none kV__law_name dc__law_name pm__law_name an__law_name cd__law_name ct__law_name), sl__law_name⟩)
    (c__law_name : PySem.W.codeIn K cd__law_name "_law_name" = true)
    (k__law_name : PySem.W.keepIn K (.ref f__law_name) = true)
    (a__law_place : PySem.W.nsIn K mainGlobals "_law_place" = some (some (.ref f__law_place)))
    (l__law_place : K.lookup f__law_place = some ⟨oc__law_place, od__law_place, .func (PySem.W.fnOf "_law_place" "_law_place" (defArgs s__law_place) (defBody s__law_place) (defScope s__law_place) .none kV__law_place dc__law_place pm__law_place an__law_place cd__law_place ct__law_place), sl__law_place⟩)
    (c__law_place : PySem.W.codeIn K cd__law_place "_law_place" = true)
    (k__law_place : PySem.W.keepIn K (.ref f__law_place) = true)
    (a__law_greatest : PySem.W.nsIn K mainGlobals "_law_greatest" = some (some (.ref f__law_greatest)))
    (l__law_greatest : K.lookup f__law_greatest = some ⟨oc__law_greatest, od__law_greatest, .func (PySem.W.fnOf "_law_greatest" "_law_greatest" (defArgs s__law_greatest) (defBody s__law_greatest) (defScope s__law_greatest) .none kV__law_greatest dc__law_greatest pm__law_greatest an__law_greatest cd__law_greatest ct__law_greatest), sl__law_greatest⟩)
    (c__law_greatest : PySem.W.codeIn K cd__law_greatest "_law_greatest" = true)
    (k__law_greatest : PySem.W.keepIn K (.ref f__law_greatest) = true)
    (a__law_operation : PySem.W.nsIn K mainGlobals "_law_operation" = some (some (.ref f__law_operation)))
    (l__law_operation : K.lookup f__law_operation = some ⟨oc__law_operation, od__law_operation, .func (PySem.W.fnOf "_law_operation" "_law_operation" (defArgs s__law_operation) (defBody s__law_operation) (defScope s__law_operation) .none kV__law_operation dc__law_operation pm__law_operation an__law_operation cd__law_operation ct__law_operation), sl__law_operation⟩)
    (c__law_operation : PySem.W.codeIn K cd__law_operation "_law_operation" = true)
    (k__law_operation : PySem.W.keepIn K (.ref f__law_operation) = true)
    (a__law_expected : PySem.W.nsIn K mainGlobals "_law_expected" = some (some (.ref f__law_expected)))
    (l__law_expected : K.lookup f__law_expected = some ⟨oc__law_expected, od__law_expected, .func (PySem.W.fnOf "_law_expected" "_law_expected" (defArgs s__law_expected) (defBody s__law_expected) (defScope s__law_expected) .none kV__law_expected dc__law_expected pm__law_expected an__law_expected cd__law_expected ct__law_expected), sl__law_expected⟩)
    (c__law_expected : PySem.W.codeIn K cd__law_expected "_law_expected" = true)
    (k__law_expected : PySem.W.keepIn K (.ref f__law_expected) = true)
    (a_value_of : PySem.W.nsIn K mainGlobals "value_of" = some (some (.ref f_value_of)))
    (l_value_of : K.lookup f_value_of = some ⟨oc_value_of, od_value_of, .func (PySem.W.fnOf "value_of" "value_of" (defArgs s_value_of) (defBody s_value_of) (defScope s_value_of) .none kV_value_of dc_value_of pm_value_of an_value_of cd_value_of ct_value_of), sl_value_of⟩)
    (c_value_of : PySem.W.codeIn K cd_value_of "value_of" = true)
    (k_value_of : PySem.W.keepIn K (.ref f_value_of) = true)
    (a_opcode_of : PySem.W.nsIn K mainGlobals "opcode_of" = some (some (.ref f_opcode_of)))
    (l_opcode_of : K.lookup f_opcode_of = some ⟨oc_opcode_of, od_opcode_of, .func (PySem.W.fnOf "opcode_of" "opcode_of" (defArgs s_opcode_of) (defBody s_opcode_of) (defScope s_opcode_of) .none kV_opcode_of dc_opcode_of pm_opcode_of an_opcode_of cd_opcode_of ct_opcode_of), sl_opcode_of⟩)
    (c_opcode_of : PySem.W.codeIn K cd_opcode_of "opcode_of" = true)
    (k_opcode_of : PySem.W.keepIn K (.ref f_opcode_of) = true)
    (a_number_of : PySem.W.nsIn K mainGlobals "number_of" = some (some (.ref f_number_of)))
    (l_number_of : K.lookup f_number_of = some ⟨oc_number_of, od_number_of, .func (PySem.W.fnOf "number_of" "number_of" (defArgs s_number_of) (defBody s_number_of) (defScope s_number_of) .none kV_number_of dc_number_of pm_number_of an_number_of cd_number_of ct_number_of), sl_number_of⟩)
    (c_number_of : PySem.W.codeIn K cd_number_of "number_of" = true)
    (k_number_of : PySem.W.keepIn K (.ref f_number_of) = true)
    (a_is_instruction : PySem.W.nsIn K mainGlobals "is_instruction" = some (some (.ref f_is_instruction)))
    (l_is_instruction : K.lookup f_is_instruction = some ⟨oc_is_instruction, od_is_instruction, .func (PySem.W.fnOf "is_instruction" "is_instruction" (defArgs s_is_instruction) (defBody s_is_instruction) (defScope s_is_instruction) .none kV_is_instruction dc_is_instruction pm_is_instruction an_is_instruction cd_is_instruction ct_is_instruction), sl_is_instruction⟩)
    (c_is_instruction : PySem.W.codeIn K cd_is_instruction "is_instruction" = true)
    (k_is_instruction : PySem.W.keepIn K (.ref f_is_instruction) = true)
    (a_encode : PySem.W.nsIn K mainGlobals "encode" = some (some (.ref f_encode)))
    (l_encode : K.lookup f_encode = some ⟨oc_encode, od_encode, .func (PySem.W.fnOf "encode" "encode" (defArgs s_encode) (defBody s_encode) (defScope s_encode) .none kV_encode dc_encode pm_encode an_encode cd_encode ct_encode), sl_encode⟩)
    (c_encode : PySem.W.codeIn K cd_encode "encode" = true)
    (k_encode : PySem.W.keepIn K (.ref f_encode) = true)
    (a_decode : PySem.W.nsIn K mainGlobals "decode" = some (some (.ref f_decode)))
    (l_decode : K.lookup f_decode = some ⟨oc_decode, od_decode, .func (PySem.W.fnOf "decode" "decode" (defArgs s_decode) (defBody s_decode) (defScope s_decode) .none kV_decode dc_decode pm_decode an_decode cd_decode ct_decode), sl_decode⟩)
    (c_decode : PySem.W.codeIn K cd_decode "decode" = true)
    (k_decode : PySem.W.keepIn K (.ref f_decode) = true)
    (a__law_holds : PySem.W.nsIn K mainGlobals "_law_holds" = some (some (.ref f__law_holds)))
    (l__law_holds : K.lookup f__law_holds = some ⟨oc__law_holds, od__law_holds, .func (PySem.W.fnOf "_law_holds" "_law_holds" (defArgs s__law_holds) (defBody s__law_holds) (defScope s__law_holds) .none kV__law_holds dc__law_holds pm__law_holds an__law_holds cd__law_holds ct__law_holds), sl__law_holds⟩)
    (c__law_holds : PySem.W.codeIn K cd__law_holds "_law_holds" = true)
    (k__law_holds : PySem.W.keepIn K (.ref f__law_holds) = true)
    (a__law_draw : PySem.W.nsIn K mainGlobals "_law_draw" = some (some (.ref f__law_draw)))
    (l__law_draw : K.lookup f__law_draw = some ⟨oc__law_draw, od__law_draw, .func (PySem.W.fnOf "_law_draw" "_law_draw" (defArgs s__law_draw) (defBody s__law_draw) (defScope s__law_draw) .none kV__law_draw dc__law_draw pm__law_draw an__law_draw cd__law_draw ct__law_draw), sl__law_draw⟩)
    (c__law_draw : PySem.W.codeIn K cd__law_draw "_law_draw" = true)
    (k__law_draw : PySem.W.keepIn K (.ref f__law_draw) = true)
    (a__law_word : PySem.W.nsIn K mainGlobals "_law_word" = some (some (.ref f__law_word)))
    (l__law_word : K.lookup f__law_word = some ⟨oc__law_word, od__law_word, .func (PySem.W.fnOf "_law_word" "_law_word" (defArgs s__law_word) (defBody s__law_word) (defScope s__law_word) .none kV__law_word dc__law_word pm__law_word an__law_word cd__law_word ct__law_word), sl__law_word⟩)
    (c__law_word : PySem.W.codeIn K cd__law_word "_law_word" = true)
    (k__law_word : PySem.W.keepIn K (.ref f__law_word) = true)
    (a_law : PySem.W.nsIn K mainGlobals "law" = some (some (.ref f_law)))
    (l_law : K.lookup f_law = some ⟨oc_law, od_law, .func (PySem.W.fnOf "law" "law" (defArgs s_law) (defBody s_law) (defScope s_law) .none kV_law dc_law pm_law an_law cd_law ct_law), sl_law⟩)
    (c_law : PySem.W.codeIn K cd_law "law" = true)
    (k_law : PySem.W.keepIn K (.ref f_law) = true)
    : ∃ fd : FuncData, (∀ (s : Shared) (v : Value), BindsTo s fd ⟨[v], []⟩ [("_law_script", v)]) ∧ ∀ base : Heap, K.In base → base.Ns mainGlobals mg → FnOk l.prog w K mg base (L2.CX l.prog w) 6 fa fd ["_law_script"] (spX K 1 LawT) := by
  have e := hfa.symm.trans (PySem.W.mg_of X G a_law)
  cases e
  obtain ⟨CS, hCS⟩ : ∃ CS : Nat → Addr, CS = fun i => match i with | 1 => A_CodeError | 0 => A_DeadbeatError | _ => 0 := ⟨_, rfl⟩
  have T : Txt K mg CS := by subst hCS; exact ⟨glb_tup (PySem.W.mg_of X G m_CALCULATIONS) (fun V0 => rp_fix (xs := [.str "add", .str "sub", .str "mul", .str "div", .str "mod", .str "and", .str "or", .str "xor", .str "shl", .str "shr", .str "ult", .str "ule", .str "slt", .str "sle", .str "eq", .str "ne", .str "nor"]) u_CALCULATIONS_1 (Nat.le_of_ble_eq_true rfl) (.cons (⟨_, rfl⟩) (.cons (⟨_, rfl⟩) (.cons (⟨_, rfl⟩) (.cons (⟨_, rfl⟩) (.cons (⟨_, rfl⟩) (.cons (⟨_, rfl⟩) (.cons (⟨_, rfl⟩) (.cons (⟨_, rfl⟩) (.cons (⟨_, rfl⟩) (.cons (⟨_, rfl⟩) (.cons (⟨_, rfl⟩) (.cons (⟨_, rfl⟩) (.cons (⟨_, rfl⟩) (.cons (⟨_, rfl⟩) (.cons (⟨_, rfl⟩) (.cons (⟨_, rfl⟩) (.cons (⟨_, rfl⟩) .nil))))))))))))))))) (fun V0 => (.cons (.str _) (.cons (.str _) (.cons (.str _) (.cons (.str _) (.cons (.str _) (.cons (.str _) (.cons (.str _) (.cons (.str _) (.cons (.str _) (.cons (.str _) (.cons (.str _) (.cons (.str _) (.cons (.str _) (.cons (.str _) (.cons (.str _) (.cons (.str _) (.cons (.str _) .nil)))))))))))))))))) V0), glb_tup (PySem.W.mg_of X G m_NAMED) (fun V0 => rp_fix (xs := [.int 0, .int 16, .int 13, .int 32, .int 0]) u_NAMED_1 (Nat.le_of_ble_eq_true rfl) (.cons (⟨_, rfl⟩) (.cons (⟨_, rfl⟩) (.cons (⟨_, rfl⟩) (.cons (⟨_, rfl⟩) (.cons (⟨_, rfl⟩) .nil))))) (fun V0 => (.cons (.int _) (.cons (.int _) (.cons (.int _) (.cons (.int _) (.cons (.int _) .nil)))))) V0), glb_tup (PySem.W.mg_of X G m_FORMS) (fun V0 => rp_fix (xs := [.ref A_FORMS_2, .ref A_FORMS_16, .ref A_FORMS_30, .ref A_FORMS_56, .ref A_FORMS_70, .ref A_FORMS_84, .ref A_FORMS_110, .ref A_FORMS_136, .ref A_FORMS_144, .ref A_FORMS_158, .ref A_FORMS_172, .ref A_FORMS_186, .ref A_FORMS_194, .ref A_FORMS_196, .ref A_FORMS_198, .ref A_FORMS_206, .ref A_FORMS_214, .ref A_FORMS_228]) u_FORMS_1 (Nat.le_of_ble_eq_true rfl) (.cons (rfl) (.cons (rfl) (.cons (rfl) (.cons (rfl) (.cons (rfl) (.cons (rfl) (.cons (rfl) (.cons (rfl) (.cons (rfl) (.cons (rfl) (.cons (rfl) (.cons (rfl) (.cons (rfl) (.cons (rfl) (.cons (rfl) (.cons (rfl) (.cons (rfl) (.cons (rfl) .nil)))))))))))))))))) (fun V0 => (.cons (rp_fix (xs := [.str "set", .ref A_FORMS_4, .ref A_FORMS_10]) u_FORMS_2 (Nat.le_of_ble_eq_true rfl) (.cons (⟨_, rfl⟩) (.cons (rfl) (.cons (rfl) .nil))) (fun V0 => (.cons (.str _) (.cons (rp_fix (xs := [.int 0, .int 8, .int 26, .int 16, .int 0]) u_FORMS_4 (Nat.le_of_ble_eq_true rfl) (.cons (⟨_, rfl⟩) (.cons (⟨_, rfl⟩) (.cons (⟨_, rfl⟩) (.cons (⟨_, rfl⟩) (.cons (⟨_, rfl⟩) .nil))))) (fun V0 => (.cons (.int _) (.cons (.int _) (.cons (.int _) (.cons (.int _) (.cons (.int _) .nil)))))) V0) (.cons (rp_fix (xs := [.int (-32768), .int 32767, .int 0, .int 65536, .int 0]) u_FORMS_10 (Nat.le_of_ble_eq_true rfl) (.cons (⟨_, rfl⟩) (.cons (⟨_, rfl⟩) (.cons (⟨_, rfl⟩) (.cons (⟨_, rfl⟩) (.cons (⟨_, rfl⟩) .nil))))) (fun V0 => (.cons (.int _) (.cons (.int _) (.cons (.int _) (.cons (.int _) (.cons (.int _) .nil)))))) V0) .nil)))) V0) (.cons (rp_fix (xs := [.str "high", .ref A_FORMS_18, .ref A_FORMS_24]) u_FORMS_16 (Nat.le_of_ble_eq_true rfl) (.cons (⟨_, rfl⟩) (.cons (rfl) (.cons (rfl) .nil))) (fun V0 => (.cons (.str _) (.cons (rp_fix (xs := [.int 0, .int 8, .int 26, .int 16, .int 0]) u_FORMS_18 (Nat.le_of_ble_eq_true rfl) (.cons (⟨_, rfl⟩) (.cons (⟨_, rfl⟩) (.cons (⟨_, rfl⟩) (.cons (⟨_, rfl⟩) (.cons (⟨_, rfl⟩) .nil))))) (fun V0 => (.cons (.int _) (.cons (.int _) (.cons (.int _) (.cons (.int _) (.cons (.int _) .nil)))))) V0) (.cons (rp_fix (xs := [.int 0, .int 65535, .int 0, .int 65536, .int 0]) u_FORMS_24 (Nat.le_of_ble_eq_true rfl) (.cons (⟨_, rfl⟩) (.cons (⟨_, rfl⟩) (.cons (⟨_, rfl⟩) (.cons (⟨_, rfl⟩) (.cons (⟨_, rfl⟩) .nil))))) (fun V0 => (.cons (.int _) (.cons (.int _) (.cons (.int _) (.cons (.int _) (.cons (.int _) .nil)))))) V0) .nil)))) V0) (.cons (rp_fix (xs := [.str "calc", .ref A_FORMS_32, .ref A_FORMS_38, .ref A_FORMS_44, .ref A_FORMS_50]) u_FORMS_30 (Nat.le_of_ble_eq_true rfl) (.cons (⟨_, rfl⟩) (.cons (rfl) (.cons (rfl) (.cons (rfl) (.cons (rfl) .nil))))) (fun V0 => (.cons (.str _) (.cons (rp_fix (xs := [.int 0, .int 16, .int 13, .int 32, .int 0]) u_FORMS_32 (Nat.le_of_ble_eq_true rfl) (.cons (⟨_, rfl⟩) (.cons (⟨_, rfl⟩) (.cons (⟨_, rfl⟩) (.cons (⟨_, rfl⟩) (.cons (⟨_, rfl⟩) .nil))))) (fun V0 => (.cons (.int _) (.cons (.int _) (.cons (.int _) (.cons (.int _) (.cons (.int _) .nil)))))) V0) (.cons (rp_fix (xs := [.int 0, .int 8, .int 26, .int 16, .int 0]) u_FORMS_38 (Nat.le_of_ble_eq_true rfl) (.cons (⟨_, rfl⟩) (.cons (⟨_, rfl⟩) (.cons (⟨_, rfl⟩) (.cons (⟨_, rfl⟩) (.cons (⟨_, rfl⟩) .nil))))) (fun V0 => (.cons (.int _) (.cons (.int _) (.cons (.int _) (.cons (.int _) (.cons (.int _) .nil)))))) V0) (.cons (rp_fix (xs := [.int 0, .int 8, .int 22, .int 16, .int 0]) u_FORMS_44 (Nat.le_of_ble_eq_true rfl) (.cons (⟨_, rfl⟩) (.cons (⟨_, rfl⟩) (.cons (⟨_, rfl⟩) (.cons (⟨_, rfl⟩) (.cons (⟨_, rfl⟩) .nil))))) (fun V0 => (.cons (.int _) (.cons (.int _) (.cons (.int _) (.cons (.int _) (.cons (.int _) .nil)))))) V0) (.cons (rp_fix (xs := [.int 0, .int 8, .int 18, .int 16, .int 0]) u_FORMS_50 (Nat.le_of_ble_eq_true rfl) (.cons (⟨_, rfl⟩) (.cons (⟨_, rfl⟩) (.cons (⟨_, rfl⟩) (.cons (⟨_, rfl⟩) (.cons (⟨_, rfl⟩) .nil))))) (fun V0 => (.cons (.int _) (.cons (.int _) (.cons (.int _) (.cons (.int _) (.cons (.int _) .nil)))))) V0) .nil)))))) V0) (.cons (rp_fix (xs := [.str "load", .ref A_FORMS_58, .ref A_FORMS_64]) u_FORMS_56 (Nat.le_of_ble_eq_true rfl) (.cons (⟨_, rfl⟩) (.cons (rfl) (.cons (rfl) .nil))) (fun V0 => (.cons (.str _) (.cons (rp_fix (xs := [.int 0, .int 8, .int 26, .int 16, .int 0]) u_FORMS_58 (Nat.le_of_ble_eq_true rfl) (.cons (⟨_, rfl⟩) (.cons (⟨_, rfl⟩) (.cons (⟨_, rfl⟩) (.cons (⟨_, rfl⟩) (.cons (⟨_, rfl⟩) .nil))))) (fun V0 => (.cons (.int _) (.cons (.int _) (.cons (.int _) (.cons (.int _) (.cons (.int _) .nil)))))) V0) (.cons (rp_fix (xs := [.int 0, .int 16383, .int 0, .int 16384, .int 0]) u_FORMS_64 (Nat.le_of_ble_eq_true rfl) (.cons (⟨_, rfl⟩) (.cons (⟨_, rfl⟩) (.cons (⟨_, rfl⟩) (.cons (⟨_, rfl⟩) (.cons (⟨_, rfl⟩) .nil))))) (fun V0 => (.cons (.int _) (.cons (.int _) (.cons (.int _) (.cons (.int _) (.cons (.int _) .nil)))))) V0) .nil)))) V0) (.cons (rp_fix (xs := [.str "store", .ref A_FORMS_72, .ref A_FORMS_78]) u_FORMS_70 (Nat.le_of_ble_eq_true rfl) (.cons (⟨_, rfl⟩) (.cons (rfl) (.cons (rfl) .nil))) (fun V0 => (.cons (.str _) (.cons (rp_fix (xs := [.int 0, .int 8, .int 26, .int 16, .int 0]) u_FORMS_72 (Nat.le_of_ble_eq_true rfl) (.cons (⟨_, rfl⟩) (.cons (⟨_, rfl⟩) (.cons (⟨_, rfl⟩) (.cons (⟨_, rfl⟩) (.cons (⟨_, rfl⟩) .nil))))) (fun V0 => (.cons (.int _) (.cons (.int _) (.cons (.int _) (.cons (.int _) (.cons (.int _) .nil)))))) V0) (.cons (rp_fix (xs := [.int 0, .int 16383, .int 0, .int 16384, .int 0]) u_FORMS_78 (Nat.le_of_ble_eq_true rfl) (.cons (⟨_, rfl⟩) (.cons (⟨_, rfl⟩) (.cons (⟨_, rfl⟩) (.cons (⟨_, rfl⟩) (.cons (⟨_, rfl⟩) .nil))))) (fun V0 => (.cons (.int _) (.cons (.int _) (.cons (.int _) (.cons (.int _) (.cons (.int _) .nil)))))) V0) .nil)))) V0) (.cons (rp_fix (xs := [.str "loadx", .ref A_FORMS_86, .ref A_FORMS_92, .ref A_FORMS_98, .ref A_FORMS_104]) u_FORMS_84 (Nat.le_of_ble_eq_true rfl) (.cons (⟨_, rfl⟩) (.cons (rfl) (.cons (rfl) (.cons (rfl) (.cons (rfl) .nil))))) (fun V0 => (.cons (.str _) (.cons (rp_fix (xs := [.int 0, .int 8, .int 26, .int 16, .int 0]) u_FORMS_86 (Nat.le_of_ble_eq_true rfl) (.cons (⟨_, rfl⟩) (.cons (⟨_, rfl⟩) (.cons (⟨_, rfl⟩) (.cons (⟨_, rfl⟩) (.cons (⟨_, rfl⟩) .nil))))) (fun V0 => (.cons (.int _) (.cons (.int _) (.cons (.int _) (.cons (.int _) (.cons (.int _) .nil)))))) V0) (.cons (rp_fix (xs := [.int 0, .int 8, .int 22, .int 16, .int 0]) u_FORMS_92 (Nat.le_of_ble_eq_true rfl) (.cons (⟨_, rfl⟩) (.cons (⟨_, rfl⟩) (.cons (⟨_, rfl⟩) (.cons (⟨_, rfl⟩) (.cons (⟨_, rfl⟩) .nil))))) (fun V0 => (.cons (.int _) (.cons (.int _) (.cons (.int _) (.cons (.int _) (.cons (.int _) .nil)))))) V0) (.cons (rp_fix (xs := [.int 0, .int 16383, .int 0, .int 16384, .int 0]) u_FORMS_98 (Nat.le_of_ble_eq_true rfl) (.cons (⟨_, rfl⟩) (.cons (⟨_, rfl⟩) (.cons (⟨_, rfl⟩) (.cons (⟨_, rfl⟩) (.cons (⟨_, rfl⟩) .nil))))) (fun V0 => (.cons (.int _) (.cons (.int _) (.cons (.int _) (.cons (.int _) (.cons (.int _) .nil)))))) V0) (.cons (rp_fix (xs := [.int 1, .int 64, .int 14, .int 64, .int 1]) u_FORMS_104 (Nat.le_of_ble_eq_true rfl) (.cons (⟨_, rfl⟩) (.cons (⟨_, rfl⟩) (.cons (⟨_, rfl⟩) (.cons (⟨_, rfl⟩) (.cons (⟨_, rfl⟩) .nil))))) (fun V0 => (.cons (.int _) (.cons (.int _) (.cons (.int _) (.cons (.int _) (.cons (.int _) .nil)))))) V0) .nil)))))) V0) (.cons (rp_fix (xs := [.str "storex", .ref A_FORMS_112, .ref A_FORMS_118, .ref A_FORMS_124, .ref A_FORMS_130]) u_FORMS_110 (Nat.le_of_ble_eq_true rfl) (.cons (⟨_, rfl⟩) (.cons (rfl) (.cons (rfl) (.cons (rfl) (.cons (rfl) .nil))))) (fun V0 => (.cons (.str _) (.cons (rp_fix (xs := [.int 0, .int 8, .int 26, .int 16, .int 0]) u_FORMS_112 (Nat.le_of_ble_eq_true rfl) (.cons (⟨_, rfl⟩) (.cons (⟨_, rfl⟩) (.cons (⟨_, rfl⟩) (.cons (⟨_, rfl⟩) (.cons (⟨_, rfl⟩) .nil))))) (fun V0 => (.cons (.int _) (.cons (.int _) (.cons (.int _) (.cons (.int _) (.cons (.int _) .nil)))))) V0) (.cons (rp_fix (xs := [.int 0, .int 8, .int 22, .int 16, .int 0]) u_FORMS_118 (Nat.le_of_ble_eq_true rfl) (.cons (⟨_, rfl⟩) (.cons (⟨_, rfl⟩) (.cons (⟨_, rfl⟩) (.cons (⟨_, rfl⟩) (.cons (⟨_, rfl⟩) .nil))))) (fun V0 => (.cons (.int _) (.cons (.int _) (.cons (.int _) (.cons (.int _) (.cons (.int _) .nil)))))) V0) (.cons (rp_fix (xs := [.int 0, .int 16383, .int 0, .int 16384, .int 0]) u_FORMS_124 (Nat.le_of_ble_eq_true rfl) (.cons (⟨_, rfl⟩) (.cons (⟨_, rfl⟩) (.cons (⟨_, rfl⟩) (.cons (⟨_, rfl⟩) (.cons (⟨_, rfl⟩) .nil))))) (fun V0 => (.cons (.int _) (.cons (.int _) (.cons (.int _) (.cons (.int _) (.cons (.int _) .nil)))))) V0) (.cons (rp_fix (xs := [.int 1, .int 64, .int 14, .int 64, .int 1]) u_FORMS_130 (Nat.le_of_ble_eq_true rfl) (.cons (⟨_, rfl⟩) (.cons (⟨_, rfl⟩) (.cons (⟨_, rfl⟩) (.cons (⟨_, rfl⟩) (.cons (⟨_, rfl⟩) .nil))))) (fun V0 => (.cons (.int _) (.cons (.int _) (.cons (.int _) (.cons (.int _) (.cons (.int _) .nil)))))) V0) .nil)))))) V0) (.cons (rp_fix (xs := [.str "jump", .ref A_FORMS_138]) u_FORMS_136 (Nat.le_of_ble_eq_true rfl) (.cons (⟨_, rfl⟩) (.cons (rfl) .nil)) (fun V0 => (.cons (.str _) (.cons (rp_fix (xs := [.int 0, .int 4095, .int 0, .int 4096, .int 0]) u_FORMS_138 (Nat.le_of_ble_eq_true rfl) (.cons (⟨_, rfl⟩) (.cons (⟨_, rfl⟩) (.cons (⟨_, rfl⟩) (.cons (⟨_, rfl⟩) (.cons (⟨_, rfl⟩) .nil))))) (fun V0 => (.cons (.int _) (.cons (.int _) (.cons (.int _) (.cons (.int _) (.cons (.int _) .nil)))))) V0) .nil))) V0) (.cons (rp_fix (xs := [.str "jzero", .ref A_FORMS_146, .ref A_FORMS_152]) u_FORMS_144 (Nat.le_of_ble_eq_true rfl) (.cons (⟨_, rfl⟩) (.cons (rfl) (.cons (rfl) .nil))) (fun V0 => (.cons (.str _) (.cons (rp_fix (xs := [.int 0, .int 8, .int 26, .int 16, .int 0]) u_FORMS_146 (Nat.le_of_ble_eq_true rfl) (.cons (⟨_, rfl⟩) (.cons (⟨_, rfl⟩) (.cons (⟨_, rfl⟩) (.cons (⟨_, rfl⟩) (.cons (⟨_, rfl⟩) .nil))))) (fun V0 => (.cons (.int _) (.cons (.int _) (.cons (.int _) (.cons (.int _) (.cons (.int _) .nil)))))) V0) (.cons (rp_fix (xs := [.int 0, .int 4095, .int 0, .int 4096, .int 0]) u_FORMS_152 (Nat.le_of_ble_eq_true rfl) (.cons (⟨_, rfl⟩) (.cons (⟨_, rfl⟩) (.cons (⟨_, rfl⟩) (.cons (⟨_, rfl⟩) (.cons (⟨_, rfl⟩) .nil))))) (fun V0 => (.cons (.int _) (.cons (.int _) (.cons (.int _) (.cons (.int _) (.cons (.int _) .nil)))))) V0) .nil)))) V0) (.cons (rp_fix (xs := [.str "count", .ref A_FORMS_160, .ref A_FORMS_166]) u_FORMS_158 (Nat.le_of_ble_eq_true rfl) (.cons (⟨_, rfl⟩) (.cons (rfl) (.cons (rfl) .nil))) (fun V0 => (.cons (.str _) (.cons (rp_fix (xs := [.int 0, .int 255, .int 22, .int 256, .int 0]) u_FORMS_160 (Nat.le_of_ble_eq_true rfl) (.cons (⟨_, rfl⟩) (.cons (⟨_, rfl⟩) (.cons (⟨_, rfl⟩) (.cons (⟨_, rfl⟩) (.cons (⟨_, rfl⟩) .nil))))) (fun V0 => (.cons (.int _) (.cons (.int _) (.cons (.int _) (.cons (.int _) (.cons (.int _) .nil)))))) V0) (.cons (rp_fix (xs := [.int 1, .int 64, .int 0, .int 64, .int 1]) u_FORMS_166 (Nat.le_of_ble_eq_true rfl) (.cons (⟨_, rfl⟩) (.cons (⟨_, rfl⟩) (.cons (⟨_, rfl⟩) (.cons (⟨_, rfl⟩) (.cons (⟨_, rfl⟩) .nil))))) (fun V0 => (.cons (.int _) (.cons (.int _) (.cons (.int _) (.cons (.int _) (.cons (.int _) .nil)))))) V0) .nil)))) V0) (.cons (rp_fix (xs := [.str "again", .ref A_FORMS_174, .ref A_FORMS_180]) u_FORMS_172 (Nat.le_of_ble_eq_true rfl) (.cons (⟨_, rfl⟩) (.cons (rfl) (.cons (rfl) .nil))) (fun V0 => (.cons (.str _) (.cons (rp_fix (xs := [.int 0, .int 255, .int 22, .int 256, .int 0]) u_FORMS_174 (Nat.le_of_ble_eq_true rfl) (.cons (⟨_, rfl⟩) (.cons (⟨_, rfl⟩) (.cons (⟨_, rfl⟩) (.cons (⟨_, rfl⟩) (.cons (⟨_, rfl⟩) .nil))))) (fun V0 => (.cons (.int _) (.cons (.int _) (.cons (.int _) (.cons (.int _) (.cons (.int _) .nil)))))) V0) (.cons (rp_fix (xs := [.int 0, .int 4095, .int 0, .int 4096, .int 0]) u_FORMS_180 (Nat.le_of_ble_eq_true rfl) (.cons (⟨_, rfl⟩) (.cons (⟨_, rfl⟩) (.cons (⟨_, rfl⟩) (.cons (⟨_, rfl⟩) (.cons (⟨_, rfl⟩) .nil))))) (fun V0 => (.cons (.int _) (.cons (.int _) (.cons (.int _) (.cons (.int _) (.cons (.int _) .nil)))))) V0) .nil)))) V0) (.cons (rp_fix (xs := [.str "link", .ref A_FORMS_188]) u_FORMS_186 (Nat.le_of_ble_eq_true rfl) (.cons (⟨_, rfl⟩) (.cons (rfl) .nil)) (fun V0 => (.cons (.str _) (.cons (rp_fix (xs := [.int 0, .int 4095, .int 0, .int 4096, .int 0]) u_FORMS_188 (Nat.le_of_ble_eq_true rfl) (.cons (⟨_, rfl⟩) (.cons (⟨_, rfl⟩) (.cons (⟨_, rfl⟩) (.cons (⟨_, rfl⟩) (.cons (⟨_, rfl⟩) .nil))))) (fun V0 => (.cons (.int _) (.cons (.int _) (.cons (.int _) (.cons (.int _) (.cons (.int _) .nil)))))) V0) .nil))) V0) (.cons (rp_fix (xs := [.str "back"]) u_FORMS_194 (Nat.le_of_ble_eq_true rfl) (.cons (⟨_, rfl⟩) .nil) (fun V0 => (.cons (.str _) .nil)) V0) (.cons (rp_fix (xs := [.str "done"]) u_FORMS_196 (Nat.le_of_ble_eq_true rfl) (.cons (⟨_, rfl⟩) .nil) (fun V0 => (.cons (.str _) .nil)) V0) (.cons (rp_fix (xs := [.str "enter", .ref A_FORMS_200]) u_FORMS_198 (Nat.le_of_ble_eq_true rfl) (.cons (⟨_, rfl⟩) (.cons (rfl) .nil)) (fun V0 => (.cons (.str _) (.cons (rp_fix (xs := [.int 0, .int 3, .int 0, .int 16, .int 0]) u_FORMS_200 (Nat.le_of_ble_eq_true rfl) (.cons (⟨_, rfl⟩) (.cons (⟨_, rfl⟩) (.cons (⟨_, rfl⟩) (.cons (⟨_, rfl⟩) (.cons (⟨_, rfl⟩) .nil))))) (fun V0 => (.cons (.int _) (.cons (.int _) (.cons (.int _) (.cons (.int _) (.cons (.int _) .nil)))))) V0) .nil))) V0) (.cons (rp_fix (xs := [.str "leave", .ref A_FORMS_208]) u_FORMS_206 (Nat.le_of_ble_eq_true rfl) (.cons (⟨_, rfl⟩) (.cons (rfl) .nil)) (fun V0 => (.cons (.str _) (.cons (rp_fix (xs := [.int 0, .int 3, .int 0, .int 16, .int 0]) u_FORMS_208 (Nat.le_of_ble_eq_true rfl) (.cons (⟨_, rfl⟩) (.cons (⟨_, rfl⟩) (.cons (⟨_, rfl⟩) (.cons (⟨_, rfl⟩) (.cons (⟨_, rfl⟩) .nil))))) (fun V0 => (.cons (.int _) (.cons (.int _) (.cons (.int _) (.cons (.int _) (.cons (.int _) .nil)))))) V0) .nil))) V0) (.cons (rp_fix (xs := [.str "in", .ref A_FORMS_216, .ref A_FORMS_222]) u_FORMS_214 (Nat.le_of_ble_eq_true rfl) (.cons (⟨_, rfl⟩) (.cons (rfl) (.cons (rfl) .nil))) (fun V0 => (.cons (.str _) (.cons (rp_fix (xs := [.int 0, .int 8, .int 26, .int 16, .int 0]) u_FORMS_216 (Nat.le_of_ble_eq_true rfl) (.cons (⟨_, rfl⟩) (.cons (⟨_, rfl⟩) (.cons (⟨_, rfl⟩) (.cons (⟨_, rfl⟩) (.cons (⟨_, rfl⟩) .nil))))) (fun V0 => (.cons (.int _) (.cons (.int _) (.cons (.int _) (.cons (.int _) (.cons (.int _) .nil)))))) V0) (.cons (rp_fix (xs := [.int 0, .int 7, .int 0, .int 16, .int 0]) u_FORMS_222 (Nat.le_of_ble_eq_true rfl) (.cons (⟨_, rfl⟩) (.cons (⟨_, rfl⟩) (.cons (⟨_, rfl⟩) (.cons (⟨_, rfl⟩) (.cons (⟨_, rfl⟩) .nil))))) (fun V0 => (.cons (.int _) (.cons (.int _) (.cons (.int _) (.cons (.int _) (.cons (.int _) .nil)))))) V0) .nil)))) V0) (.cons (rp_fix (xs := [.str "out", .ref A_FORMS_230, .ref A_FORMS_236]) u_FORMS_228 (Nat.le_of_ble_eq_true rfl) (.cons (⟨_, rfl⟩) (.cons (rfl) (.cons (rfl) .nil))) (fun V0 => (.cons (.str _) (.cons (rp_fix (xs := [.int 0, .int 8, .int 26, .int 16, .int 0]) u_FORMS_230 (Nat.le_of_ble_eq_true rfl) (.cons (⟨_, rfl⟩) (.cons (⟨_, rfl⟩) (.cons (⟨_, rfl⟩) (.cons (⟨_, rfl⟩) (.cons (⟨_, rfl⟩) .nil))))) (fun V0 => (.cons (.int _) (.cons (.int _) (.cons (.int _) (.cons (.int _) (.cons (.int _) .nil)))))) V0) (.cons (rp_fix (xs := [.int 0, .int 7, .int 0, .int 16, .int 0]) u_FORMS_236 (Nat.le_of_ble_eq_true rfl) (.cons (⟨_, rfl⟩) (.cons (⟨_, rfl⟩) (.cons (⟨_, rfl⟩) (.cons (⟨_, rfl⟩) (.cons (⟨_, rfl⟩) .nil))))) (fun V0 => (.cons (.int _) (.cons (.int _) (.cons (.int _) (.cons (.int _) (.cons (.int _) .nil)))))) V0) .nil)))) V0) .nil))))))))))))))))))) V0), glb_int (PySem.W.mg_of X G m_OPCODE_SHIFT), glb_int (PySem.W.mg_of X G m_WORDS), glb_int (PySem.W.mg_of X G m_MEMORY), ⟨A_CALCULATIONS_1, _, PySem.W.mg_of X G m_CALCULATIONS, u_CALCULATIONS_1, rfl, rfl, fun V0 => rp_fix (xs := [.str "add", .str "sub", .str "mul", .str "div", .str "mod", .str "and", .str "or", .str "xor", .str "shl", .str "shr", .str "ult", .str "ule", .str "slt", .str "sle", .str "eq", .str "ne", .str "nor"]) u_CALCULATIONS_1 (Nat.le_of_ble_eq_true rfl) (.cons (⟨_, rfl⟩) (.cons (⟨_, rfl⟩) (.cons (⟨_, rfl⟩) (.cons (⟨_, rfl⟩) (.cons (⟨_, rfl⟩) (.cons (⟨_, rfl⟩) (.cons (⟨_, rfl⟩) (.cons (⟨_, rfl⟩) (.cons (⟨_, rfl⟩) (.cons (⟨_, rfl⟩) (.cons (⟨_, rfl⟩) (.cons (⟨_, rfl⟩) (.cons (⟨_, rfl⟩) (.cons (⟨_, rfl⟩) (.cons (⟨_, rfl⟩) (.cons (⟨_, rfl⟩) (.cons (⟨_, rfl⟩) .nil))))))))))))))))) (fun V0 => (.cons (.str _) (.cons (.str _) (.cons (.str _) (.cons (.str _) (.cons (.str _) (.cons (.str _) (.cons (.str _) (.cons (.str _) (.cons (.str _) (.cons (.str _) (.cons (.str _) (.cons (.str _) (.cons (.str _) (.cons (.str _) (.cons (.str _) (.cons (.str _) (.cons (.str _) .nil)))))))))))))))))) V0⟩, PySem.W.mg_none_of X G z_int, PySem.W.mg_none_of X G z_list, PySem.W.mg_none_of X G z_tuple, PySem.W.mg_none_of X G z_len, PySem.W.mg_none_of X G z_enumerate, PySem.W.mg_none_of X G z_isinstance, PySem.W.mg_none_of X G z_zip, PySem.W.mg_none_of X G z_range, PySem.W.mg_none_of X G z_bool, PySem.W.mg_none_of X G z_abs, PySem.W.mg_none_of X G z_min, ⟨.ref _, _, PySem.W.mg_of X G aC_DeadbeatError, rfl, fun V0 => .ref _⟩, PySem.W.mg_of X G aC_DeadbeatError, ⟨.ref _, _, PySem.W.mg_of X G aC_CodeError, rfl, fun V0 => .ref _⟩, PySem.W.mg_of X G aC_CodeError, exm_self be_CodeError iC_CodeError tC_CodeError sC_CodeError, ⟨ga_CodeError, gg_CodeError, be_CodeError, hD_CodeError⟩, ⟨ga_CodeError, gg_CodeError, be_CodeError, hD_CodeError, cl_CodeError, gn, gt, mo_CodeError⟩, no_CodeError, kit_ref jC_CodeError_DeadbeatError jT_CodeError_DeadbeatError js_CodeError_DeadbeatError⟩
  refine ⟨PySem.W.fnOf "law" "law" (defArgs s_law) (defBody s_law) (defScope s_law) .none kV_law dc_law pm_law an_law cd_law ct_law, fun s v => .of_eq rfl, fun base _ _ => ?_⟩
  have eC_CodeError : CS 1 = A_CodeError := by subst hCS; rfl
  have eC_DeadbeatError : CS 0 = A_DeadbeatError := by subst hCS; rfl
  rw [← eC_CodeError] at aC_CodeError tC_CodeError be_CodeError no_CodeError xL_CodeError sa_CodeError kC_CodeError ga_CodeError gg_CodeError hD_CodeError iC_CodeError sC_CodeError cl_CodeError mo_CodeError a_CodeError___init__
  rw [← eC_DeadbeatError] at aC_DeadbeatError tC_DeadbeatError rd_DeadbeatError sg_DeadbeatError fc_DeadbeatError xL_CodeError
  have C_CodeError : CalE l.prog w K mg base "CodeError" (CS 1) f_at := ⟨⟨f_CodeError___init__, _, _, ok_CodeError___init__ (fun_mk (st := s_CodeError___init__) l_CodeError___init__ c_CodeError___init__ k_CodeError___init__) (PySem.W.mg_of X G aC_DeadbeatError) ⟨rd_DeadbeatError, tC_DeadbeatError, sg_DeadbeatError, fc_DeadbeatError⟩, (fun_mk (st := s_CodeError___init__) l_CodeError___init__ c_CodeError___init__ k_CodeError___init__).binds (ps := ["self", "at"]) fun _ _ _ _ _ _ us hl => match us, hl with | [_, _], _ => rfl, a_CodeError___init__, t_CodeError___init__, PySem.W.mg_of X G aC_CodeError⟩, ⟨⟨_, _, _, _, _, _, _, _, _, _, _, _, _, _, _, xL_CodeError, rfl⟩, sa_CodeError, be_CodeError, tC_CodeError, kC_CodeError⟩, no_CodeError⟩
  have C__law_start : CalX l.prog w K mg base 1 "_law_start" 1 (T__law_start CS) := ⟨f__law_start, _, _, ok__law_start (fun_mk (st := s__law_start) l__law_start c__law_start k__law_start) T , PySem.W.mg_of X G a__law_start, k__law_start, (fun_mk (st := s__law_start) l__law_start c__law_start k__law_start).binds (ps := ["_law_script"]) fun _ _ _ _ _ _ us hl => match us, hl with | [_], _ => rfl⟩
  have C__law_shape : CalX l.prog w K mg base 1 "_law_shape" 1 (T__law_shape CS) := ⟨f__law_shape, _, _, ok__law_shape (fun_mk (st := s__law_shape) l__law_shape c__law_shape k__law_shape) T , PySem.W.mg_of X G a__law_shape, k__law_shape, (fun_mk (st := s__law_shape) l__law_shape c__law_shape k__law_shape).binds (ps := ["_law_opcode"]) fun _ _ _ _ _ _ us hl => match us, hl with | [_], _ => rfl⟩
  have C__law_name : CalX l.prog w K mg base 1 "_law_name" 1 (T__law_name CS) := ⟨f__law_name, _, _, ok__law_name (fun_mk (st := s__law_name) l__law_name c__law_name k__law_name) T , PySem.W.mg_of X G a__law_name, k__law_name, (fun_mk (st := s__law_name) l__law_name c__law_name k__law_name).binds (ps := ["_law_opcode"]) fun _ _ _ _ _ _ us hl => match us, hl with | [_], _ => rfl⟩
  have C__law_place : CalX l.prog w K mg base 1 "_law_place" 1 (T__law_place CS) := ⟨f__law_place, _, _, ok__law_place (fun_mk (st := s__law_place) l__law_place c__law_place k__law_place) T , PySem.W.mg_of X G a__law_place, k__law_place, (fun_mk (st := s__law_place) l__law_place c__law_place k__law_place).binds (ps := ["_law_kind"]) fun _ _ _ _ _ _ us hl => match us, hl with | [_], _ => rfl⟩
  have C__law_greatest : CalX l.prog w K mg base 1 "_law_greatest" 1 (T__law_greatest CS) := ⟨f__law_greatest, _, _, ok__law_greatest (fun_mk (st := s__law_greatest) l__law_greatest c__law_greatest k__law_greatest) T , PySem.W.mg_of X G a__law_greatest, k__law_greatest, (fun_mk (st := s__law_greatest) l__law_greatest c__law_greatest k__law_greatest).binds (ps := ["_law_kind"]) fun _ _ _ _ _ _ us hl => match us, hl with | [_], _ => rfl⟩
  have C__law_operation : CalX l.prog w K mg base 1 "_law_operation" 1 (T__law_operation CS) := ⟨f__law_operation, _, _, ok__law_operation (fun_mk (st := s__law_operation) l__law_operation c__law_operation k__law_operation) T , PySem.W.mg_of X G a__law_operation, k__law_operation, (fun_mk (st := s__law_operation) l__law_operation c__law_operation k__law_operation).binds (ps := ["_law_at"]) fun _ _ _ _ _ _ us hl => match us, hl with | [_], _ => rfl⟩
  have C__law_expected : CalX l.prog w K mg base 2 "_law_expected" 1 (T__law_expected CS) := ⟨f__law_expected, _, _, ok__law_expected (fun_mk (st := s__law_expected) l__law_expected c__law_expected k__law_expected) T C__law_shape C__law_name C__law_place C__law_greatest C__law_operation, PySem.W.mg_of X G a__law_expected, k__law_expected, (fun_mk (st := s__law_expected) l__law_expected c__law_expected k__law_expected).binds (ps := ["_law_word_here"]) fun _ _ _ _ _ _ us hl => match us, hl with | [_], _ => rfl⟩
  have C_value_of : CalX l.prog w K mg base 1 "value_of" 2 (T_value_of CS) := ⟨f_value_of, _, _, ok_value_of (fun_mk (st := s_value_of) l_value_of c_value_of k_value_of) T , PySem.W.mg_of X G a_value_of, k_value_of, (fun_mk (st := s_value_of) l_value_of c_value_of k_value_of).binds (ps := ["word", "field"]) fun _ _ _ _ _ _ us hl => match us, hl with | [_, _], _ => rfl⟩
  have C_opcode_of : CalX l.prog w K mg base 1 "opcode_of" 1 (T_opcode_of CS) := ⟨f_opcode_of, _, _, ok_opcode_of (fun_mk (st := s_opcode_of) l_opcode_of c_opcode_of k_opcode_of) T , PySem.W.mg_of X G a_opcode_of, k_opcode_of, (fun_mk (st := s_opcode_of) l_opcode_of c_opcode_of k_opcode_of).binds (ps := ["name"]) fun _ _ _ _ _ _ us hl => match us, hl with | [_], _ => rfl⟩
  have C_number_of : CalX l.prog w K mg base 1 "number_of" 2 (T_number_of CS) := ⟨f_number_of, _, _, ok_number_of (fun_mk (st := s_number_of) l_number_of c_number_of k_number_of) T , PySem.W.mg_of X G a_number_of, k_number_of, (fun_mk (st := s_number_of) l_number_of c_number_of k_number_of).binds (ps := ["value", "field"]) fun _ _ _ _ _ _ us hl => match us, hl with | [_, _], _ => rfl⟩
  have C_is_instruction : CalX l.prog w K mg base 2 "is_instruction" 1 (T_is_instruction CS) := ⟨f_is_instruction, _, _, ok_is_instruction (fun_mk (st := s_is_instruction) l_is_instruction c_is_instruction k_is_instruction) T C_opcode_of C_number_of, PySem.W.mg_of X G a_is_instruction, k_is_instruction, (fun_mk (st := s_is_instruction) l_is_instruction c_is_instruction k_is_instruction).binds (ps := ["item"]) fun _ _ _ _ _ _ us hl => match us, hl with | [_], _ => rfl⟩
  have C_encode : CalX l.prog w K mg base 3 "encode" 1 (T_encode CS) := ⟨f_encode, _, _, ok_encode (fun_mk (st := s_encode) l_encode c_encode k_encode) T C_opcode_of C_is_instruction C_number_of C_CodeError, PySem.W.mg_of X G a_encode, k_encode, (fun_mk (st := s_encode) l_encode c_encode k_encode).binds (ps := ["instruction"]) fun _ _ _ _ _ _ us hl => match us, hl with | [_], _ => rfl⟩
  have C_decode : CalX l.prog w K mg base 4 "decode" 1 (T_decode CS) := ⟨f_decode, _, _, ok_decode (fun_mk (st := s_decode) l_decode c_decode k_decode) T C_value_of C_is_instruction C_encode C_CodeError, PySem.W.mg_of X G a_decode, k_decode, (fun_mk (st := s_decode) l_decode c_decode k_decode).binds (ps := ["word"]) fun _ _ _ _ _ _ us hl => match us, hl with | [_], _ => rfl⟩
  have C__law_holds : CalX l.prog w K mg base 5 "_law_holds" 1 (T__law_holds CS) := ⟨f__law_holds, _, _, ok__law_holds (fun_mk (st := s__law_holds) l__law_holds c__law_holds k__law_holds) T C__law_expected C_decode, PySem.W.mg_of X G a__law_holds, k__law_holds, (fun_mk (st := s__law_holds) l__law_holds c__law_holds k__law_holds).binds (ps := ["_law_word_here"]) fun _ _ _ _ _ _ us hl => match us, hl with | [_], _ => rfl⟩
  have C__law_draw : CalX l.prog w K mg base 1 "_law_draw" 2 (T__law_draw CS) := ⟨f__law_draw, _, _, ok__law_draw (fun_mk (st := s__law_draw) l__law_draw c__law_draw k__law_draw) T , PySem.W.mg_of X G a__law_draw, k__law_draw, (fun_mk (st := s__law_draw) l__law_draw c__law_draw k__law_draw).binds (ps := ["_law_state", "_law_many"]) fun _ _ _ _ _ _ us hl => match us, hl with | [_, _], _ => rfl⟩
  have C__law_word : CalX l.prog w K mg base 2 "_law_word" 1 (T__law_word CS) := ⟨f__law_word, _, _, ok__law_word (fun_mk (st := s__law_word) l__law_word c__law_word k__law_word) T C__law_draw C__law_shape C__law_place C__law_greatest, PySem.W.mg_of X G a__law_word, k__law_word, (fun_mk (st := s__law_word) l__law_word c__law_word k__law_word).binds (ps := ["_law_state"]) fun _ _ _ _ _ _ us hl => match us, hl with | [_], _ => rfl⟩
  have R := ok_law (fun_mk (st := s_law) l_law c_law k_law) T C__law_start C__law_holds C__law_word
  exact R.imp fun vs H Q E ⟨hl, F, V0, os, ws, k0, x0, r, ra, hT, c1, c2⟩ => ⟨hl, F, V0, os, ws, k0, x0, r, ra, hT CS, c1, c2⟩
theorem walk {l : PySem.W.OpenLaw} {q : Program} {loose : List Str} {XP : (Str → Option Value) → Heap → Prop} {YP : World → Heap → Prop} {d : DefRec} {K : Params → PySem.W.Frag} (hn : l.most = some 63) (hdf : d.params.defaults = [])
    (hY : ∀ (w : World) (h : Heap), YP w h → (K w.params).In h)
    (F : ∀ (w : World) (mg : Str → Option Value) (fa : Addr) (h : Heap), (K w.params).In h → h.Ns mainGlobals mg → mg d.name = some (.ref fa) →
      ∃ fd : FuncData, (∀ (s : Shared) (u : Value), BindsTo s fd ⟨[u], []⟩ [("_law_script", u)]) ∧ ∀ base : Heap, (K w.params).In base → base.Ns mainGlobals mg → FnOk l.prog w (K w.params) mg base (L2.CX l.prog w) 6 fa fd ["_law_script"] (spX (K w.params) 1 LawT)) :
    PySem.W.WalkO q loose XP YP l.row.toRowW d [] (fun f vs => PySem.call f vs) :=
  L2.walk_of (n := 63) (k := 6) (x := "_law_script") (K := K) (CX := fun w => L2.CX l.prog w) (sp := fun w => spX (K w.params) 1 LawT) hn (by decide) hdf ⟨rfl, by decide, by decide⟩ hY F (fun w H a ns h1 _ h3 => law_spX (K w.params) LawT (fun ns h CS => law_true (CS := CS) ns h) H a ns h1 h3) fun w H s e s2 z => cx_no z
end My
open PySem PySem.W PyProof.Rows
set_option maxRecDepth 100000 in
set_option maxHeartbeats 0 in
theorem PySem.Challenge.cw_deadbeat_k18_words_of_instructions_holds : PySem.Challenge.rw_deadbeat_k18_words_of_instructions.Holds := by
  w_on; o_law; k_head; (case hw => w_witness2)
  k_fill
  refine My.walk (l := PySem.Challenge.rw_deadbeat_k18_words_of_instructions) rfl rfl (fun w h Y => PySem.W.kIn_of Y) ?F
  case F =>
    intro w mg fa h KX G hmg
    refine' My.all_mk KX G hmg ?m_CALCULATIONS ?u_CALCULATIONS_1 ?m_NAMED ?u_NAMED_1 ?m_FORMS ?u_FORMS_1 ?u_FORMS_2 ?u_FORMS_4 ?u_FORMS_10 ?u_FORMS_16 ?u_FORMS_18 ?u_FORMS_24 ?u_FORMS_30 ?u_FORMS_32 ?u_FORMS_38 ?u_FORMS_44 ?u_FORMS_50 ?u_FORMS_56 ?u_FORMS_58 ?u_FORMS_64 ?u_FORMS_70 ?u_FORMS_72 ?u_FORMS_78 ?u_FORMS_84 ?u_FORMS_86 ?u_FORMS_92 ?u_FORMS_98 ?u_FORMS_104 ?u_FORMS_110 ?u_FORMS_112 ?u_FORMS_118 ?u_FORMS_124 ?u_FORMS_130 ?u_FORMS_136 ?u_FORMS_138 ?u_FORMS_144 ?u_FORMS_146 ?u_FORMS_152 ?u_FORMS_158 ?u_FORMS_160 ?u_FORMS_166 ?u_FORMS_172 ?u_FORMS_174 ?u_FORMS_180 ?u_FORMS_186 ?u_FORMS_188 ?u_FORMS_194 ?u_FORMS_196 ?u_FORMS_198 ?u_FORMS_200 ?u_FORMS_206 ?u_FORMS_208 ?u_FORMS_214 ?u_FORMS_216 ?u_FORMS_222 ?u_FORMS_228 ?u_FORMS_230 ?u_FORMS_236 ?m_OPCODE_SHIFT ?m_WORDS ?m_MEMORY ?z_int ?z_list ?z_tuple ?z_len ?z_enumerate ?z_isinstance ?z_zip ?z_range ?z_bool ?z_abs ?z_min ?aC_CodeError ?tC_CodeError ?be_CodeError ?no_CodeError ?xL_CodeError ?sa_CodeError ?kC_CodeError ?ga_CodeError ?gg_CodeError ?hD_CodeError ?iC_CodeError ?sC_CodeError ?cl_CodeError ?mo_CodeError ?aC_DeadbeatError ?tC_DeadbeatError ?rd_DeadbeatError ?sg_DeadbeatError ?fc_DeadbeatError ?gn ?gt ?jC_CodeError_DeadbeatError ?jT_CodeError_DeadbeatError ?js_CodeError_DeadbeatError ?a_CodeError___init__ ?t_CodeError___init__ ?l_CodeError___init__ ?c_CodeError___init__ ?k_CodeError___init__ ?a__law_start ?l__law_start ?c__law_start ?k__law_start ?a__law_shape ?l__law_shape ?c__law_shape ?k__law_shape ?a__law_name ?l__law_name ?c__law_name ?k__law_name ?a__law_place ?l__law_place ?c__law_place ?k__law_place ?a__law_greatest ?l__law_greatest ?c__law_greatest ?k__law_greatest ?a__law_operation ?l__law_operation ?c__law_operation ?k__law_operation ?a__law_expected ?l__law_expected ?c__law_expected ?k__law_expected ?a_value_of ?l_value_of ?c_value_of ?k_value_of ?a_opcode_of ?l_opcode_of ?c_opcode_of ?k_opcode_of ?a_number_of ?l_number_of ?c_number_of ?k_number_of ?a_is_instruction ?l_is_instruction ?c_is_instruction ?k_is_instruction ?a_encode ?l_encode ?c_encode ?k_encode ?a_decode ?l_decode ?c_decode ?k_decode ?a__law_holds ?l__law_holds ?c__law_holds ?k__law_holds ?a__law_draw ?l__law_draw ?c__law_draw ?k__law_draw ?a__law_word ?l__law_word ?c__law_word ?k__law_word ?a_law ?l_law ?c_law ?k_law
    (case m_CALCULATIONS => k_is)
    (case u_CALCULATIONS_1 => k_is)
    (case m_NAMED => k_is)
    (case u_NAMED_1 => k_is)
    (case m_FORMS => k_is)
    (case u_FORMS_1 => k_is)
    (case u_FORMS_2 => k_is)
    (case u_FORMS_4 => k_is)
    (case u_FORMS_10 => k_is)
    (case u_FORMS_16 => k_is)
    (case u_FORMS_18 => k_is)
    (case u_FORMS_24 => k_is)
    (case u_FORMS_30 => k_is)
    (case u_FORMS_32 => k_is)
    (case u_FORMS_38 => k_is)
    (case u_FORMS_44 => k_is)
    (case u_FORMS_50 => k_is)
    (case u_FORMS_56 => k_is)
    (case u_FORMS_58 => k_is)
    (case u_FORMS_64 => k_is)
    (case u_FORMS_70 => k_is)
    (case u_FORMS_72 => k_is)
    (case u_FORMS_78 => k_is)
    (case u_FORMS_84 => k_is)
    (case u_FORMS_86 => k_is)
    (case u_FORMS_92 => k_is)
    (case u_FORMS_98 => k_is)
    (case u_FORMS_104 => k_is)
    (case u_FORMS_110 => k_is)
    (case u_FORMS_112 => k_is)
    (case u_FORMS_118 => k_is)
    (case u_FORMS_124 => k_is)
    (case u_FORMS_130 => k_is)
    (case u_FORMS_136 => k_is)
    (case u_FORMS_138 => k_is)
    (case u_FORMS_144 => k_is)
    (case u_FORMS_146 => k_is)
    (case u_FORMS_152 => k_is)
    (case u_FORMS_158 => k_is)
    (case u_FORMS_160 => k_is)
    (case u_FORMS_166 => k_is)
    (case u_FORMS_172 => k_is)
    (case u_FORMS_174 => k_is)
    (case u_FORMS_180 => k_is)
    (case u_FORMS_186 => k_is)
    (case u_FORMS_188 => k_is)
    (case u_FORMS_194 => k_is)
    (case u_FORMS_196 => k_is)
    (case u_FORMS_198 => k_is)
    (case u_FORMS_200 => k_is)
    (case u_FORMS_206 => k_is)
    (case u_FORMS_208 => k_is)
    (case u_FORMS_214 => k_is)
    (case u_FORMS_216 => k_is)
    (case u_FORMS_222 => k_is)
    (case u_FORMS_228 => k_is)
    (case u_FORMS_230 => k_is)
    (case u_FORMS_236 => k_is)
    (case m_OPCODE_SHIFT => k_is)
    (case m_WORDS => k_is)
    (case m_MEMORY => k_is)
    (case z_int => k_is)
    (case z_list => k_is)
    (case z_tuple => k_is)
    (case z_len => k_is)
    (case z_enumerate => k_is)
    (case z_isinstance => k_is)
    (case z_zip => k_is)
    (case z_range => k_is)
    (case z_bool => k_is)
    (case z_abs => k_is)
    (case z_min => k_is)
    (case aC_CodeError => k_is)
    (case tC_CodeError => k_is)
    (case be_CodeError => k_is)
    (case no_CodeError => k_is)
    (case xL_CodeError => k_is)
    (case sa_CodeError => k_is)
    (case kC_CodeError => k_is)
    (case ga_CodeError => k_is)
    (case gg_CodeError => k_is)
    (case hD_CodeError => k_is)
    (case iC_CodeError => k_is)
    (case sC_CodeError => k_is)
    (case cl_CodeError => k_is)
    (case mo_CodeError => k_is)
    (case aC_DeadbeatError => k_is)
    (case tC_DeadbeatError => k_is)
    (case rd_DeadbeatError => k_is)
    (case sg_DeadbeatError => k_is)
    (case fc_DeadbeatError => k_is)
    (case gn => k_is)
    (case gt => k_is)
    (case jC_CodeError_DeadbeatError => k_is)
    (case jT_CodeError_DeadbeatError => k_is)
    (case js_CodeError_DeadbeatError => k_is)
    (case a_CodeError___init__ => k_is)
    (case t_CodeError___init__ => k_is)
    (case l_CodeError___init__ => k_is)
    (case c_CodeError___init__ => k_is)
    (case k_CodeError___init__ => k_is)
    (case a__law_start => k_is)
    (case l__law_start => k_is)
    (case c__law_start => k_is)
    (case k__law_start => k_is)
    (case a__law_shape => k_is)
    (case l__law_shape => k_is)
    (case c__law_shape => k_is)
    (case k__law_shape => k_is)
    (case a__law_name => k_is)
    (case l__law_name => k_is)
    (case c__law_name => k_is)
    (case k__law_name => k_is)
    (case a__law_place => k_is)
    (case l__law_place => k_is)
    (case c__law_place => k_is)
    (case k__law_place => k_is)
    (case a__law_greatest => k_is)
    (case l__law_greatest => k_is)
    (case c__law_greatest => k_is)
    (case k__law_greatest => k_is)
    (case a__law_operation => k_is)
    (case l__law_operation => k_is)
    (case c__law_operation => k_is)
    (case k__law_operation => k_is)
    (case a__law_expected => k_is)
    (case l__law_expected => k_is)
    (case c__law_expected => k_is)
    (case k__law_expected => k_is)
    (case a_value_of => k_is)
    (case l_value_of => k_is)
    (case c_value_of => k_is)
    (case k_value_of => k_is)
    (case a_opcode_of => k_is)
    (case l_opcode_of => k_is)
    (case c_opcode_of => k_is)
    (case k_opcode_of => k_is)
    (case a_number_of => k_is)
    (case l_number_of => k_is)
    (case c_number_of => k_is)
    (case k_number_of => k_is)
    (case a_is_instruction => k_is)
    (case l_is_instruction => k_is)
    (case c_is_instruction => k_is)
    (case k_is_instruction => k_is)
    (case a_encode => k_is)
    (case l_encode => k_is)
    (case c_encode => k_is)
    (case k_encode => k_is)
    (case a_decode => k_is)
    (case l_decode => k_is)
    (case c_decode => k_is)
    (case k_decode => k_is)
    (case a__law_holds => k_is)
    (case l__law_holds => k_is)
    (case c__law_holds => k_is)
    (case k__law_holds => k_is)
    (case a__law_draw => k_is)
    (case l__law_draw => k_is)
    (case c__law_draw => k_is)
    (case k__law_draw => k_is)
    (case a__law_word => k_is)
    (case l__law_word => k_is)
    (case c__law_word => k_is)
    (case k__law_word => k_is)
    (case a_law => k_is)
    (case l_law => k_is)
    (case c_law => k_is)
    (case k_law => k_is)

