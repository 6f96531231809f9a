import PyProof.Rows.All
import Wide.All
import OpenK.AllK
import Wide.FinOn
import HandS.ForMost
import HandS.Wide
import HandS.Flow
import HandS.IsInst
import HandS.SortInts
import HandS.Remove
import KE.DatumOrd
import KE.DataFind
import PySem.Challenge.RW_deadbeat_k42_numbers_of_tasks
set_option Elab.async false
set_option linter.all false
set_option maxRecDepth 100000
/-! DL1: data values, owned objects, the relation between the abstract heap and them. -/
namespace DL
open PySem PySem.Spec PyProof.Rows L2

/-- pure data: what never changes any more -/
inductive D where
  | non | bl (b : Bool) | int (i : Int) | str (x : Str) | ty (n : String) | tup (ds : List D) | lst (ds : List D)
/-- a value at hand: data, or the address of an owned object -/
inductive W where
  | d (x : D) | ref (a : Addr)
abbrev wI (i : Int) : W := .d (.int i)
abbrev wB (b : Bool) : W := .d (.bl b)
abbrev wS (x : Str) : W := .d (.str x)
abbrev wN : W := .d .non
abbrev wT (ds : List D) : W := .d (.tup ds)
abbrev wL (ds : List D) : W := .d (.lst ds)

mutual
inductive Rp (K : PySem.W.Frag) (H : Hp) : V → D → Prop
  | non : Rp K H .non .non
  | bl (b : Bool) : Rp K H (.bl b) (.bl b)
  | int (i : Int) : Rp K H (.int i) (.int i)
  | str (x : Str) : Rp K H (.str x) (.str x)
  | ty (n : String) : Rp K H (.ty n) (.ty n)
  | tup {a : Addr} {xs : List V} {ds : List D} : SqT K H a xs → RpA K H xs ds → Rp K H (.ref a) (.tup ds)
  | lst {a : Addr} {xs : List V} {ds : List D} : SqL K H a xs → RpA K H xs ds → Rp K H (.ref a) (.lst ds)
inductive RpA (K : PySem.W.Frag) (H : Hp) : List V → List D → Prop
  | nil : RpA K H [] []
  | cons {v : V} {vs : List V} {d : D} {ds : List D} : Rp K H v d → RpA K H vs ds → RpA K H (v :: vs) (d :: ds)
end
theorem same_sqT {K : PySem.W.Frag} {H H' : Hp} {a : Addr} {xs : List V} (e : Same H H') (h : SqT K H a xs) : SqT K H' a xs := by
  rcases h with (h | ⟨o, h⟩) | h
  · exact .inl (.inl (e _ _ h))
  · exact .inl (.inr ⟨o, e _ _ h⟩)
  · exact .inr h
mutual
theorem Rp.mono {K : PySem.W.Frag} {H H' : Hp} (e : Same H H') : ∀ {v : V} {d : D}, Rp K H v d → Rp K H' v d
  | _, _, .non => .non
  | _, _, .bl b => .bl b
  | _, _, .int i => .int i
  | _, _, .str x => .str x
  | _, _, .ty x => .ty x
  | _, _, .tup h r => .tup (same_sqT e h) (RpA.mono e r)
  | _, _, .lst h r => .lst (e.seq h) (RpA.mono e r)
theorem RpA.mono {K : PySem.W.Frag} {H H' : Hp} (e : Same H H') : ∀ {vs : List V} {ds : List D}, RpA K H vs ds → RpA K H' vs ds
  | _, _, .nil => .nil
  | _, _, .cons h r => .cons (Rp.mono e h) (RpA.mono e r)
end
theorem RpA.length {K : PySem.W.Frag} {H : Hp} : ∀ {vs : List V} {ds : List D}, RpA K H vs ds → vs.length = ds.length
  | _, _, .nil => rfl
  | _, _, .cons _ r => congrArg (· + 1) (RpA.length r)
theorem RpA.get {K : PySem.W.Frag} {H : Hp} : ∀ {vs : List V} {ds : List D} {i : Nat} {d : D}, RpA K H vs ds → ds[i]? = some d → ∃ v, vs[i]? = some v ∧ Rp K H v d
  | _, _, _, _, .nil, e => by simp at e
  | _, _, 0, _, .cons h r, e => by simp at e; subst e; exact ⟨_, rfl, h⟩
  | _, _, i + 1, d, .cons h r, e => by
    obtain ⟨v, e1, r1⟩ := RpA.get (i := i) (d := d) r (by simpa using e)
    exact ⟨v, by simpa using e1, r1⟩
theorem RpA.getV {K : PySem.W.Frag} {H : Hp} : ∀ {vs : List V} {ds : List D} {i : Nat} {v : V}, RpA K H vs ds → vs[i]? = some v → ∃ d, ds[i]? = some d ∧ Rp K H v d
  | _, _, _, _, .nil, e => by simp at e
  | _, _, 0, _, .cons h r, e => by simp at e; subst e; exact ⟨_, rfl, h⟩
  | _, _, i + 1, d, .cons h r, e => by
    obtain ⟨v, e1, r1⟩ := RpA.getV (i := i) (v := d) r (by simpa using e)
    exact ⟨v, by simpa using e1, r1⟩
theorem RpA.append {K : PySem.W.Frag} {H : Hp} : ∀ {vs us : List V} {ds es : List D}, RpA K H vs ds → RpA K H us es → RpA K H (vs ++ us) (ds ++ es)
  | _, _, _, _, .nil, s => s
  | _, _, _, _, .cons h r, s => .cons h (RpA.append r s)
theorem RpA.take {K : PySem.W.Frag} {H : Hp} : ∀ {vs : List V} {ds : List D} (n : Nat), RpA K H vs ds → RpA K H (vs.take n) (ds.take n)
  | _, _, 0, _ => .nil
  | _, _, _ + 1, .nil => .nil
  | _, _, n + 1, .cons h r => .cons h (RpA.take n r)
theorem RpA.drop {K : PySem.W.Frag} {H : Hp} : ∀ {vs : List V} {ds : List D} (n : Nat), RpA K H vs ds → RpA K H (vs.drop n) (ds.drop n)
  | _, _, 0, r => r
  | _, _, _ + 1, .nil => .nil
  | _, _, n + 1, .cons _ r => RpA.drop n r
theorem RpA.reverse {K : PySem.W.Frag} {H : Hp} {vs : List V} {ds : List D} (h : RpA K H vs ds) : RpA K H vs.reverse ds.reverse := by
  induction vs generalizing ds with
  | nil => cases h; exact .nil
  | cons v vs ih =>
    cases h with
    | cons h r => rw [List.reverse_cons, List.reverse_cons]; exact (ih r).append (.cons h .nil)

/-- a value at hand -/
def RW (K : PySem.W.Frag) (H : Hp) (v : V) : W → Prop
  | .d x => Rp K H v x
  | .ref a => v = .ref a
theorem RW.mono {K : PySem.W.Frag} {H H' : Hp} (e : Same H H') {v : V} : ∀ {w : W}, RW K H v w → RW K H' v w
  | .d _, h => Rp.mono e h
  | .ref _, h => h
abbrev RWs (K : PySem.W.Frag) (H : Hp) : List V → List W → Prop := Paired (RW K H)
theorem RWs.mono {K : PySem.W.Frag} {H H' : Hp} (e : Same H H') {vs : List V} {ws : List W} (h : RWs K H vs ws) : RWs K H' vs ws := Paired.mapP h fun _ _ r => r.mono e
theorem RWs.ofA {K : PySem.W.Frag} {H : Hp} : ∀ {vs : List V} {ds : List D}, RpA K H vs ds → RWs K H vs (ds.map W.d)
  | _, _, .nil => .nil
  | _, _, .cons h r => .cons h (RWs.ofA r)
theorem RWs.toA {K : PySem.W.Frag} {H : Hp} : ∀ {vs : List V} {ds : List D}, RWs K H vs (ds.map W.d) → RpA K H vs ds
  | _, [], h => by cases h; exact .nil
  | _, d :: ds, h => by
    cases h with
    | cons a b => exact .cons a (RWs.toA b)
theorem RWs.get {K : PySem.W.Frag} {H : Hp} : ∀ {vs : List V} {ws : List W} {i : Nat} {w : W}, RWs K H vs ws → ws[i]? = some w → ∃ v, vs[i]? = some v ∧ RW K H v w
  | _, _, _, _, .nil, e => by simp at e
  | _, _, 0, _, .cons h r, e => by simp at e; subst e; exact ⟨_, rfl, h⟩
  | _, _, i + 1, d, .cons h r, e => by
    obtain ⟨v, e1, r1⟩ := RWs.get (i := i) (w := d) r (by simpa using e)
    exact ⟨v, by simpa using e1, r1⟩
theorem RWs.len {K : PySem.W.Frag} {H : Hp} {vs : List V} {ws : List W} (h : RWs K H vs ws) : vs.length = ws.length := Paired.length h
theorem RWs.append {K : PySem.W.Frag} {H : Hp} : ∀ {vs us : List V} {ds es : List W}, RWs K H vs ds → RWs K H us es → RWs K H (vs ++ us) (ds ++ es)
  | _, _, _, _, .nil, s => s
  | _, _, _, _, .cons h r, s => .cons h (RWs.append r s)
theorem RWs.take {K : PySem.W.Frag} {H : Hp} : ∀ {vs : List V} {ds : List W} (n : Nat), RWs K H vs ds → RWs K H (vs.take n) (ds.take n)
  | _, _, 0, _ => .nil
  | _, _, _ + 1, .nil => .nil
  | _, _, n + 1, .cons h r => .cons h (RWs.take n r)
theorem RWs.drop {K : PySem.W.Frag} {H : Hp} : ∀ {vs : List V} {ds : List W} (n : Nat), RWs K H vs ds → RWs K H (vs.drop n) (ds.drop n)
  | _, _, 0, r => r
  | _, _, _ + 1, .nil => .nil
  | _, _, n + 1, .cons _ r => RWs.drop n r
theorem RWs.set {K : PySem.W.Frag} {H : Hp} {v : V} {w : W} (q : RW K H v w) : ∀ {vs : List V} {ds : List W} (n : Nat), RWs K H vs ds → RWs K H (vs.set n v) (ds.set n w)
  | _, _, _, .nil => .nil
  | _, _, 0, .cons _ r => .cons q r
  | _, _, n + 1, .cons h r => .cons h (RWs.set q n r)
theorem RWs.eraseIdx {K : PySem.W.Frag} {H : Hp} : ∀ {vs : List V} {ds : List W} (n : Nat), RWs K H vs ds → RWs K H (vs.eraseIdx n) (ds.eraseIdx n)
  | _, _, _, .nil => .nil
  | _, _, 0, .cons _ r => r
  | _, _, n + 1, .cons h r => .cons h (RWs.eraseIdx n r)

/-- what an owned object holds -/
inductive OO where
  | lst (ws : List W)
  | ins (C : Addr) (fs : List (Str × W))
def RO (K : PySem.W.Frag) (V0 : Hp) (ho : HO) : OO → Prop
  | .lst ws => ∃ vs, ho = .lst vs ∧ RWs K V0 vs ws
  | .ins C fs => ∃ dx vf, ho = .ins C dx vf ∧ Paired (fun (p : Str × V) (q : Str × W) => p.1 = q.1 ∧ RW K V0 p.2 q.2) vf fs
theorem RO.mono {K : PySem.W.Frag} {H H' : Hp} (e : Same H H') {ho : HO} : ∀ {oo : OO}, RO K H ho oo → RO K H' ho oo
  | .lst _, ⟨vs, h, r⟩ => ⟨vs, h, r.mono e⟩
  | .ins _ _, ⟨dx, vf, h, r⟩ => ⟨dx, vf, h, Paired.mapP r fun _ _ z => ⟨z.1, z.2.mono e⟩⟩
abbrev Os := List (Addr × OO)

/-- H holds, apart from one another: the frame F, the data V0, the owned objects os -/
structure Rel (K : PySem.W.Frag) (F V0 : Hp) (os : Os) (H : Hp) : Prop where
  fr : Same F H
  vi : Same V0 H
  fv : ∀ a o, F a = some o → V0 a = none
  own : ∀ p ∈ os, F p.1 = none ∧ V0 p.1 = none ∧ ∃ ho, H p.1 = some ho ∧ RO K V0 ho p.2
  nd : (os.map (·.1)).Nodup
section
variable {K : PySem.W.Frag} {F V0 H : Hp} {os : Os} {p : Addr}
theorem none_of {H1 H2 : Hp} (e : Same H1 H2) {a : Addr} (h : H2 a = none) : H1 a = none := e.free h
theorem Rel.freshO (r : Rel K F V0 os H) (h : H p = none) : p ∉ os.map (·.1) := fun hm => by
  obtain ⟨q, hq, e⟩ := List.mem_map.mp hm
  obtain ⟨_, _, ho, eh, _⟩ := r.own q hq
  have e' : q.1 = p := e
  rw [e', h] at eh
  cases eh
theorem same_upd {H : Hp} {p : Addr} {o : HO} (h : H p = none) : Same H (upd H p o) := fun a u e => by
  rw [upd_ne (ne_of_none e h)]; exact e
/-- a new thing that never changes -/
theorem Rel.addV (r : Rel K F V0 os H) (h : H p = none) (o : HO) : Rel K F (upd V0 p o) os (upd H p o) := by
  have vp := r.vi.free h
  have fp := r.fr.free h
  have sv : Same V0 (upd V0 p o) := same_upd vp
  refine ⟨fun a u e => ?_, fun a u e => ?_, fun a u e => ?_, fun q hq => ?_, r.nd⟩
  · rw [upd_ne (ne_of_none e fp)]; exact r.fr a u e
  · by_cases ha : a = p
    · subst ha; rw [upd_same] at e ⊢; exact e
    · rw [upd_ne ha] at e ⊢; exact r.vi a u e
  · rw [upd_ne (ne_of_none e fp)]; exact r.fv a u e
  · obtain ⟨h1, h2, ho, h3, h4⟩ := r.own q hq
    have ne : q.1 ≠ p := ne_of_none h3 h
    exact ⟨h1, by rw [upd_ne ne]; exact h2, ho, by rw [upd_ne ne]; exact h3, h4.mono sv⟩
/-- a new owned thing -/
theorem Rel.addO (r : Rel K F V0 os H) (h : H p = none) {ho : HO} {oo : OO} (ro : RO K V0 ho oo) : Rel K F V0 ((p, oo) :: os) (upd H p ho) := by
  have sh : Same H (upd H p ho) := same_upd h
  refine ⟨r.fr.trans sh, r.vi.trans sh, r.fv, fun q hq => ?_, ?_⟩
  · rcases List.mem_cons.mp hq with e | hq
    · subst e; exact ⟨r.fr.free h, r.vi.free h, ho, upd_same, ro⟩
    · obtain ⟨h1, h2, ho', h3, h4⟩ := r.own q hq
      exact ⟨h1, h2, ho', sh _ _ h3, h4⟩
  · rw [List.map_cons, List.nodup_cons]; exact ⟨r.freshO h, r.nd⟩
theorem nd_fst {os : Os} (nd : (os.map (·.1)).Nodup) {i : Nat} {a : Addr} {oo : OO} (h : os[i]? = some (a, oo)) : ∀ p ∈ os, p.1 = a → p = (a, oo) := fun p hp e => by
  obtain ⟨j, hj⟩ := List.getElem?_of_mem hp
  have e1 : (os.map (·.1))[i]? = some a := by rw [List.getElem?_map, h]; rfl
  have e2 : (os.map (·.1))[j]? = some a := by rw [List.getElem?_map, hj]; exact congrArg some e
  have ij := nd_ix nd e1 e2
  subst ij
  rw [h] at hj
  exact (Option.some.inj hj).symm
/-- an owned thing changes -/
theorem Rel.mut (r : Rel K F V0 os H) {i : Nat} {a : Addr} {oo oo' : OO} (h : os[i]? = some (a, oo)) {ho : HO} (ro : RO K V0 ho oo') : Rel K F V0 (os.set i (a, oo')) (upd H a ho) := by
  obtain ⟨h1, h2, _, h3, _⟩ := r.own _ (List.mem_of_getElem? h)
  have hi : i < os.length := (List.getElem?_eq_some_iff.mp h).1
  have em : (os.set i (a, oo')).map (·.1) = os.map (·.1) := by
    rw [List.map_set]
    refine List.ext_getElem? fun j => ?_
    by_cases hj : i = j
    · subst hj
      rw [List.getElem?_set_self (by simpa using hi), List.getElem?_map, h]; rfl
    · rw [List.getElem?_set_ne hj]
  refine ⟨fun b u e => ?_, fun b u e => ?_, r.fv, fun q hq => ?_, by rw [em]; exact r.nd⟩
  · rw [upd_ne (ne_of_none e h1)]; exact r.fr b u e
  · rw [upd_ne (ne_of_none e h2)]; exact r.vi b u e
  · obtain ⟨j, hj⟩ := List.getElem?_of_mem hq
    by_cases hij : i = j
    · subst hij
      rw [List.getElem?_set_self hi] at hj
      have e := Option.some.inj hj
      subst e
      exact ⟨h1, h2, ho, upd_same, ro⟩
    · rw [List.getElem?_set_ne hij] at hj
      obtain ⟨k1, k2, ho', k3, k4⟩ := r.own q (List.mem_of_getElem? hj)
      have ne : q.1 ≠ a := fun e => by
        have e1 : (os.map (·.1))[i]? = some a := by rw [List.getElem?_map, h]; rfl
        have e2 : (os.map (·.1))[j]? = some a := by rw [List.getElem?_map, hj]; exact congrArg some e
        exact hij (nd_ix r.nd e1 e2)
      exact ⟨k1, k2, ho', by rw [upd_ne ne]; exact k3, k4⟩
theorem Rel.perm (r : Rel K F V0 os H) {os' : Os} (h : os.Perm os') : Rel K F V0 os' H :=
  ⟨r.fr, r.vi, r.fv, fun q hq => r.own q (h.mem_iff.mpr hq), (h.map _).nodup_iff.mp r.nd⟩
/-- fewer owned things are told -/
theorem Rel.drop (r : Rel K F V0 os H) {os' : Os} (h : os'.Sublist os) : Rel K F V0 os' H :=
  ⟨r.fr, r.vi, r.fv, fun q hq => r.own q (h.subset hq), r.nd.sublist (h.map _)⟩
/-- an owned list becomes data -/
theorem Rel.freeze (r : Rel K F V0 os H) {i : Nat} {a : Addr} {ds : List D} (h : os[i]? = some (a, .lst (ds.map W.d))) :
    ∃ V1, Same V0 V1 ∧ Rel K F V1 (os.eraseIdx i) H ∧ Rp K V1 (.ref a) (.lst ds) := by
  obtain ⟨h1, h2, ho, h3, vs, rfl, h4⟩ := r.own _ (List.mem_of_getElem? h)
  have sv : Same V0 (upd V0 a (.lst vs)) := same_upd h2
  refine ⟨upd V0 a (.lst vs), sv, ⟨r.fr, fun b u e => ?_, fun b u e => ?_, fun q hq => ?_, r.nd.sublist ((List.eraseIdx_sublist _ _).map _)⟩, .lst (.inl (.inl upd_same)) (RpA.mono sv h4.toA)⟩
  · by_cases hb : b = a
    · subst hb; rw [upd_same] at e; cases e; exact h3
    · rw [upd_ne hb] at e; exact r.vi b u e
  · rw [upd_ne (ne_of_none e h1)]; exact r.fv b u e
  · obtain ⟨j, hj⟩ := List.getElem?_of_mem hq
    obtain ⟨k1, k2, ho', k3, k4⟩ := r.own q ((List.eraseIdx_sublist _ _).subset hq)
    have ne : q.1 ≠ a := fun e => by
      have e1 : (os.map (·.1))[i]? = some a := by rw [List.getElem?_map, h]; rfl
      rw [List.getElem?_eraseIdx] at hj
      split at hj
      · have e2 : (os.map (·.1))[j]? = some a := by rw [List.getElem?_map, hj]; exact congrArg some e
        have := nd_ix r.nd e1 e2
        omega
      · have e2 : (os.map (·.1))[j + 1]? = some a := by rw [List.getElem?_map, hj]; exact congrArg some e
        have := nd_ix r.nd e1 e2
        omega
    exact ⟨k1, by rw [upd_ne ne]; exact k2, ho', k3, k4.mono sv⟩
end

/-- a part of the owned things goes to the frame, and comes back -/
theorem Rel.frame {K : PySem.W.Frag} {F V0 H : Hp} {of or : Os} (r : Rel K F V0 (of ++ or) H) :
    ∃ F2 : Hp, Rel K F2 V0 of H ∧ ∀ (V1 : Hp) (os1 : Os) (H1 : Hp), Same V0 V1 → Rel K F2 V1 os1 H1 → Rel K F V1 (os1 ++ or) H1 := by
  have nd := r.nd
  rw [List.map_append, List.nodup_append] at nd
  obtain ⟨nd1, nd2, nd3⟩ := nd
  refine ⟨fun a => if a ∈ or.map (·.1) then H a else F a, ⟨fun a o e => ?_, r.vi, fun a o e => ?_, fun q hq => ?_, nd1⟩, fun V1 os1 H1 sv r1 => ?_⟩
  · (try dsimp only at e)
    split at e
    · exact e
    · exact r.fr a o e
  · (try dsimp only at e)
    split at e
    · rename_i hm
      obtain ⟨q, hq, rfl⟩ := List.mem_map.mp hm
      exact (r.own q (List.mem_append_right _ hq)).2.1
    · exact r.fv a o e
  · obtain ⟨h1, h2, h3⟩ := r.own q (List.mem_append_left _ hq)
    refine ⟨?_, h2, h3⟩
    (try dsimp only)
    rw [if_neg fun hm => nd3 q.1 (List.mem_map.mpr ⟨q, hq, rfl⟩) q.1 hm rfl]
    exact h1
  · have inF : ∀ q ∈ or, ∃ ho, H q.1 = some ho ∧ RO K V0 ho q.2 ∧ H1 q.1 = some ho ∧ V1 q.1 = none ∧ F q.1 = none := fun q hq => by
      obtain ⟨k1, k2, ho, k3, k4⟩ := r.own q (List.mem_append_right _ hq)
      have e : (if q.1 ∈ or.map (·.1) then H q.1 else F q.1) = some ho := by rw [if_pos (List.mem_map.mpr ⟨q, hq, rfl⟩)]; exact k3
      exact ⟨ho, k3, k4, r1.fr q.1 ho e, r1.fv q.1 ho e, k1⟩
    refine ⟨fun a o e => ?_, r1.vi, fun a o e => ?_, fun q hq => ?_, ?_⟩
    · by_cases hm : a ∈ or.map (·.1)
      · obtain ⟨q, hq, rfl⟩ := List.mem_map.mp hm
        obtain ⟨_, _, _, _, _, kf⟩ := inF q hq
        rw [kf] at e; cases e
      · exact r1.fr a o (by (try dsimp only); rw [if_neg hm]; exact e)
    · by_cases hm : a ∈ or.map (·.1)
      · obtain ⟨q, hq, rfl⟩ := List.mem_map.mp hm
        obtain ⟨_, _, _, _, kv, _⟩ := inF q hq
        exact kv
      · exact r1.fv a o (by (try dsimp only); rw [if_neg hm]; exact e)
    · rcases List.mem_append.mp hq with hq | hq
      · obtain ⟨k1, k2, k3⟩ := r1.own q hq
        refine ⟨?_, k2, k3⟩
        (try dsimp only at k1)
        split at k1
        · rename_i hm
          obtain ⟨q', hq', e⟩ := List.mem_map.mp hm
          obtain ⟨ho, e1, _⟩ := inF q' hq'
          rw [e, k1] at e1; cases e1
        · exact k1
      · obtain ⟨ho, k3, k4, k5, k6, k7⟩ := inF q hq
        exact ⟨k7, k6, ho, k5, k4.mono sv⟩
    · rw [List.map_append, List.nodup_append]
      refine ⟨r1.nd, nd2, fun a ha b hb e => ?_⟩
      subst e
      obtain ⟨q, hq, rfl⟩ := List.mem_map.mp ha
      obtain ⟨k1, _⟩ := r1.own q hq
      obtain ⟨q', hq', e⟩ := List.mem_map.mp hb
      obtain ⟨ho, e1, _⟩ := inF q' hq'
      (try dsimp only at k1)
      rw [if_pos hb] at k1
      rw [e, k1] at e1; cases e1
/-- data lists that are owned are shown for a while -/
theorem Rel.lend {K : PySem.W.Frag} {F V0 H : Hp} {os : Os} (r : Rel K F V0 os H) :
    ∃ F2 V2 : Hp, Same V0 V2 ∧ Rel K F2 V2 [] H ∧ (∀ a ds, (a, OO.lst (ds.map W.d)) ∈ os → Rp K V2 (.ref a) (.lst ds)) ∧
      ∀ (V1 : Hp) (H1 : Hp), Same V2 V1 → Rel K F2 V1 [] H1 → Rel K F V0 os H1 := by
  have ht : ∀ q ∈ os, F q.1 = none ∧ V0 q.1 = none := fun q hq => ⟨(r.own q hq).1, (r.own q hq).2.1⟩
  have sv : Same V0 (fun a => if a ∈ os.map (·.1) then H a else V0 a) := fun a o e => by
    (try dsimp only)
    rw [if_neg fun hm => by
      obtain ⟨q, hq, rfl⟩ := List.mem_map.mp hm
      rw [(ht q hq).2] at e; cases e]
    exact e
  refine ⟨F, fun a => if a ∈ os.map (·.1) then H a else V0 a, sv, ⟨r.fr, fun a o e => ?_, fun a o e => ?_, fun q hq => absurd hq (by simp), by simp⟩, fun a ds hm => ?_, fun V1 H1 s1 r1 => ?_⟩
  · (try dsimp only at e)
    split at e
    · exact e
    · exact r.vi a o e
  · (try dsimp only)
    rw [if_neg fun hm => by
      obtain ⟨q, hq, rfl⟩ := List.mem_map.mp hm
      rw [(ht q hq).1] at e; cases e]
    exact r.fv a o e
  · obtain ⟨_, _, ho, h3, vs, rfl, h4⟩ := r.own _ hm
    have e : (if a ∈ os.map (·.1) then H a else V0 a) = some (.lst vs) := by
      rw [if_pos (List.mem_map.mpr ⟨_, hm, rfl⟩)]; exact h3
    exact .lst (.inl (.inl e)) (RpA.mono sv h4.toA)
  · refine ⟨r1.fr, (sv.trans s1).trans r1.vi, r.fv, fun q hq => ?_, r.nd⟩
    obtain ⟨h1, h2, ho, h3, h4⟩ := r.own q hq
    refine ⟨h1, h2, ho, r1.vi _ _ (s1 _ _ ?_), h4⟩
    (try dsimp only)
    rw [if_pos (List.mem_map.mpr ⟨q, hq, rfl⟩)]; exact h3

/-- the frame's slots -/
abbrev DEnv := List (Option W)
def SR (K : PySem.W.Frag) (V0 : Hp) (σ : L2.St) (env : DEnv) : Prop := σ.length = env.length ∧ ∀ (i : Nat) (w : W), env[i]? = some (some w) → ∃ v : V, σ[i]? = some (some v) ∧ RW K V0 v w
theorem SR.mono {K : PySem.W.Frag} {V0 V1 : Hp} (e : Same V0 V1) {σ : L2.St} {env : DEnv} (h : SR K V0 σ env) : SR K V1 σ env :=
  ⟨h.1, fun i w q => let ⟨v, a, b⟩ := h.2 i w q; ⟨v, a, b.mono e⟩⟩
theorem SR.set {K : PySem.W.Frag} {V0 : Hp} {σ : L2.St} {env : DEnv} (h : SR K V0 σ env) {v : V} {w : W} (r : RW K V0 v w) (i : Nat) : SR K V0 (σ.set i (some v)) (env.set i (some w)) := by
  refine ⟨by rw [List.length_set, List.length_set]; exact h.1, fun j u q => ?_⟩
  by_cases e : i = j
  · subst e
    have hi : i < env.length := by
      have := (List.getElem?_eq_some_iff.mp q).1
      rw [List.length_set] at this; exact this
    rw [List.getElem?_set_self hi] at q
    cases q
    exact ⟨v, by rw [List.getElem?_set_self (by rw [h.1]; exact hi)], r⟩
  · rw [List.getElem?_set_ne e] at q ⊢
    exact h.2 j u q

/-! ### canonical readings -/
def wE (X : Cx) (e : Expr) : TE := fun σ H Q => ∀ (pins : List (Addr × Obj)) (s : Shared), Inv X pins σ H s → wpAny (model X.prog X.w) X.A (eval e X.env) (EP X pins σ Q) X.xe s
theorem wE_pe {X : Cx} {e : Expr} : PE X e (wE X e) := ⟨fun pins s _ _ _ I h => h pins s I⟩
theorem wE_of {X : Cx} {e : Expr} {t : TE} (h : PE X e t) {σ : L2.St} {H : Hp} {Q : VK} (q : t σ H Q) : wE X e σ H Q := fun pins s I => h.run pins s σ H Q I q
def wTt (X : Cx) (e : Expr) : TT := fun σ H Q => ∀ (pins : List (Addr × Obj)) (s : Shared), Inv X pins σ H s → wpAny (model X.prog X.w) X.A (isTrue e X.env (eval e X.env)) (TP X pins σ Q) X.xe s
theorem wTt_pt {X : Cx} {e : Expr} : PT X e (wTt X e) := ⟨fun pins s _ _ _ I h => h pins s I⟩
theorem wTt_of {X : Cx} {e : Expr} {t : TT} (h : PT X e t) {σ : L2.St} {H : Hp} {Q : Bool → Hp → Prop} (q : t σ H Q) : wTt X e σ H Q := fun pins s I => h.run pins s σ H Q I q
def wPW (X : Cx) (e : Expr) : TT := fun σ H Q => ∀ (whole : Sem Value) (pins : List (Addr × Obj)) (s : Shared), Inv X pins σ H s → wpAny (model X.prog X.w) X.A (isTrue e X.env whole) (TP X pins σ Q) X.xe s
theorem wPW_pw {X : Cx} {e : Expr} : PW X e (wPW X e) := ⟨fun wh pins s _ _ _ I h => h wh pins s I⟩
theorem wPW_of {X : Cx} {e : Expr} {t : TT} (h : PW X e t) {σ : L2.St} {H : Hp} {Q : Bool → Hp → Prop} (q : t σ H Q) : wPW X e σ H Q := fun wh pins s I => h.run wh pins s σ H Q I q
def wA (X : Cx) (es : List Expr) : TA := fun σ H Q => ∀ (pos : Pos) (pins : List (Addr × Obj)) (s : Shared), Inv X pins σ H s → wpAny (model X.prog X.w) X.A (spliced (backTo pos (starEach es X.env))) (AP X pins σ Q) X.xe s
theorem wA_pa {X : Cx} {es : List Expr} : PA X es (wA X es) := ⟨fun pos pins s _ _ _ I h => h pos pins s I⟩
theorem wA_of {X : Cx} {es : List Expr} {t : TA} (h : PA X es t) {σ : L2.St} {H : Hp} {Q : List V → Hp → Prop} (q : t σ H Q) : wA X es σ H Q := fun pos pins s I => h.run pos pins s σ H Q I q
def wS1 (X : Cx) (st : Stmt) : TS := fun D σ H => ∀ (pins : List (Addr × Obj)) (s : Shared), Inv X pins σ H s → wpAny (model X.prog X.w) X.A (exec st X.env) (SP X pins D) X.xe s
theorem wS1_ps {X : Cx} {st : Stmt} : PS X st (wS1 X st) := ⟨fun pins s _ _ _ I h => h pins s I⟩
theorem wS1_of {X : Cx} {st : Stmt} {t : TS} (h : PS X st t) {σ : L2.St} {H : Hp} {D : Ends} (q : t D σ H) : wS1 X st D σ H := fun pins s I => h.run pins s σ H D I q
def wSs (X : Cx) (sts : List Stmt) : TS := fun D σ H => ∀ (pins : List (Addr × Obj)) (s : Shared), Inv X pins σ H s → wpAny (model X.prog X.w) X.A (execs sts X.env) (SP X pins D) X.xe s
theorem wSs_pss {X : Cx} {sts : List Stmt} : PSs X sts (wSs X sts) := ⟨fun pins s _ _ _ I h => h pins s I⟩
theorem wSs_of {X : Cx} {sts : List Stmt} {t : TS} (h : PSs X sts t) {σ : L2.St} {H : Hp} {D : Ends} (q : t D σ H) : wSs X sts D σ H := fun pins s I => h.run pins s σ H D I q
def wG (X : Cx) (tg : Expr) : TG := fun v σ H Q => ∀ (pins : List (Addr × Obj)) (s : Shared) (u : Value), Inv X pins σ H s → RelV v u → wpAny (model X.prog X.w) X.A (assign tg X.env u) (fun _ s' => ∃ σ' H', Inv X pins σ' H' s' ∧ Q σ' H') X.xe s
theorem wG_pg {X : Cx} {tg : Expr} : PG X tg (wG X tg) := ⟨fun pins s _ _ _ u _ I r h => h pins s u I r⟩
theorem wG_of {X : Cx} {tg : Expr} {t : TG} (h : PG X tg t) {σ : L2.St} {H : Hp} {v : V} {Q : L2.St → Hp → Prop} (q : t v σ H Q) : wG X tg v σ H Q := fun pins s u I r => h.run pins s σ H v u Q I r q
def wGs (X : Cx) (tgs : List Expr) : TGs := fun vs σ H Q => ∀ (pins : List (Addr × Obj)) (s : Shared) (us : List Value), Inv X pins σ H s → Vals vs us → wpAny (model X.prog X.w) X.A (assignInOrder ((assignEach tgs X.env).map (·.2)) us) (fun _ s' => ∃ σ' H', Inv X pins σ' H' s' ∧ Q σ' H') X.xe s
theorem wGs_pgs {X : Cx} {tgs : List Expr} : PGs X tgs (wGs X tgs) := ⟨fun pins s _ _ _ us _ I r h => h pins s us I r⟩
theorem wGs_of {X : Cx} {tgs : List Expr} {t : TGs} (h : PGs X tgs t) {σ : L2.St} {H : Hp} {vs : List V} {Q : L2.St → Hp → Prop} (q : t vs σ H Q) : wGs X tgs vs σ H Q := fun pins s us I r => h.run pins s σ H vs us Q I r q
/-- a two-place operation on values -/
def wO (X : Cx) (f : Value → Value → Sem Value) : R2 := fun x y H Q => ∀ (pins : List (Addr × Obj)) (s : Shared) (σ : L2.St) (v u : Value), Inv X pins σ H s → RelV x v → RelV y u → wpAny (model X.prog X.w) X.A (f v u) (EP X pins σ Q) X.xe s
theorem wO_op {X : Cx} {f : Value → Value → Sem Value} : OpR X f (wO X f) := fun pins s σ _ _ _ v u _ I r1 r2 h => h pins s σ v u I r1 r2
theorem wO_of {X : Cx} {f : Value → Value → Sem Value} {r : R2} (h : OpR X f r) {x y : V} {H : Hp} {Q : VK} (q : r x y H Q) : wO X f x y H Q := fun pins s σ v u I r1 r2 => h pins s σ H x y v u Q I r1 r2 q
end DL

set_option Elab.async false
set_option linter.all false
set_option maxRecDepth 100000
/-! DL2: expressions over data. -/
namespace DL
open PySem PySem.Spec PyProof.Rows L2

theorem rwI {K : PySem.W.Frag} {H : Hp} {i : Int} : RW K H (.int i) (wI i) := Rp.int i
theorem rwB {K : PySem.W.Frag} {H : Hp} {i : Bool} : RW K H (.bl i) (wB i) := Rp.bl i
theorem rwS {K : PySem.W.Frag} {H : Hp} {i : Str} : RW K H (.str i) (wS i) := Rp.str i
theorem rwN {K : PySem.W.Frag} {H : Hp} : RW K H .non wN := Rp.non
/-! ### judgements -/
def XE (X : Cx) (e : Expr) (env : DEnv) (os : Os) (k : W → Os → Prop) : Prop :=
  ∀ (F V0 H : Hp) (σ : L2.St) (Q : VK), Rel X.K F V0 os H → SR X.K V0 σ env →
    (∀ (V1 : Hp) (os1 : Os) (H1 : Hp) (v : V) (w : W), Same V0 V1 → Rel X.K F V1 os1 H1 → RW X.K V1 v w → k w os1 → Q v H1) → wE X e σ H Q
def XT (X : Cx) (e : Expr) (env : DEnv) (os : Os) (k : Bool → Os → Prop) : Prop :=
  ∀ (F V0 H : Hp) (σ : L2.St) (Q : Bool → Hp → Prop), Rel X.K F V0 os H → SR X.K V0 σ env →
    (∀ (V1 : Hp) (os1 : Os) (H1 : Hp) (b : Bool), Same V0 V1 → Rel X.K F V1 os1 H1 → k b os1 → Q b H1) → wTt X e σ H Q
def XPW (X : Cx) (e : Expr) (env : DEnv) (os : Os) (k : Bool → Os → Prop) : Prop :=
  ∀ (F V0 H : Hp) (σ : L2.St) (Q : Bool → Hp → Prop), Rel X.K F V0 os H → SR X.K V0 σ env →
    (∀ (V1 : Hp) (os1 : Os) (H1 : Hp) (b : Bool), Same V0 V1 → Rel X.K F V1 os1 H1 → k b os1 → Q b H1) → wPW X e σ H Q
def XA (X : Cx) (es : List Expr) (env : DEnv) (os : Os) (k : List W → Os → Prop) : Prop :=
  ∀ (F V0 H : Hp) (σ : L2.St) (Q : List V → Hp → Prop), Rel X.K F V0 os H → SR X.K V0 σ env →
    (∀ (V1 : Hp) (os1 : Os) (H1 : Hp) (vs : List V) (ws : List W), Same V0 V1 → Rel X.K F V1 os1 H1 → RWs X.K V1 vs ws → k ws os1 → Q vs H1) → wA X es σ H Q
/-- a two-place operation by values -/
def XO (X : Cx) (f : Value → Value → Sem Value) (x y : W) (os : Os) (k : W → Os → Prop) : Prop :=
  ∀ (F V0 H : Hp) (v u : V) (Q : VK), Rel X.K F V0 os H → RW X.K V0 v x → RW X.K V0 u y →
    (∀ (V1 : Hp) (os1 : Os) (H1 : Hp) (z : V) (w : W), Same V0 V1 → Rel X.K F V1 os1 H1 → RW X.K V1 z w → k w os1 → Q z H1) → wO X f v u H Q

section
variable {X : Cx} {env : DEnv} {os : Os} {k : W → Os → Prop} {kb : Bool → Os → Prop} {pos : Pos} {a b c e : Expr}

/-- an expression whose reading is given, the value known -/
theorem xe_pure {t : TE} {w : W} (h : PE X e t) (hr : ∀ (F V0 H : Hp) (σ : L2.St) (Q : VK), Rel X.K F V0 os H → SR X.K V0 σ env → (∀ v, RW X.K V0 v w → Q v H) → t σ H Q) (q : k w os) : XE X e env os k :=
  fun F V0 H σ Q r sr c => wE_of h (hr F V0 H σ Q r sr fun v rv => c V0 os H v w (Same.refl _) r rv q)
theorem xe_name {i : Nat} {x : Str} {w : W} (hN : X.N[i]? = some x) (hv : Vis X.env.scope x) (he : env[i]? = some (some w)) (q : k w os) (hd : (x == ("__debug__" : Str)) = false := by decide)
    (hcd : (x == ("__classdict__" : Str)) = false := by decide) : XE X (.Name x pos) env os k :=
  xe_pure (w := w) (pe_var hN hv hd hcd) (fun F V0 H σ Q r sr c => by
    obtain ⟨v, e1, r1⟩ := sr.2 i w he
    exact ⟨v, e1, c v r1⟩) q
theorem xe_int {i : Int} {j} (q : k (wI i) os) : XE X (.Constant (.int i) j pos) env os k := xe_pure (w := wI i) pe_int (fun _ _ _ _ _ _ _ c => c _ rwI) q
theorem xe_str {x : Str} {j} (q : k (wS x) os) : XE X (.Constant (.str x) j pos) env os k := xe_pure (w := wS x) pe_str (fun _ _ _ _ _ _ _ c => c _ rwS) q
theorem xe_bl {x : Bool} {j} (q : k (wB x) os) : XE X (.Constant (.bool x) j pos) env os k := xe_pure (w := wB x) pe_bl (fun _ _ _ _ _ _ _ c => c _ rwB) q
theorem xe_non {j} (q : k wN os) : XE X (.Constant .none j pos) env os k := xe_pure (w := wN) pe_non (fun _ _ _ _ _ _ _ c => c _ rwN) q
/-- a constant of the module -/
structure Glb (K : PySem.W.Frag) (mg : Str → Option Value) (x : Str) (d : D) : Prop where
  ex : ∃ (v : V) (u : Value), mg x = some u ∧ RelV v u ∧ ∀ V0 : Hp, Rp K V0 v d
theorem xe_glob {x : Str} {d : D} (g : Glb X.K X.mg x d) (hg : Gl X x) (q : k (.d d) os) (hd : (x == ("__debug__" : Str)) = false := by decide) : XE X (.Name x pos) env os k := by
  obtain ⟨v, u, h1, h2, h3⟩ := g.ex
  exact xe_pure (w := .d d) (pe_glob hg h1 h2 hd) (fun _ V0 _ _ _ _ _ c => c _ (h3 V0)) q

/-! ### operators -/
theorem xe_bin {op : Operator} (h : XE X a env os fun x os1 => XE X b env os1 fun y os2 => XO X (binaryOp op) x y os2 k) : XE X (.BinOp a op b pos) env os k := by
  intro F V0 H σ Q r sr c
  refine wE_of (pe_op (r := wO X (binaryOp op)) wO_op wE_pe wE_pe) ?_
  refine h F V0 H σ _ r sr fun V1 os1 H1 v x s1 r1 rx hx => ?_
  refine hx F V1 H1 σ _ r1 (sr.mono s1) fun V2 os2 H2 u y s2 r2 ry hy => ?_
  exact hy F V2 H2 v u Q r2 (rx.mono s2) ry fun V3 os3 H3 z w s3 r3 rw' q => c V3 os3 H3 z w ((s1.trans s2).trans s3) r3 rw' q
theorem xe_cmp {op : CmpOp} (h : XE X a env os fun x os1 => XE X b env os1 fun y os2 => XO X (compareOp op) x y os2 k) (hm : behindInMarks op b = false) : XE X (.Compare a [op] [b] pos) env os k := by
  intro F V0 H σ Q r sr c
  refine wE_of (pe_cmpR (r := wO X (compareOp op)) wO_op wE_pe wE_pe hm) ?_
  refine h F V0 H σ _ r sr fun V1 os1 H1 v x s1 r1 rx hx => ?_
  refine hx F V1 H1 σ _ r1 (sr.mono s1) fun V2 os2 H2 u y s2 r2 ry hy => ?_
  exact hy F V2 H2 v u Q r2 (rx.mono s2) ry fun V3 os3 H3 z w s3 r3 rw' q => c V3 os3 H3 z w ((s1.trans s2).trans s3) r3 rw' q
theorem xt_cmp {op : CmpOp} (h : XE X a env os fun x os1 => XE X b env os1 fun y os2 => XO X (compareOp op) x y os2 fun w os3 => ∃ b, w = wB b ∧ kb b os3) (hm : behindInMarks op b = false) : XT X (.Compare a [op] [b] pos) env os kb := by
  intro F V0 H σ Q r sr c
  refine wTt_of (pt_cmpR (r := wO X (compareOp op)) wO_op wE_pe wE_pe hm) ?_
  refine h F V0 H σ _ r sr fun V1 os1 H1 v x s1 r1 rx hx => ?_
  refine hx F V1 H1 σ _ r1 (sr.mono s1) fun V2 os2 H2 u y s2 r2 ry hy => ?_
  refine hy F V2 H2 v u _ r2 (rx.mono s2) ry fun V3 os3 H3 z w s3 r3 rw' ⟨bo, e, q⟩ => ?_
  subst e
  cases rw'
  exact ⟨bo, rfl, c V3 os3 H3 bo ((s1.trans s2).trans s3) r3 q⟩
/-- a op1 b op2 c as a test -/
theorem xt_chain {op op' : CmpOp} (h : XE X a env os fun x os1 => XE X b env os1 fun y os2 => XO X (compareOp op) x y os2 fun w os3 => ∃ b1, w = wB b1 ∧
      (b1 = true → XE X c env os3 fun z os4 => XO X (compareOp op') y z os4 fun w' os5 => ∃ b2, w' = wB b2 ∧ kb b2 os5) ∧ (b1 = false → kb false os3))
    (hm : lastMarks [op, op'] [b, c] = false := by rfl) : XT X (.Compare a [op, op'] [b, c] pos) env os kb := by
  intro F V0 H σ Q r sr cc
  refine wTt_of (pt_chain (r := wO X (compareOp op)) (r' := wO X (compareOp op')) wO_op wO_op wE_pe wE_pe wE_pe hm) ?_
  refine h F V0 H σ _ r sr fun V1 os1 H1 v x s1 r1 rx hx => ?_
  refine hx F V1 H1 σ _ r1 (sr.mono s1) fun V2 os2 H2 u y s2 r2 ry hy => ?_
  refine hy F V2 H2 v u _ r2 (rx.mono s2) ry fun V3 os3 H3 z w s3 r3 rw' ⟨bo, e, q1, q2⟩ => ?_
  subst e
  cases rw'
  refine ⟨bo, rfl, ?_⟩
  cases bo with
  | false => exact iteF ⟨false, rfl, cc V3 os3 H3 false ((s1.trans s2).trans s3) r3 (q2 rfl)⟩
  | true =>
    refine iteT ?_
    refine q1 rfl F V3 H3 σ _ r3 (sr.mono ((s1.trans s2).trans s3)) fun V4 os4 H4 v4 z4 s4 r4 rz hz => ?_
    refine hz F V4 H4 u v4 _ r4 (ry.mono (s3.trans s4)) rz fun V5 os5 H5 z5 w5 s5 r5 rw5 ⟨bo2, e2, q3⟩ => ?_
    subst e2
    cases rw5
    exact ⟨bo2, rfl, cc V5 os5 H5 bo2 ((((s1.trans s2).trans s3).trans s4).trans s5) r5 q3⟩

theorem XO.mk {f : Value → Value → Sem Value} {r : R2} {x y : W} (hf : OpR X f r)
    (h : ∀ (F V0 H : Hp) (v u : V) (Q : VK), Rel X.K F V0 os H → RW X.K V0 v x → RW X.K V0 u y →
      (∀ (V1 : Hp) (os1 : Os) (H1 : Hp) (z : V) (w : W), Same V0 V1 → Rel X.K F V1 os1 H1 → RW X.K V1 z w → k w os1 → Q z H1) → r v u H Q) : XO X f x y os k :=
  fun F V0 H v u Q r1 rx ry c => wO_of hf (h F V0 H v u Q r1 rx ry c)
theorem xo_rI {f : Value → Value → Sem Value} {C : Int → Int → Prop} {g : Int → Int → Int} {i j : Int} (hf : OpR X f (rI C fun i j => .int (g i j))) (hc : C i j) (q : k (wI (g i j)) os) : XO X f (wI i) (wI j) os k :=
  XO.mk hf fun F V0 H v u Q r rx ry c => by
    cases rx; cases ry
    exact ⟨i, j, rfl, rfl, hc, c V0 os H _ _ (Same.refl _) r rwI q⟩
theorem xo_rI0 {f : Value → Value → Sem Value} {g : Int → Int → Int} {i j : Int} (hf : OpR X f (rI0 fun i j => .int (g i j))) (q : k (wI (g i j)) os) : XO X f (wI i) (wI j) os k :=
  XO.mk hf fun F V0 H v u Q r rx ry c => by
    cases rx; cases ry
    exact ⟨i, j, rfl, rfl, c V0 os H _ _ (Same.refl _) r rwI q⟩
theorem xo_rB0 {f : Value → Value → Sem Value} {g : Int → Int → Bool} {i j : Int} (hf : OpR X f (rI0 fun i j => .bl (g i j))) (q : k (wB (g i j)) os) : XO X f (wI i) (wI j) os k :=
  XO.mk hf fun F V0 H v u Q r rx ry c => by
    cases rx; cases ry
    exact ⟨i, j, rfl, rfl, c V0 os H _ _ (Same.refl _) r rwB q⟩
variable {i j : Int} {x y : Str}
theorem xo_add (q : k (wI (i + j)) os) : XO X (binaryOp .Add) (wI i) (wI j) os k := xo_rI0 op_add q
theorem xo_sub (q : k (wI (i - j)) os) : XO X (binaryOp .Sub) (wI i) (wI j) os k := xo_rI0 op_sub q
theorem xo_mul (h : CMul i j) (q : k (wI (i * j)) os) : XO X (binaryOp .Mult) (wI i) (wI j) os k := xo_rI op_mul h q
theorem xo_mulW (h : CMulW i j) (q : k (wI (i * j)) os) : XO X (binaryOp .Mult) (wI i) (wI j) os k := xo_rI op_mulW h q
theorem xo_fdiv (h : CDiv i j) (q : k (wI (i / j)) os) : XO X (binaryOp .FloorDiv) (wI i) (wI j) os k := xo_rI op_fdiv h q
theorem xo_fdivW (h : CDivW i j) (q : k (wI (i / j)) os) : XO X (binaryOp .FloorDiv) (wI i) (wI j) os k := xo_rI op_fdivW h q
theorem xo_mod (h : 0 < j) (q : k (wI (i % j)) os) : XO X (binaryOp .Mod) (wI i) (wI j) os k := xo_rI op_mod h q
theorem xo_pow (h : CPow i j) (q : k (wI (i ^ j.toNat)) os) : XO X (binaryOp .Pow) (wI i) (wI j) os k := xo_rI op_pow h q
theorem xo_shl (h : CPow i j) (q : k (wI (i * 2 ^ j.toNat)) os) : XO X (binaryOp .LShift) (wI i) (wI j) os k := xo_rI op_shl h q
theorem xo_shr (h : 0 ≤ j) (q : k (wI (i / 2 ^ j.toNat)) os) : XO X (binaryOp .RShift) (wI i) (wI j) os k := xo_rI op_shr h q
theorem xo_and (q : k (wI (Builtin.bitAnd i j)) os) : XO X (binaryOp .BitAnd) (wI i) (wI j) os k := xo_rI0 op_and q
theorem xo_or (q : k (wI (Builtin.bitOr i j)) os) : XO X (binaryOp .BitOr) (wI i) (wI j) os k := xo_rI0 op_or q
theorem xo_xor (q : k (wI (Builtin.bitXor i j)) os) : XO X (binaryOp .BitXor) (wI i) (wI j) os k := xo_rI0 op_xor q
theorem xo_addS (h : x.length + y.length ≤ sizeLine) (q : k (wS (x ++ y)) os) : XO X (binaryOp .Add) (wS x) (wS y) os k :=
  XO.mk op_add_str fun F V0 H v u Q r rx ry c => by
    cases rx; cases ry
    exact ⟨x, y, rfl, rfl, h, c V0 os H _ _ (Same.refl _) r rwS q⟩
/-- the list behind an address or in data -/
theorem rp_lst {K : PySem.W.Frag} {V0 : Hp} {v : V} {ds : List D} (h : Rp K V0 v (.lst ds)) : ∃ a xs, v = .ref a ∧ SqL K V0 a xs ∧ RpA K V0 xs ds := by
  cases h with
  | lst h1 h2 => exact ⟨_, _, rfl, h1, h2⟩
theorem rp_tup {K : PySem.W.Frag} {V0 : Hp} {v : V} {ds : List D} (h : Rp K V0 v (.tup ds)) : ∃ a xs, v = .ref a ∧ SqT K V0 a xs ∧ RpA K V0 xs ds := by
  cases h with
  | tup h1 h2 => exact ⟨_, _, rfl, h1, h2⟩

/-! ### comparisons -/
theorem xo_lt (q : k (wB (decide (i < j))) os) : XO X (compareOp .Lt) (wI i) (wI j) os k := xo_rB0 op_lt q
theorem xo_le (q : k (wB (decide (i ≤ j))) os) : XO X (compareOp .LtE) (wI i) (wI j) os k := xo_rB0 op_le q
theorem xo_gt (q : k (wB (decide (j < i))) os) : XO X (compareOp .Gt) (wI i) (wI j) os k := xo_rB0 op_gt q
theorem xo_ge (q : k (wB (decide (j ≤ i))) os) : XO X (compareOp .GtE) (wI i) (wI j) os k := xo_rB0 op_ge q
/-- data that == tells apart by their value -/
def scalD : D → V
  | .non => .non | .bl b => .bl b | .int i => .int i | .str x => .str x | .ty n => .ty n | _ => .flt 0
def isScal : D → Bool
  | .non => true | .bl _ => true | .int _ => true | .str _ => true | _ => false
theorem rp_scal {K : PySem.W.Frag} {V0 : Hp} {v : V} : ∀ {d : D}, isScal d = true → Rp K V0 v d → v = scalD d
  | .non, _, h => by cases h; rfl
  | .bl _, _, h => by cases h; rfl
  | .int _, _, h => by cases h; rfl
  | .str _, _, h => by cases h; rfl
theorem xo_eqS {d1 d2 : D} (h1 : isScal d1 = true) (h2 : isScal d2 = true) (h : scal (scalD d1) (scalD d2) = true) (q : k (wB (decide (scalD d1 = scalD d2))) os) : XO X (compareOp .Eq) (.d d1) (.d d2) os k :=
  XO.mk op_eq fun F V0 H v u Q r rx ry c => by
    have e1 := rp_scal h1 rx
    have e2 := rp_scal h2 ry
    subst e1 e2
    exact ⟨h, c V0 os H _ _ (Same.refl _) r rwB q⟩
theorem xo_neS {d1 d2 : D} (h1 : isScal d1 = true) (h2 : isScal d2 = true) (h : scal (scalD d1) (scalD d2) = true) (q : k (wB (!decide (scalD d1 = scalD d2))) os) : XO X (compareOp .NotEq) (.d d1) (.d d2) os k :=
  XO.mk op_ne fun F V0 H v u Q r rx ry c => by
    have e1 := rp_scal h1 rx
    have e2 := rp_scal h2 ry
    subst e1 e2
    exact ⟨h, c V0 os H _ _ (Same.refl _) r rwB q⟩
theorem xo_eqI (q : k (wB (decide (i = j))) os) : XO X (compareOp .Eq) (wI i) (wI j) os k := xo_eqS rfl rfl rfl (by
  rw [show decide (scalD (.int i) = scalD (.int j)) = decide (i = j) from decide_eq_decide.mpr ⟨fun h => V.int.inj h, fun h => congrArg V.int h⟩]; exact q)
theorem xo_neI (q : k (wB (decide (i ≠ j))) os) : XO X (compareOp .NotEq) (wI i) (wI j) os k := xo_neS rfl rfl rfl (by
  rw [show decide (scalD (.int i) = scalD (.int j)) = decide (i = j) from decide_eq_decide.mpr ⟨fun h => V.int.inj h, fun h => congrArg V.int h⟩, ← decide_not]; exact q)
theorem xo_eqStr (q : k (wB (decide (x = y))) os) : XO X (compareOp .Eq) (wS x) (wS y) os k := xo_eqS rfl rfl rfl (by
  rw [show decide (scalD (.str x) = scalD (.str y)) = decide (x = y) from decide_eq_decide.mpr ⟨fun h => V.str.inj h, fun h => congrArg V.str h⟩]; exact q)
theorem xo_neStr (q : k (wB (decide (x ≠ y))) os) : XO X (compareOp .NotEq) (wS x) (wS y) os k := xo_neS rfl rfl rfl (by
  rw [show decide (scalD (.str x) = scalD (.str y)) = decide (x = y) from decide_eq_decide.mpr ⟨fun h => V.str.inj h, fun h => congrArg V.str h⟩, ← decide_not]; exact q)
/-- is None -/
@[reducible] def isNonD : W → Bool
  | .d .non => true | _ => false
theorem rw_non {K : PySem.W.Frag} {V0 : Hp} {v : V} : ∀ {w : W}, RW K V0 v w → decide (v = .non) = isNonD w
  | .d .non, h => by cases h; rfl
  | .d (.bl _), h => by cases h; rfl
  | .d (.int _), h => by cases h; rfl
  | .d (.str _), h => by cases h; rfl
  | .d (.ty _), h => by cases h; rfl
  | .d (.tup _), h => by cases h; rfl
  | .d (.lst _), h => by cases h; rfl
  | .ref _, h => by
    have e : v = .ref _ := h
    subst e; rfl
theorem xo_isN {w : W} (q : k (wB (isNonD w)) os) : XO X (compareOp .Is) w wN os k :=
  XO.mk op_isN fun F V0 H v u Q r rx ry c => by
    cases ry
    exact ⟨rfl, by rw [rw_non rx]; exact c V0 os H _ _ (Same.refl _) r rwB q⟩
theorem xo_notN {w : W} (q : k (wB (!isNonD w)) os) : XO X (compareOp .IsNot) w wN os k :=
  XO.mk op_notN fun F V0 H v u Q r rx ry c => by
    cases ry
    exact ⟨rfl, by rw [rw_non rx]; exact c V0 os H _ _ (Same.refl _) r rwB q⟩

/-! ### unary -/
theorem xe_neg (h : XE X a env os fun x os1 => ∃ i, x = wI i ∧ k (wI (-i)) os1) : XE X (.UnaryOp .USub a pos) env os k := by
  intro F V0 H σ Q r sr c
  refine wE_of (pe_un un_neg wE_pe) ?_
  refine h F V0 H σ _ r sr fun V1 os1 H1 v x s1 r1 rx ⟨i, e, q⟩ => ?_
  subst e
  cases rx
  exact ⟨i, rfl, c V1 os1 H1 _ _ s1 r1 rwI q⟩
theorem xe_not (h : XT X a env os fun b os1 => k (wB (!b)) os1) (he : ∀ e : Expr, True := by intro; trivial) (hv : PE X (.UnaryOp .Not a pos) (fun σ H Q => wTt X a σ H fun b H1 => Q (.bl (!b)) H1)) : XE X (.UnaryOp .Not a pos) env os k := by
  intro F V0 H σ Q r sr c
  refine wE_of hv ?_
  exact h F V0 H σ _ r sr fun V1 os1 H1 b s1 r1 q => c V1 os1 H1 _ _ s1 r1 rwB q

/-! ### tests -/
theorem xt_val (h : XE X e env os fun w os1 => ∃ b, w = wB b ∧ kb b os1) (he : ∀ whole, isTrue e X.env whole = (do let v ← whole; standAt e.pos; holding [v] (truthy v)) := by intro _; rfl) : XT X e env os kb := by
  intro F V0 H σ Q r sr c
  refine wTt_of (pt_val wE_pe he) ?_
  refine h F V0 H σ _ r sr fun V1 os1 H1 v x s1 r1 rx ⟨b, e1, q⟩ => ?_
  subst e1
  cases rx
  exact ⟨b, rfl, c V1 os1 H1 b s1 r1 q⟩
/-- truth of any value -/
def truD : D → Option Bool
  | .non => some false | .bl b => some b | .int i => some (i != 0) | .str x => if x.length ≤ sizeLine then some ((x.length : Int) != 0) else none
  | .lst ds => some (!ds.isEmpty) | .tup ds => some (!ds.isEmpty) | _ => none
def truW (os : Os) (w : W) (b : Bool) : Prop := match w with
  | .d d => truD d = some b
  | .ref a => ∃ ws, (a, OO.lst ws) ∈ os ∧ b = !ws.isEmpty
theorem isE {α β : Type} {xs : List α} {ys : List β} (h : xs.length = ys.length) : (!xs.isEmpty) = !ys.isEmpty := by
  cases xs <;> cases ys <;> simp_all
theorem truV_of {K : PySem.W.Frag} {F V0 H : Hp} {v : V} {w : W} {b : Bool} (r : Rel K F V0 os H) (rv : RW K V0 v w) (t : truW os w b) : TruV K v H b := by
  cases w with
  | d d =>
    have t : truD d = some b := t
    cases d with
    | non => cases rv; exact (Option.some.inj t).symm
    | bl _ => cases rv; exact (Option.some.inj t).symm
    | int _ => cases rv; exact (Option.some.inj t).symm
    | str z =>
      cases rv
      have t : (if z.length ≤ sizeLine then some ((z.length : Int) != 0) else none) = some b := t
      by_cases hz : z.length ≤ sizeLine
      · rw [if_pos hz] at t; exact ⟨hz, (Option.some.inj t).symm⟩
      · rw [if_neg hz] at t; cases t
    | ty _ => cases t
    | tup ds =>
      obtain ⟨p, xs, rfl, h1, h2⟩ := rp_tup rv
      exact .inr (.inl ⟨xs, same_sqT r.vi h1, by rw [isE h2.length]; exact (Option.some.inj t).symm⟩)
    | lst ds =>
      obtain ⟨p, xs, rfl, h1, h2⟩ := rp_lst rv
      exact .inl ⟨xs, r.vi.seq h1, by rw [isE h2.length]; exact (Option.some.inj t).symm⟩
  | ref p =>
    have e : v = .ref p := rv
    subst e
    obtain ⟨ws, hm, e⟩ := t
    obtain ⟨_, _, ho, h3, vs, rfl, h4⟩ := r.own _ hm
    exact .inl ⟨vs, SqL.of h3, by rw [isE h4.len]; exact e⟩
theorem xt_truth (h : XE X e env os fun w os1 => ∃ b, truW os1 w b ∧ kb b os1) (he : ∀ whole, isTrue e X.env whole = (do let v ← whole; standAt e.pos; holding [v] (truthy v)) := by intro _; rfl) : XT X e env os kb := by
  intro F V0 H σ Q r sr c
  refine wTt_of (pt_truth wE_pe he) ?_
  refine h F V0 H σ _ r sr fun V1 os1 H1 v x s1 r1 rx ⟨b, e1, q⟩ => ?_
  exact ⟨b, truV_of r1 rx e1, c V1 os1 H1 b s1 r1 q⟩
theorem xt_not (h : XT X a env os fun b os1 => kb (!b) os1) : XT X (.UnaryOp .Not a pos) env os kb := by
  intro F V0 H σ Q r sr c
  refine wTt_of (pt_not wTt_pt) ?_
  exact h F V0 H σ _ r sr fun V1 os1 H1 b s1 r1 q => c V1 os1 H1 (!b) s1 r1 q
variable {rest : List Expr}
theorem xt_pw (h : XPW X e env os kb) : XT X e env os kb := fun F V0 H σ Q r sr c => wTt_of wPW_pw.pt (h F V0 H σ Q r sr c)
theorem xpw_and1 (h : XT X a env os kb) : XPW X (.BoolOp .And [a] pos) env os kb := fun F V0 H σ Q r sr c => wPW_of (pw_and1 wTt_pt) (h F V0 H σ Q r sr c)
theorem xpw_or1 (h : XT X a env os kb) : XPW X (.BoolOp .Or [a] pos) env os kb := fun F V0 H σ Q r sr c => wPW_of (pw_or1 wTt_pt) (h F V0 H σ Q r sr c)
theorem xpw_and (h : XT X a env os fun b1 os1 => (b1 = true → XPW X (.BoolOp .And (b :: rest) pos) env os1 kb) ∧ (b1 = false → kb false os1)) : XPW X (.BoolOp .And (a :: b :: rest) pos) env os kb := by
  intro F V0 H σ Q r sr c
  refine wPW_of (pw_and wTt_pt wPW_pw) ?_
  refine h F V0 H σ _ r sr fun V1 os1 H1 b1 s1 r1 q => ?_
  cases b1 with
  | false => exact iteF (c V1 os1 H1 false s1 r1 (q.2 rfl))
  | true => exact iteT (q.1 rfl F V1 H1 σ Q r1 (sr.mono s1) fun V2 os2 H2 b2 s2 r2 q2 => c V2 os2 H2 b2 (s1.trans s2) r2 q2)
theorem xpw_or (h : XT X a env os fun b1 os1 => (b1 = false → XPW X (.BoolOp .Or (b :: rest) pos) env os1 kb) ∧ (b1 = true → kb true os1)) : XPW X (.BoolOp .Or (a :: b :: rest) pos) env os kb := by
  intro F V0 H σ Q r sr c
  refine wPW_of (pw_or wTt_pt wPW_pw) ?_
  refine h F V0 H σ _ r sr fun V1 os1 H1 b1 s1 r1 q => ?_
  cases b1 with
  | true => exact iteT (c V1 os1 H1 true s1 r1 (q.2 rfl))
  | false => exact iteF (q.1 rfl F V1 H1 σ Q r1 (sr.mono s1) fun V2 os2 H2 b2 s2 r2 q2 => c V2 os2 H2 b2 (s1.trans s2) r2 q2)
/-- bools as values -/
theorem xe_one {op} (h : XE X a env os k) : XE X (.BoolOp op [a] pos) env os k := fun F V0 H σ Q r sr c => wE_of (pe_one wE_pe) (h F V0 H σ Q r sr c)
theorem xe_and (h : XE X a env os fun w os1 => ∃ b1, w = wB b1 ∧ (b1 = true → XE X (.BoolOp .And (b :: rest) pos) env os1 k) ∧ (b1 = false → k (wB false) os1)) : XE X (.BoolOp .And (a :: b :: rest) pos) env os k := by
  intro F V0 H σ Q r sr c
  refine wE_of (pe_and wE_pe wE_pe) ?_
  refine h F V0 H σ _ r sr fun V1 os1 H1 v w s1 r1 rv ⟨b1, e, q⟩ => ?_
  subst e
  cases rv
  refine ⟨b1, rfl, ?_⟩
  cases b1 with
  | false => exact iteF (c V1 os1 H1 _ _ s1 r1 rwB (q.2 rfl))
  | true => exact iteT (q.1 rfl F V1 H1 σ Q r1 (sr.mono s1) fun V2 os2 H2 z w s2 r2 rz q2 => c V2 os2 H2 z w (s1.trans s2) r2 rz q2)
theorem xe_or (h : XE X a env os fun w os1 => ∃ b1, w = wB b1 ∧ (b1 = false → XE X (.BoolOp .Or (b :: rest) pos) env os1 k) ∧ (b1 = true → k (wB true) os1)) : XE X (.BoolOp .Or (a :: b :: rest) pos) env os k := by
  intro F V0 H σ Q r sr c
  refine wE_of (pe_or wE_pe wE_pe) ?_
  refine h F V0 H σ _ r sr fun V1 os1 H1 v w s1 r1 rv ⟨b1, e, q⟩ => ?_
  subst e
  cases rv
  refine ⟨b1, rfl, ?_⟩
  cases b1 with
  | true => exact iteT (c V1 os1 H1 _ _ s1 r1 rwB (q.2 rfl))
  | false => exact iteF (q.1 rfl F V1 H1 σ Q r1 (sr.mono s1) fun V2 os2 H2 z w s2 r2 rz q2 => c V2 os2 H2 z w (s1.trans s2) r2 rz q2)
theorem xe_notV (h : XE X a env os fun w os1 => ∃ b1, w = wB b1 ∧ k (wB (!b1)) os1) : XE X (.UnaryOp .Not a pos) env os k := by
  intro F V0 H σ Q r sr c
  refine wE_of (pe_not wE_pe) ?_
  refine h F V0 H σ _ r sr fun V1 os1 H1 v w s1 r1 rv ⟨b1, e, q⟩ => ?_
  subst e
  cases rv
  exact ⟨b1, rfl, c V1 os1 H1 _ _ s1 r1 rwB q⟩
theorem xe_ifExp (h : XT X c env os fun b1 os1 => (b1 = true → XE X a env os1 k) ∧ (b1 = false → XE X b env os1 k)) : XE X (.IfExp c a b pos) env os k := by
  intro F V0 H σ Q r sr cc
  refine wE_of (pe_ifExp wTt_pt wE_pe wE_pe) ?_
  refine h F V0 H σ _ r sr fun V1 os1 H1 b1 s1 r1 q => ?_
  cases b1 with
  | true => exact iteT (q.1 rfl F V1 H1 σ Q r1 (sr.mono s1) fun V2 os2 H2 z w s2 r2 rz q2 => cc V2 os2 H2 z w (s1.trans s2) r2 rz q2)
  | false => exact iteF (q.2 rfl F V1 H1 σ Q r1 (sr.mono s1) fun V2 os2 H2 z w s2 r2 rz q2 => cc V2 os2 H2 z w (s1.trans s2) r2 rz q2)

/-! ### displays, arguments -/
variable {es : List Expr} {kl : List W → Os → Prop}
theorem xa_nil (q : kl [] os) : XA X [] env os kl := fun F V0 H σ Q r sr c => wA_of pa_nil (c V0 os H [] [] (Same.refl _) r .nil q)
theorem xa_cons (h : XE X e env os fun w os1 => XA X es env os1 fun ws os2 => kl (w :: ws) os2) (hs : starEach (e :: es) X.env = (false, eval e X.env) :: starEach es X.env := by rfl) : XA X (e :: es) env os kl := by
  intro F V0 H σ Q r sr c
  refine wA_of (pa_cons wE_pe wA_pa hs) ?_
  refine h F V0 H σ _ r sr fun V1 os1 H1 v w s1 r1 rv q => ?_
  exact q F V1 H1 σ _ r1 (sr.mono s1) fun V2 os2 H2 vs ws s2 r2 rs q2 => c V2 os2 H2 (v :: vs) (w :: ws) (s1.trans s2) r2 (.cons (rv.mono s2) rs) q2
/-- a new tuple, a new list, of data -/
theorem rel_newT {K : PySem.W.Frag} {F V0 H : Hp} {p : Addr} {vs : List V} {ds : List D} (r : Rel K F V0 os H) (hp : H p = none) (rs : RpA K V0 vs ds) :
    Same V0 (upd V0 p (.tup vs)) ∧ Rel K F (upd V0 p (.tup vs)) os (upd H p (.tup vs)) ∧ Rp K (upd V0 p (.tup vs)) (.ref p) (.tup ds) :=
  have s := same_upd (o := .tup vs) (r.vi.free hp)
  ⟨s, r.addV hp _, .tup (.inl (.inl upd_same)) (RpA.mono s rs)⟩
theorem rel_newL {K : PySem.W.Frag} {F V0 H : Hp} {p : Addr} {vs : List V} {ds : List D} (r : Rel K F V0 os H) (hp : H p = none) (rs : RpA K V0 vs ds) :
    Same V0 (upd V0 p (.lst vs)) ∧ Rel K F (upd V0 p (.lst vs)) os (upd H p (.lst vs)) ∧ Rp K (upd V0 p (.lst vs)) (.ref p) (.lst ds) :=
  have s := same_upd (o := .lst vs) (r.vi.free hp)
  ⟨s, r.addV hp _, .lst (.inl (.inl upd_same)) (RpA.mono s rs)⟩
theorem xe_tup {x1} (h : XA X es env os fun ws os1 => ∃ ds : List D, ws = ds.map W.d ∧ ds.length ≤ sizeLine ∧ k (wT ds) os1) : XE X (.Tuple es x1 pos) env os k := by
  intro F V0 H σ Q r sr c
  refine wE_of (pe_tup wA_pa) ?_
  refine h F V0 H σ _ r sr fun V1 os1 H1 vs ws s1 r1 rs ⟨ds, e, hl, q⟩ => ?_
  subst e
  have ra := rs.toA
  refine ⟨by rw [ra.length]; exact hl, fun p hp => ?_⟩
  obtain ⟨s2, r2, rp⟩ := rel_newT r1 hp ra
  exact c _ os1 _ _ (wT ds) (s1.trans s2) r2 rp q
theorem xe_lst (h : XA X es env os fun ws os1 => ∃ ds : List D, ws = ds.map W.d ∧ ds.length ≤ sizeLine ∧ k (wL ds) os1) : XE X (.List es pos) env os k := by
  intro F V0 H σ Q r sr c
  refine wE_of (pe_lst wA_pa) ?_
  refine h F V0 H σ _ r sr fun V1 os1 H1 vs ws s1 r1 rs ⟨ds, e, hl, q⟩ => ?_
  subst e
  have ra := rs.toA
  refine ⟨by rw [ra.length]; exact hl, fun p hp => ?_⟩
  obtain ⟨s2, r2, rp⟩ := rel_newL r1 hp ra
  exact c _ os1 _ _ (wL ds) (s1.trans s2) r2 rp q
/-- a new list that is owned -/
theorem xe_lstO (h : XA X es env os fun ws os1 => ws.length ≤ sizeLine ∧ ∀ p, k (.ref p) ((p, .lst ws) :: os1)) : XE X (.List es pos) env os k := by
  intro F V0 H σ Q r sr c
  refine wE_of (pe_lst wA_pa) ?_
  refine h F V0 H σ _ r sr fun V1 os1 H1 vs ws s1 r1 rs ⟨hl, q⟩ => ?_
  refine ⟨by rw [rs.len]; exact hl, fun p hp => ?_⟩
  exact c V1 _ _ _ (.ref p) s1 (r1.addO hp (oo := .lst ws) ⟨vs, rfl, rs⟩) rfl (q p)
end
end DL

set_option Elab.async false
set_option linter.all false
set_option maxRecDepth 100000
/-! DL3: subscripts, calls, statements, loops, a def's promise. -/
namespace DL
open PySem PySem.Spec PyProof.Rows L2

section
variable {X : Cx} {env : DEnv} {os : Os} {k : W → Os → Prop} {kb : Bool → Os → Prop} {pos : Pos} {a b c e : Expr}
/-! ### subscripts -/
def wIx (X : Cx) : R2 := fun x y H Q => ∀ (value slice : Expr) (pins : List (Addr × Obj)) (s : Shared) (σ : L2.St) (v u : Value), Inv X pins σ H s → RelV x v → RelV y u →
  subscripted slice false v u = operate [v, u] (getItem v u) → wpAny (model X.prog X.w) X.A (subscriptTail value slice v u) (EP X pins σ Q) X.xe s
theorem wIx_ix : IxR X (wIx X) := fun value slice pins s σ _ _ _ v u _ I rx ry h hs => h value slice pins s σ v u I rx ry hs
theorem wIx_of {r : R2} (h : IxR X r) {x y : V} {H : Hp} {Q : VK} (q : r x y H Q) : wIx X x y H Q := fun value slice pins s σ v u I rx ry hs => h value slice pins s σ H x y v u Q I rx ry q hs
def XIx (X : Cx) (x y : W) (os : Os) (k : W → Os → Prop) : Prop :=
  ∀ (F V0 H : Hp) (v u : V) (Q : VK), Rel X.K F V0 os H → RW X.K V0 v x → RW X.K V0 u y →
    (∀ (V1 : Hp) (os1 : Os) (H1 : Hp) (z : V) (w : W), Same V0 V1 → Rel X.K F V1 os1 H1 → RW X.K V1 z w → k w os1 → Q z H1) → wIx X v u H Q
theorem xe_ix (h : XE X a env os fun x os1 => XE X b env os1 fun y os2 => XIx X x y os2 k) (hs : PlainIx b := by exact fun _ _ => rfl) : XE X (.Subscript a b pos) env os k := by
  intro F V0 H σ Q r sr c
  refine wE_of (pe_ix (r := wIx X) wIx_ix wE_pe wE_pe hs) ?_
  refine h F V0 H σ _ r sr fun V1 os1 H1 v x s1 r1 rx hx => ?_
  refine hx F V1 H1 σ _ r1 (sr.mono s1) fun V2 os2 H2 u y s2 r2 ry hy => ?_
  exact hy F V2 H2 v u Q r2 (rx.mono s2) ry fun V3 os3 H3 z w s3 r3 rw' q => c V3 os3 H3 z w ((s1.trans s2).trans s3) r3 rw' q
theorem atI_map {α β : Type} {xs : List α} {ys : List β} (hl : xs.length = ys.length) {i : Int} {y : β} (h : atI ys i = some y) : ∃ j, ixN xs.length i = some j ∧ ys[j]? = some y := by
  unfold atI at h
  rw [← hl] at h
  cases e : ixN xs.length i with
  | none => rw [e] at h; cases h
  | some j => rw [e] at h; exact ⟨j, rfl, h⟩
theorem atI_of {α : Type} {xs : List α} {i : Int} {j : Nat} {x : α} (h1 : ixN xs.length i = some j) (h2 : xs[j]? = some x) : atI xs i = some x := by
  unfold atI
  rw [h1]; exact h2
theorem xix_lst {ds : List D} {i : Int} {d : D} (h : atI ds i = some d) (q : k (.d d) os) : XIx X (wL ds) (wI i) os k := by
  intro F V0 H v u Q r rx ry c
  obtain ⟨p, xs, rfl, h1, h2⟩ := rp_lst rx
  cases ry
  obtain ⟨j, e1, e2⟩ := atI_map h2.length h
  obtain ⟨z, e3, rz⟩ := h2.get e2
  exact wIx_of ix_list ⟨p, xs, i, z, rfl, rfl, r.vi.seq h1, atI_of e1 e3, c V0 os H z (.d d) (Same.refl _) r rz q⟩
theorem xix_tup {ds : List D} {i : Int} {d : D} (h : atI ds i = some d) (q : k (.d d) os) : XIx X (wT ds) (wI i) os k := by
  intro F V0 H v u Q r rx ry c
  obtain ⟨p, xs, rfl, h1, h2⟩ := rp_tup rx
  cases ry
  obtain ⟨j, e1, e2⟩ := atI_map h2.length h
  obtain ⟨z, e3, rz⟩ := h2.get e2
  exact wIx_of ix_tup ⟨p, xs, i, z, rfl, rfl, same_sqT r.vi h1, atI_of e1 e3, c V0 os H z (.d d) (Same.refl _) r rz q⟩
theorem xix_own {p : Addr} {ws : List W} {i : Int} {n : Nat} {w : W} (ho : os[n]? = some (p, .lst ws)) (h : atI ws i = some w) (q : k w os) : XIx X (.ref p) (wI i) os k := by
  intro F V0 H v u Q r rx ry c
  have e : v = .ref p := rx
  subst e
  cases ry
  obtain ⟨_, _, ho', h3, vs, rfl, h4⟩ := r.own _ (List.mem_of_getElem? ho)
  obtain ⟨j, e1, e2⟩ := atI_map h4.len h
  obtain ⟨z, e3, rz⟩ := h4.get e2
  exact wIx_of ix_list ⟨p, vs, i, z, rfl, rfl, SqL.of h3, atI_of e1 e3, c V0 os H z w (Same.refl _) r rz q⟩
theorem xix_str {x : Str} {i : Int} {n : Nat} (hx : x.length ≤ sizeLine) (h : atI x.cps.toList i = some n) (q : k (wS ⟨#[n]⟩) os) : XIx X (wS x) (wI i) os k := by
  intro F V0 H v u Q r rx ry c
  cases rx; cases ry
  exact wIx_of ix_str ⟨x, i, n, rfl, rfl, hx, h, c V0 os H _ _ (Same.refl _) r rwS q⟩

/-! ### slices -/
def cutA {α : Type} (xs : List α) (lo hi : Option Int) : List α := (xs.drop (HT.sIx xs.length 0 lo)).take (HT.sIx xs.length xs.length hi - HT.sIx xs.length 0 lo)
def wPO (X : Cx) (e : Option Expr) : TO := fun σ H Q => ∀ (pins : List (Addr × Obj)) (s : Shared), Inv X pins σ H s → wpAny (model X.prog X.w) X.A (evalPart e X.env) (fun u s' => ∃ o H', Inv X pins σ H' s' ∧ IsPart u o ∧ Q o H') X.xe s
theorem wPO_po {e : Option Expr} : PO X e (wPO X e) := ⟨fun pins s _ _ _ I h => h pins s I⟩
theorem wPO_of {e : Option Expr} {t : TO} (h : PO X e t) {σ : L2.St} {H : Hp} {Q : Option Int → Hp → Prop} (q : t σ H Q) : wPO X e σ H Q := fun pins s I => h.run pins s σ H Q I q
def XPO (X : Cx) (e : Option Expr) (env : DEnv) (os : Os) (ko : Option Int → Os → Prop) : Prop :=
  ∀ (F V0 H : Hp) (σ : L2.St) (Q : Option Int → Hp → Prop), Rel X.K F V0 os H → SR X.K V0 σ env →
    (∀ (V1 : Hp) (os1 : Os) (H1 : Hp) (o : Option Int), Same V0 V1 → Rel X.K F V1 os1 H1 → ko o os1 → Q o H1) → wPO X e σ H Q
theorem xpo_none {ko : Option Int → Os → Prop} (q : ko none os) : XPO X none env os ko := fun F V0 H σ Q r sr c => wPO_of po_none (c V0 os H none (Same.refl _) r q)
theorem xpo_some {ko : Option Int → Os → Prop} (h : XE X e env os fun w os1 => ∃ i, w = wI i ∧ ko (some i) os1) : XPO X (some e) env os ko := by
  intro F V0 H σ Q r sr c
  refine wPO_of (po_some wE_pe) ?_
  refine h F V0 H σ _ r sr fun V1 os1 H1 v w s1 r1 rv ⟨i, e, q⟩ => ?_
  subst e
  cases rv
  exact ⟨i, rfl, c V1 os1 H1 _ s1 r1 q⟩
/-- what a slice of a value gives -/
def SlW (os : Os) (w : W) (lo hi : Option Int) (k : W → Os → Prop) : Prop := match w with
  | .d (.lst ds) => k (wL (cutA ds lo hi)) os
  | .d (.tup ds) => (cutA ds lo hi).length < ds.length ∧ k (wT (cutA ds lo hi)) os
  | .d (.str x) => x.length ≤ sizeLine ∧ k (wS (cutS x lo hi)) os
  | .ref p => ∃ (n : Nat) (ds : List D), os[n]? = some (p, OO.lst (ds.map W.d)) ∧ k (wL (cutA ds lo hi)) os
  | _ => False
theorem RpA.cut {K : PySem.W.Frag} {H : Hp} {vs : List V} {ds : List D} (h : RpA K H vs ds) (lo hi : Option Int) : RpA K H (cutV vs lo hi) (cutA ds lo hi) := by
  unfold cutV cutA
  rw [h.length]
  exact (h.drop _).take _
variable {lo hi : Option Expr} {p2 : Pos}
theorem cut_len {α : Type} (xs : List α) (lo hi : Option Int) : (cutA xs lo hi).length ≤ xs.length := by
  unfold cutA
  rw [List.length_take, List.length_drop]
  omega
def wSl (X : Cx) : V → Option Int → Option Int → Hp → VK → Prop := fun x l u H Q => rSlL X.K x l u H Q ∨ rSlT X.K x l u H Q ∨ rSlS x l u H Q
theorem wSl_sl : SlR X (wSl X) := sl_list.or (sl_tup.or sl_str)
theorem xe_slice (h : XE X e env os fun w os1 => XPO X lo env os1 fun l os2 => XPO X hi env os2 fun u os3 => SlW os3 w l u k) : XE X (.Subscript e (.Slice lo hi none p2) pos) env os k := by
  intro F V0 H σ Q r sr c
  refine wE_of (pe_slice (r := wSl X) wSl_sl wE_pe wPO_po wPO_po) ?_
  refine h F V0 H σ _ r sr fun V1 os1 H1 v w s1 r1 rv hw => ?_
  refine hw F V1 H1 σ _ r1 (sr.mono s1) fun V2 os2 H2 l s2 r2 hl => ?_
  refine hl F V2 H2 σ _ r2 (sr.mono (s1.trans s2)) fun V3 os3 H3 u s3 r3 q => ?_
  have s13 := (s1.trans s2).trans s3
  have rv3 := rv.mono (s2.trans s3)
  cases w with
  | ref p =>
    obtain ⟨n, ds, ho, q⟩ := q
    have e : v = .ref p := rv3
    subst e
    obtain ⟨_, _, ho', h3, vs, rfl, h4⟩ := r3.own _ (List.mem_of_getElem? ho)
    refine .inl ⟨p, vs, rfl, SqL.of h3, fun p' hp' => ?_⟩
    obtain ⟨s4, r4, rp⟩ := rel_newL r3 hp' (h4.toA.cut l u)
    exact c _ os3 _ _ (wL _) (s13.trans s4) r4 rp q
  | d d =>
    cases d with
    | lst ds =>
      have q : k (wL (cutA ds l u)) os3 := q
      obtain ⟨p, xs, rfl, h1, h2⟩ := rp_lst rv3
      refine .inl ⟨p, xs, rfl, r3.vi.seq h1, fun p' hp' => ?_⟩
      obtain ⟨s4, r4, rp⟩ := rel_newL r3 hp' (h2.cut l u)
      exact c _ os3 _ _ (wL _) (s13.trans s4) r4 rp q
    | tup ds =>
      obtain ⟨hlt, q⟩ := q
      obtain ⟨p, xs, rfl, h1, h2⟩ := rp_tup rv3
      have hl : (cutV xs l u).length < xs.length := by
        rw [(h2.cut l u).length, h2.length]; exact hlt
      refine .inr (.inl ⟨p, xs, rfl, same_sqT r3.vi h1, ?_⟩)
      first
        | (refine ⟨hl, fun p' hp' => ?_⟩
           obtain ⟨s4, r4, rp⟩ := rel_newT r3 hp' (h2.cut l u)
           exact c _ os3 _ _ (wT _) (s13.trans s4) r4 rp q)
        | (refine ⟨fun e => ?_, fun p' hp' => ?_⟩
           · exact absurd hl (by unfold cutV; simp_all)
           · obtain ⟨s4, r4, rp⟩ := rel_newT r3 hp' (h2.cut l u)
             exact c _ os3 _ _ (wT _) (s13.trans s4) r4 rp q)
        | skip
    | str x =>
      obtain ⟨hl, q⟩ := q
      cases rv3
      exact .inr (.inr ⟨x, rfl, hl, c V3 os3 H3 _ _ s13 r3 rwS q⟩)
    | _ => exact q.elim

/-! ### calls of built-ins -/
variable {es : List Expr} {x : Str} {p : Pos}
/-- a call of a known built-in by values -/
def XC (X : Cx) (f : Value) (ws : List W) (os : Os) (k : W → Os → Prop) : Prop :=
  ∀ (F V0 H : Hp) (vs : List V) (Q : VK), Rel X.K F V0 os H → RWs X.K V0 vs ws →
    (∀ (V1 : Hp) (os1 : Os) (H1 : Hp) (z : V) (w : W), Same V0 V1 → Rel X.K F V1 os1 H1 → RW X.K V1 z w → k w os1 → Q z H1) →
    ∀ (pins : List (Addr × Obj)) (s : Shared) (σ : L2.St) (us : List Value), Inv X pins σ H s → Vals vs us → wpAny (model X.prog X.w) X.A (call f us) (EP X pins σ Q) X.xe s
theorem XC.mk {f : Value} {r : List V → Hp → VK → Prop} {ws : List W} (hf : CallR X f r)
    (h : ∀ (F V0 H : Hp) (vs : List V) (Q : VK), Rel X.K F V0 os H → RWs X.K V0 vs ws →
      (∀ (V1 : Hp) (os1 : Os) (H1 : Hp) (z : V) (w : W), Same V0 V1 → Rel X.K F V1 os1 H1 → RW X.K V1 z w → k w os1 → Q z H1) → r vs H Q) : XC X f ws os k :=
  fun F V0 H vs Q r1 rs c pins s σ us I rv => hf pins s σ H vs us Q I rv (h F V0 H vs Q r1 rs c)
theorem xe_callB {id : String} (hv : bootBuiltins x = some (.builtin id)) (hm : X.mg x = none) (hg : Gl X x) (h : XA X (e :: es) env os fun ws os1 => XC X (.builtin id) ws os1 k) (hn : x ≠ "__name__" := by decide) (hdb : (x == ("__debug__" : Str)) = false := by decide)
    (he : starEach (e :: es) X.env = (false, eval e X.env) :: starEach es X.env := by rfl) (hpl : (backTo pos (starEach es X.env)).any (·.1) = false := by rfl) : XE X (.Call (.Name x p) (e :: es) [] pos) env os k := by
  intro F V0 H σ Q r sr c
  refine wE_of (pe_callB (id := id) (r := fun vs H Q => ∀ (pins : List (Addr × Obj)) (s : Shared) (σ : L2.St) (us : List Value), Inv X pins σ H s → Vals vs us → wpAny (model X.prog X.w) X.A (call (.builtin id) us) (EP X pins σ Q) X.xe s)
    (fun pins s σ H vs us Q I rv h => h pins s σ us I rv) hg hm hv wA_pa hn hdb he hpl) ?_
  refine h F V0 H σ _ r sr fun V1 os1 H1 vs ws s1 r1 rs q => ?_
  exact q F V1 H1 vs Q r1 rs fun V2 os2 H2 z w s2 r2 rz q2 => c V2 os2 H2 z w (s1.trans s2) r2 rz q2
theorem xe_callTy {id : String} (hv : bootBuiltins x = some (.type id)) (hm : X.mg x = none) (hg : Gl X x) (h : XA X (e :: es) env os fun ws os1 => XC X (.type id) ws os1 k) (hn : x ≠ "__name__" := by decide) (hdb : (x == ("__debug__" : Str)) = false := by decide)
    (he : starEach (e :: es) X.env = (false, eval e X.env) :: starEach es X.env := by rfl) (hpl : (backTo pos (starEach es X.env)).any (·.1) = false := by rfl) : XE X (.Call (.Name x p) (e :: es) [] pos) env os k := by
  intro F V0 H σ Q r sr c
  refine wE_of (pe_callTy (T := id) (r := fun vs H Q => ∀ (pins : List (Addr × Obj)) (s : Shared) (σ : L2.St) (us : List Value), Inv X pins σ H s → Vals vs us → wpAny (model X.prog X.w) X.A (call (.type id) us) (EP X pins σ Q) X.xe s)
    (fun pins s σ H vs us Q I rv h => h pins s σ us I rv) hg hm hv wA_pa hn hdb he hpl) ?_
  refine h F V0 H σ _ r sr fun V1 os1 H1 vs ws s1 r1 rs q => ?_
  exact q F V1 H1 vs Q r1 rs fun V2 os2 H2 z w s2 r2 rz q2 => c V2 os2 H2 z w (s1.trans s2) r2 rz q2
theorem rws1 {K : PySem.W.Frag} {V0 : Hp} {vs : List V} {w : W} (h : RWs K V0 vs [w]) : ∃ v, vs = [v] ∧ RW K V0 v w := by
  cases h with
  | cons a t => cases t; exact ⟨_, rfl, a⟩
theorem rws2 {K : PySem.W.Frag} {V0 : Hp} {vs : List V} {w w2 : W} (h : RWs K V0 vs [w, w2]) : ∃ v v2, vs = [v, v2] ∧ RW K V0 v w ∧ RW K V0 v2 w2 := by
  cases h with
  | cons a t =>
    obtain ⟨v2, rfl, r2⟩ := rws1 t
    exact ⟨_, v2, rfl, a, r2⟩
def lenW (os : Os) (w : W) (n : Nat) : Prop := match w with
  | .d (.lst ds) => n = ds.length
  | .d (.tup ds) => n = ds.length
  | .d (.str x) => x.length ≤ sizeLine ∧ n = x.length
  | .ref p => ∃ (i : Nat) (ws : List W), os[i]? = some (p, .lst ws) ∧ n = ws.length
  | _ => False
theorem xc_len {w : W} {n : Nat} (h : lenW os w n) (q : k (wI n) os) : XC X (.builtin "len") [w] os k :=
  XC.mk call_len fun F V0 H vs Q r rs c => by
    obtain ⟨v, rfl, rv⟩ := rws1 rs
    refine ⟨v, n, rfl, ?_, c V0 os H _ _ (Same.refl _) r rwI q⟩
    cases w with
    | ref p =>
      have e : v = .ref p := rv
      subst e
      obtain ⟨i, ws, ho, e⟩ := h
      obtain ⟨_, _, ho', h3, vs, rfl, h4⟩ := r.own _ (List.mem_of_getElem? ho)
      exact .inl ⟨vs, SqL.of h3, by rw [h4.len]; exact e⟩
    | d d =>
      cases d with
      | lst ds => obtain ⟨p, xs, rfl, h1, h2⟩ := rp_lst rv; exact .inl ⟨xs, r.vi.seq h1, by rw [h2.length]; exact h⟩
      | tup ds => obtain ⟨p, xs, rfl, h1, h2⟩ := rp_tup rv; exact .inr ⟨xs, same_sqT r.vi h1, by rw [h2.length]; exact h⟩
      | str x => cases rv; exact h
      | _ => exact h.elim
variable {i j : Int}
theorem xc_int (q : k (wI i) os) : XC X (.type "int") [wI i] os k := XC.mk call_int1 fun F V0 H vs Q r rs c => by
  obtain ⟨v, rfl, rv⟩ := rws1 rs
  cases rv
  exact .inl ⟨i, rfl, c V0 os H _ _ (Same.refl _) r rwI q⟩
theorem xc_intB {bo : Bool} (q : k (wI (if bo then 1 else 0)) os) : XC X (.type "int") [wB bo] os k := XC.mk call_int1 fun F V0 H vs Q r rs c => by
  obtain ⟨v, rfl, rv⟩ := rws1 rs
  cases rv
  exact .inr ⟨bo, rfl, c V0 os H _ _ (Same.refl _) r rwI q⟩
theorem xc_boolI (q : k (wB (i != 0)) os) : XC X (.type "bool") [wI i] os k := XC.mk call_bool1 fun F V0 H vs Q r rs c => by
  obtain ⟨v, rfl, rv⟩ := rws1 rs
  cases rv
  exact .inl ⟨i, rfl, c V0 os H _ _ (Same.refl _) r rwB q⟩
theorem xc_strI (h : i.natAbs.log2 < 1920) (q : k (wS (toString i)) os) : XC X (.type "str") [wI i] os k := XC.mk call_str_int fun F V0 H vs Q r rs c => by
  obtain ⟨v, rfl, rv⟩ := rws1 rs
  cases rv
  exact ⟨i, rfl, h, c V0 os H _ _ (Same.refl _) r rwS q⟩
theorem xc_abs (q : k (wI (if i < 0 then -i else i)) os) : XC X (.builtin "abs") [wI i] os k := XC.mk call_abs fun F V0 H vs Q r rs c => by
  obtain ⟨v, rfl, rv⟩ := rws1 rs
  cases rv
  exact ⟨i, rfl, c V0 os H _ _ (Same.refl _) r rwI q⟩
theorem xc_max2 (hc : X.calm = true) (q : k (wI (if j > i then j else i)) os) : XC X (.builtin "max") [wI i, wI j] os k := XC.mk (call_max2 hc) fun F V0 H vs Q r rs c => by
  obtain ⟨v, v2, rfl, rv, rv2⟩ := rws2 rs
  cases rv; cases rv2
  exact ⟨i, j, rfl, c V0 os H _ _ (Same.refl _) r rwI q⟩
theorem xc_min2 (hc : X.calm = true) (q : k (wI (if j < i then j else i)) os) : XC X (.builtin "min") [wI i, wI j] os k := XC.mk (call_min2 hc) fun F V0 H vs Q r rs c => by
  obtain ⟨v, v2, rfl, rv, rv2⟩ := rws2 rs
  cases rv; cases rv2
  exact ⟨i, j, rfl, c V0 os H _ _ (Same.refl _) r rwI q⟩
/-- isinstance(x, T) -/
def tyD : D → Option String
  | .non => some "NoneType" | .bl _ => some "bool" | .int _ => some "int" | .str _ => some "str" | .tup _ => some "tuple" | .lst _ => some "list" | _ => none
def tyW (os : Os) : W → String → Prop
  | .d d, n => tyD d = some n
  | .ref p, n => n = "list" ∧ ∃ (i : Nat) (ws : List W), os[i]? = some (p, .lst ws)
theorem tyX_of {K : PySem.W.Frag} {F V0 H : Hp} {v : V} {w : W} {n : String} (r : Rel K F V0 os H) (rv : RW K V0 v w) (t : tyW os w n) : TyX K H v (.type n) := by
  cases w with
  | ref p =>
    have e : v = .ref p := rv
    subst e
    obtain ⟨rfl, i, ws, ho⟩ := t
    obtain ⟨_, _, ho', h3, vs, rfl, h4⟩ := r.own _ (List.mem_of_getElem? ho)
    exact .base (.lst h3)
  | d d =>
    have t : tyD d = some n := t
    cases d with
    | non => cases rv; cases t; exact .base .non
    | bl _ => cases rv; cases t; exact .base (.bl _)
    | int _ => cases rv; cases t; exact .base (.int _)
    | str _ => cases rv; cases t; exact .base (.str _)
    | ty _ => cases t
    | tup ds =>
      cases t
      obtain ⟨p, xs, rfl, h1, h2⟩ := rp_tup rv
      rcases h1 with (h1 | ⟨o, h1⟩) | ⟨o, its, m, h1, h3, _⟩
      · exact .base (.tup (r.vi _ _ h1))
      · exact .fTuple (r.vi _ _ h1)
      · exact .kTuple h1 h3
    | lst ds =>
      cases t
      obtain ⟨p, xs, rfl, h1, h2⟩ := rp_lst rv
      rcases h1 with (h1 | ⟨o, h1⟩) | ⟨o, its, m, h1, h3, _⟩
      · exact .base (.lst (r.vi _ _ h1))
      · exact .base (.frz (r.vi _ _ h1))
      · exact .kList h1 h3
theorem xc_isi {w : W} {n m : String} {bo : Bool} (t : tyW os w n) (hb : kitB n m = some bo) (q : k (wB bo) os) : XC X (.builtin "isinstance") [w, .d (.ty m)] os k := XC.mk call_isi fun F V0 H vs Q r rs c => by
  obtain ⟨v, v2, rfl, rv, rv2⟩ := rws2 rs
  cases rv2
  exact ⟨v, .ty m, _, _, bo, rfl, .ty m, tyX_of r rv t, kit_ty hb, c V0 os H _ _ (Same.refl _) r rwB q⟩
/-- a built-in class as a value -/
theorem xe_ty {n : String} (hv : bootBuiltins x = some (.type n)) (hm : X.mg x = none) (hg : Gl X x) (q : k (.d (.ty n)) os) (hn : x ≠ "__name__" := by decide) (hd : (x == ("__debug__" : Str)) = false := by decide) : XE X (.Name x pos) env os k :=
  xe_pure (w := .d (.ty n)) (pe_bltn hg hm hv (v := .ty n) rfl hn hd) (fun _ _ _ _ _ _ _ c => c _ (Rp.ty n)) q

/-! ### methods of lists -/
theorem own_ty {K : PySem.W.Frag} {F V0 H : Hp} {p : Addr} {ws : List W} {n : Nat} (r : Rel K F V0 os H) (ho : os[n]? = some (p, .lst ws)) : ∃ vs, H p = some (.lst vs) ∧ RWs K V0 vs ws ∧ tyV K "list" (.ref p) H := by
  obtain ⟨_, _, ho', h3, vs, rfl, h4⟩ := r.own _ (List.mem_of_getElem? ho)
  exact ⟨vs, h3, h4, .inl ⟨rfl, vs, SqL.of h3⟩⟩
variable {o : Expr} {apos cpos : Pos}
theorem xe_append (h : XE X o env os fun w os1 => ∃ (pl : Addr) (n : Nat) (ws : List W), w = .ref pl ∧ os1[n]? = some (pl, OO.lst ws) ∧ XE X e env os1 fun y os2 => ∃ (m : Nat) (us : List W), os2[m]? = some (pl, OO.lst us) ∧ us.length < sizeLine ∧ k wN (os2.set m (pl, .lst (us ++ [y]))))
    (hbase : attributeBase o "append" X.env (eval o X.env) = eval o X.env := by rfl)
    (hfew : ((backTo cpos (starEach [e] X.env)).all (fun x => !x.1) && (backToKw cpos (keywordEach [] X.env)).all (fun x => x.1.isSome)
      && decide ([e].length + ([] : List Keyword).length + (if ([] : List Keyword).isEmpty then 0 else 1) < 30)) = true := by rfl)
    (hline : (apos.endLine == cpos.line) = true := by rfl) (hs : starEach [e] X.env = (false, eval e X.env) :: starEach [] X.env := by rfl) :
    XE X (.Call (.Attribute o "append" apos) [e] [] cpos) env os k := by
  intro F V0 H σ Q r sr c
  refine wE_of (pe_bm PySem.F.plainAttrs_list PySem.F.slot_list_append PySem.F.type_list_append mt_append wE_pe (pa_cons wE_pe pa_nil hs) hbase hfew hline hs) ?_
  refine h F V0 H σ _ r sr fun V1 os1 H1 v w s1 r1 rv ⟨pl, n, ws, e1, ho, hx⟩ => ?_
  subst e1
  have e : v = .ref pl := rv
  subst e
  obtain ⟨vs, h3, h4, ty⟩ := own_ty r1 ho
  refine ⟨ty, ?_⟩
  refine hx F V1 H1 σ _ r1 (sr.mono s1) fun V2 os2 H2 u y s2 r2 ru ⟨m, us, ho2, hl, q⟩ => ?_
  obtain ⟨vs2, h5, h6, _⟩ := own_ty r2 ho2
  refine ⟨pl, vs2, u, rfl, rfl, h5, by rw [h6.len]; exact hl, ?_⟩
  exact c V2 _ _ _ wN (s1.trans s2) (r2.mut ho2 (oo' := .lst (us ++ [y])) ⟨vs2 ++ [u], rfl, h6.append (.cons ru .nil)⟩) rwN q
/-- xs.pop(i) -/
theorem xe_popAt (h : XE X o env os fun w os1 => ∃ (pl : Addr) (n : Nat) (ws : List W), w = .ref pl ∧ os1[n]? = some (pl, OO.lst ws) ∧ XE X e env os1 fun y os2 => ∃ (m : Nat) (us : List W) (i : Int) (j : Nat) (z : W), y = wI i ∧ os2[m]? = some (pl, OO.lst us) ∧ -(2 ^ 63) ≤ i ∧ i < 2 ^ 63 ∧ seqIndex? i us.length = some j ∧ us[j]? = some z ∧ k z (os2.set m (pl, .lst (us.eraseIdx j))))
    (hbase : attributeBase o "pop" X.env (eval o X.env) = eval o X.env := by rfl)
    (hfew : ((backTo cpos (starEach [e] X.env)).all (fun x => !x.1) && (backToKw cpos (keywordEach [] X.env)).all (fun x => x.1.isSome)
      && decide ([e].length + ([] : List Keyword).length + (if ([] : List Keyword).isEmpty then 0 else 1) < 30)) = true := by rfl)
    (hline : (apos.endLine == cpos.line) = true := by rfl) (hs : starEach [e] X.env = (false, eval e X.env) :: starEach [] X.env := by rfl) :
    XE X (.Call (.Attribute o "pop" apos) [e] [] cpos) env os k := by
  intro F V0 H σ Q r sr c
  refine wE_of (pe_bm PySem.F.plainAttrs_list PySem.F.slot_list_pop PySem.F.type_list_pop mt_popAt wE_pe (pa_cons wE_pe pa_nil hs) hbase hfew hline hs) ?_
  refine h F V0 H σ _ r sr fun V1 os1 H1 v w s1 r1 rv ⟨pl, n, ws, e1, ho, hx⟩ => ?_
  subst e1
  have e : v = .ref pl := rv
  subst e
  obtain ⟨vs, h3, h4, ty⟩ := own_ty r1 ho
  refine ⟨ty, ?_⟩
  refine hx F V1 H1 σ _ r1 (sr.mono s1) fun V2 os2 H2 u y s2 r2 ru ⟨m, us, i, j, z, e2, ho2, b1, b2, hj, hz, q⟩ => ?_
  subst e2
  cases ru
  obtain ⟨vs2, h5, h6, _⟩ := own_ty r2 ho2
  obtain ⟨zv, ez, rz⟩ := h6.get hz
  refine ⟨pl, vs2, i, j, zv, rfl, rfl, h5, b1, b2, by rw [h6.len]; exact hj, ez, ?_⟩
  exact c V2 _ _ _ z (s1.trans s2) (r2.mut ho2 (oo' := .lst (us.eraseIdx j)) ⟨vs2.eraseIdx j, rfl, h6.eraseIdx j⟩) rz q
end

/-! ### statements -/
structure DEnds where
  nx : DEnv → Os → Prop
  rt : W → Os → Prop
  bk : DEnv → Os → Prop := fun _ _ => False
  ct : DEnv → Os → Prop := fun _ _ => False
structure EndsOk (X : Cx) (F V0 : Hp) (K : DEnds) (D : Ends) : Prop where
  nx : ∀ (V1 : Hp) (os1 : Os) (H1 : Hp) (σ1 : L2.St) (env1 : DEnv), Same V0 V1 → Rel X.K F V1 os1 H1 → SR X.K V1 σ1 env1 → K.nx env1 os1 → D.nx σ1 H1
  rt : ∀ (V1 : Hp) (os1 : Os) (H1 : Hp) (v : V) (w : W), Same V0 V1 → Rel X.K F V1 os1 H1 → RW X.K V1 v w → K.rt w os1 → D.rt v H1
  bk : ∀ (V1 : Hp) (os1 : Os) (H1 : Hp) (σ1 : L2.St) (env1 : DEnv), Same V0 V1 → Rel X.K F V1 os1 H1 → SR X.K V1 σ1 env1 → K.bk env1 os1 → D.bk σ1 H1
  ct : ∀ (V1 : Hp) (os1 : Os) (H1 : Hp) (σ1 : L2.St) (env1 : DEnv), Same V0 V1 → Rel X.K F V1 os1 H1 → SR X.K V1 σ1 env1 → K.ct env1 os1 → D.ct σ1 H1
theorem EndsOk.mono {X : Cx} {F V0 V1 : Hp} {K : DEnds} {D : Ends} (h : EndsOk X F V0 K D) (s : Same V0 V1) : EndsOk X F V1 K D :=
  ⟨fun V2 o H σ e s2 => h.nx V2 o H σ e (s.trans s2), fun V2 o H v w s2 => h.rt V2 o H v w (s.trans s2), fun V2 o H σ e s2 => h.bk V2 o H σ e (s.trans s2), fun V2 o H σ e s2 => h.ct V2 o H σ e (s.trans s2)⟩
def X1 (X : Cx) (st : Stmt) (env : DEnv) (os : Os) (K : DEnds) : Prop :=
  ∀ (F V0 H : Hp) (σ : L2.St) (D : Ends), Rel X.K F V0 os H → SR X.K V0 σ env → EndsOk X F V0 K D → wS1 X st D σ H
def XS (X : Cx) (sts : List Stmt) (env : DEnv) (os : Os) (K : DEnds) : Prop :=
  ∀ (F V0 H : Hp) (σ : L2.St) (D : Ends), Rel X.K F V0 os H → SR X.K V0 σ env → EndsOk X F V0 K D → wSs X sts D σ H
def XG (X : Cx) (tg : Expr) (w : W) (env : DEnv) (os : Os) (kg : DEnv → Os → Prop) : Prop :=
  ∀ (F V0 H : Hp) (σ : L2.St) (v : V) (Q : L2.St → Hp → Prop), Rel X.K F V0 os H → SR X.K V0 σ env → RW X.K V0 v w →
    (∀ (V1 : Hp) (os1 : Os) (H1 : Hp) (σ1 : L2.St) (env1 : DEnv), Same V0 V1 → Rel X.K F V1 os1 H1 → SR X.K V1 σ1 env1 → kg env1 os1 → Q σ1 H1) → wG X tg v σ H Q
section
variable {X : Cx} {env : DEnv} {os : Os} {K : DEnds} {pos : Pos} {e : Expr} {st : Stmt} {sts : List Stmt} {kg : DEnv → Os → Prop}
theorem xs_nil (q : K.nx env os) : XS X [] env os K := fun F V0 H σ D r sr ek => wSs_of pss_nil (ek.nx V0 os H σ env (Same.refl _) r sr q)
theorem xs_cons (h : X1 X st env os { K with nx := fun env1 os1 => XS X sts env1 os1 K }) : XS X (st :: sts) env os K := by
  intro F V0 H σ D r sr ek
  refine wSs_of (pss_cons wS1_ps wSs_pss) ?_
  refine h F V0 H σ { D with nx := wSs X sts D } r sr ⟨fun V1 os1 H1 σ1 env1 s1 r1 sr1 q => ?_, ek.rt, ek.bk, ek.ct⟩
  exact q F V1 H1 σ1 D r1 sr1 (ek.mono s1)
theorem xs_one (h : X1 X st env os K) : XS X [st] env os K := fun F V0 H σ D r sr ek => wSs_of (pss_one wS1_ps) (h F V0 H σ D r sr ek)
theorem x1_pass (q : K.nx env os) : X1 X (.Pass pos) env os K := fun F V0 H σ D r sr ek => wS1_of ps_pass (ek.nx V0 os H σ env (Same.refl _) r sr q)
theorem x1_break (q : K.bk env os) : X1 X (.Break pos) env os K := fun F V0 H σ D r sr ek => wS1_of ps_break (ek.bk V0 os H σ env (Same.refl _) r sr q)
theorem x1_cont (q : K.ct env os) : X1 X (.Continue pos) env os K := fun F V0 H σ D r sr ek => wS1_of ps_continue (ek.ct V0 os H σ env (Same.refl _) r sr q)
theorem x1_ret (h : XE X e env os fun w os1 => K.rt w os1) : X1 X (.Return (some e) pos) env os K := by
  intro F V0 H σ D r sr ek
  refine wS1_of (ps_ret wE_pe) ?_
  exact h F V0 H σ _ r sr fun V1 os1 H1 v w s1 r1 rv q => ek.rt V1 os1 H1 v w s1 r1 rv q
theorem x1_retN (q : K.rt wN os) : X1 X (.Return none pos) env os K := fun F V0 H σ D r sr ek => wS1_of ps_retN (ek.rt V0 os H .non wN (Same.refl _) r rwN q)
theorem x1_expr (h : XE X e env os fun w os1 => K.nx env os1) (hs : swapsWith e none pos.line X.env = pure false := by rfl) : X1 X (.Expr e pos) env os K := by
  intro F V0 H σ D r sr ek
  refine wS1_of (ps_expr wE_pe hs) ?_
  exact h F V0 H σ _ r sr fun V1 os1 H1 v w s1 r1 rv q => ek.nx V1 os1 H1 σ env s1 r1 (sr.mono s1) q
theorem x1_if {c : Expr} {p q : List Stmt} (h : XT X c env os fun b os1 => (b = true → XS X p env os1 K) ∧ (b = false → XS X q env os1 K)) : X1 X (.If c p q pos) env os K := by
  intro F V0 H σ D r sr ek
  refine wS1_of (ps_if wTt_pt wSs_pss wSs_pss) ?_
  refine h F V0 H σ _ r sr fun V1 os1 H1 b s1 r1 q => ?_
  cases b with
  | true => exact iteT (q.1 rfl F V1 H1 σ D r1 (sr.mono s1) (ek.mono s1))
  | false => exact iteF (q.2 rfl F V1 H1 σ D r1 (sr.mono s1) (ek.mono s1))
/-- name = e -/
theorem x1_set {i : Nat} {x : Str} {pos' : Pos} (hN : X.N.Nodup) (hi : X.N[i]? = some x) (hx : Loc X.env.scope x) (h : XE X e env os fun w os1 => K.nx (env.set i (some w)) os1) (hs : swapsWith e (some (.Name x pos')) pos.line X.env = pure false := by rfl)
    (hf : X.fn x = true ∨ X.env.scope.names.lookup x = some .local := by first | exact .inl rfl | exact .inr rfl | assumption) : X1 X (.Assign [.Name x pos'] e pos) env os K := by
  intro F V0 H σ D r sr ek
  refine wS1_of (ps_set hN hi hx wE_pe hs hf) ?_
  exact h F V0 H σ _ r sr fun V1 os1 H1 v w s1 r1 rv q => ek.nx V1 os1 H1 _ _ s1 r1 ((sr.mono s1).set rv i) q
theorem xg_name {i : Nat} {x : Str} {w : W} (hN : X.N.Nodup) (hi : X.N[i]? = some x) (hx : Loc X.env.scope x) (q : kg (env.set i (some w)) os)
    (hf : X.fn x = true ∨ X.env.scope.names.lookup x = some .local := by first | exact .inl rfl | exact .inr rfl | assumption) : XG X (.Name x pos) w env os kg :=
  fun F V0 H σ v Q r sr rv c => wG_of (pg_name hN hi hx hf) (c V0 os H _ _ (Same.refl _) r (sr.set rv i) q)
/-- (a, b, ..) = a tuple -/
def XGs (X : Cx) (tgs : List Expr) (ws : List W) (env : DEnv) (os : Os) (kg : DEnv → Os → Prop) : Prop :=
  ∀ (F V0 H : Hp) (σ : L2.St) (vs : List V) (Q : L2.St → Hp → Prop), Rel X.K F V0 os H → SR X.K V0 σ env → RWs X.K V0 vs ws →
    (∀ (V1 : Hp) (os1 : Os) (H1 : Hp) (σ1 : L2.St) (env1 : DEnv), Same V0 V1 → Rel X.K F V1 os1 H1 → SR X.K V1 σ1 env1 → kg env1 os1 → Q σ1 H1) → wGs X tgs vs σ H Q
theorem xgs_nil (q : kg env os) : XGs X [] [] env os kg := fun F V0 H σ vs Q r sr rs c => by
  cases rs
  exact wGs_of pgs_nil ⟨rfl, c V0 os H σ env (Same.refl _) r sr q⟩
theorem xgs_cons {tg : Expr} {tgs : List Expr} {w : W} {ws : List W} (h : XG X tg w env os fun env1 os1 => XGs X tgs ws env1 os1 kg)
    (hs : (assignEach (tg :: tgs) X.env).map (·.2) = assign tg X.env :: (assignEach tgs X.env).map (·.2) := by rfl) : XGs X (tg :: tgs) (w :: ws) env os kg := fun F V0 H σ vs Q r sr rs c => by
  cases rs with
  | cons rv rs =>
    refine wGs_of (pgs_cons wG_pg wGs_pgs hs) ⟨_, _, rfl, ?_⟩
    refine h F V0 H σ _ _ r sr rv fun V1 os1 H1 σ1 env1 s1 r1 sr1 q => ?_
    exact q F V1 H1 σ1 _ Q r1 sr1 (RWs.mono s1 rs) fun V2 os2 H2 σ2 env2 s2 r2 sr2 q2 => c V2 os2 H2 σ2 env2 (s1.trans s2) r2 sr2 q2
theorem xg_tup {es : List Expr} {m : Nat} {ds : List D} {n : Nat} (hc : X.calm = true) (h : XGs X es (ds.map W.d) env os kg) (hl : ds.length = n)
    (hn : (assignEach es X.env).length = n := by rfl) (hst : (assignEach es X.env).findIdx? (·.1) = none := by rfl) : XG X (.Tuple es m pos) (wT ds) env os kg := by
  intro F V0 H σ v Q r sr rv c
  obtain ⟨p, xs, rfl, h1, h2⟩ := rp_tup rv
  refine wG_of (pg_tup (n := n) hc wGs_pgs hn hst) ⟨p, xs, rfl, same_sqT r.vi h1, by rw [h2.length]; exact hl, ?_⟩
  exact h F V0 H σ xs Q r sr (RWs.ofA h2) c
/-- any target -/
theorem x1_asg {tg : Expr} (h : XE X e env os fun w os1 => XG X tg w env os1 K.nx) (hs : swapsWithSole [tg] e pos.line X.env = pure false := by rfl) (hw : swappedStores [tg] e X.env = pure none := by rfl)
    (h1 : (assignEach [tg] X.env).map (·.2) = [assign tg X.env] := by rfl) : X1 X (.Assign [tg] e pos) env os K := by
  intro F V0 H σ D r sr ek
  refine wS1_of (ps_asg wE_pe wG_pg hs hw h1) ?_
  refine h F V0 H σ _ r sr fun V1 os1 H1 v w s1 r1 rv q => ?_
  exact q F V1 H1 σ v _ r1 (sr.mono s1) rv fun V2 os2 H2 σ2 env2 s2 r2 sr2 q2 => ek.nx V2 os2 H2 σ2 env2 (s1.trans s2) r2 sr2 q2
/-- o[i] = .., an owned list -/
theorem xg_sub {o ix : Expr} {w : W} (h : XE X o env os fun x os1 => XE X ix env os1 fun y os2 => ∃ (pl : Addr) (n : Nat) (ws : List W) (i : Int) (j : Nat), x = .ref pl ∧ y = wI i ∧ os2[n]? = some (pl, OO.lst ws) ∧ ixN ws.length i = some j ∧ kg env (os2.set n (pl, .lst (ws.set j w))))
    (ha : ∀ v, assign (.Subscript o ix pos) X.env v = (do
      let ov ← holding [v] (eval o X.env)
      let iv ← holding [v, ov] (eval ix X.env)
      standAt pos
      holding [v, ov, iv] (setItem ov iv v)
      release [v, ov, iv] []) := by intro _; rfl) : XG X (.Subscript o ix pos) w env os kg := by
  intro F V0 H σ v Q r sr rv c
  refine wG_of (pg_sub wE_pe wE_pe set_list ha) ?_
  refine h F V0 H σ _ r sr fun V1 os1 H1 ov x s1 r1 ro hx => ?_
  refine hx F V1 H1 σ _ r1 (sr.mono s1) fun V2 os2 H2 iv y s2 r2 ri ⟨pl, n, ws, i, j, e1, e2, ho, hj, q⟩ => ?_
  subst e1 e2
  have e : ov = .ref pl := ro
  subst e
  cases ri
  obtain ⟨vs, h3, h4, _⟩ := own_ty r2 ho
  refine ⟨pl, vs, i, j, rfl, rfl, h3, by rw [h4.len]; exact hj, ?_⟩
  have s := s1.trans s2
  exact c V2 _ _ σ env s (r2.mut ho (oo' := .lst (ws.set j w)) ⟨vs.set j v, rfl, RWs.set (rv.mono s) j h4⟩) (sr.mono s) q
/-- an owned list becomes data, in the slots where it stands -/
theorem xs_freeze {n : Nat} {pl : Addr} {ds : List D} {is : List Nat} (ho : os[n]? = some (pl, .lst (ds.map W.d))) (hi : ∀ i ∈ is, env[i]? = some (some (.ref pl)))
    (h : XS X sts (is.foldl (fun en i => en.set i (some (wL ds))) env) (os.eraseIdx n) K) : XS X sts env os K := by
  intro F V0 H σ D r sr ek
  obtain ⟨V1, s1, r1, rp⟩ := r.freeze ho
  refine h F V1 H σ D r1 ?_ (ek.mono s1)
  have gen : ∀ (is : List Nat) (en : DEnv), (∀ i ∈ is, ∃ w, en[i]? = some (some w) ∧ RW X.K V1 (.ref pl) w) → SR X.K V1 σ en → (∀ i ∈ is, σ[i]? = some (some (.ref pl))) → SR X.K V1 σ (is.foldl (fun en i => en.set i (some (wL ds))) en) := by
    intro is
    induction is with
    | nil => intro en _ h _; exact h
    | cons i is ih =>
      intro en hw hs hσ
      rw [List.foldl_cons]
      have hs' : SR X.K V1 σ (en.set i (some (wL ds))) := by
        have := hs.set (v := .ref pl) (w := wL ds) rp i
        have e : σ.set i (some (.ref pl)) = σ := by
          refine List.ext_getElem? fun j => ?_
          by_cases hj : i = j
          · subst hj
            rw [List.getElem?_set_self (List.getElem?_eq_some_iff.mp (hσ i List.mem_cons_self)).1, hσ i List.mem_cons_self]
          · rw [List.getElem?_set_ne hj]
        rw [e] at this
        exact this
      refine ih _ (fun j hj => ?_) hs' fun j hj => hσ j (List.mem_cons_of_mem _ hj)
      by_cases hij : i = j
      · subst hij
        obtain ⟨w, e1, _⟩ := hw i List.mem_cons_self
        exact ⟨wL ds, by rw [List.getElem?_set_self (List.getElem?_eq_some_iff.mp e1).1], rp⟩
      · obtain ⟨w, e1, rw'⟩ := hw j (List.mem_cons_of_mem _ hj)
        exact ⟨w, by rw [List.getElem?_set_ne hij]; exact e1, rw'⟩
  refine gen is env (fun i hi' => ⟨.ref pl, hi i hi', rfl⟩) (sr.mono s1) fun i hi' => ?_
  obtain ⟨v, e1, rv⟩ := sr.2 i _ (hi i hi')
  have e2 : v = .ref pl := rv
  rw [e1, e2]
end
end DL

set_option Elab.async false
set_option linter.all false
set_option maxRecDepth 100000
/-! DL4: promises and calls, iteration, for, while, list comprehensions. -/
namespace DL
open PySem PySem.Spec PyProof.Rows L2

/-! ### promises -/
/-- a pure def: data in, data out; S ds k: called with ds, it gives back some d of which k is wanted -/
def spP (K : PySem.W.Frag) (n : Nat) (S : List D → (D → Prop) → Prop) : Sp := fun vs H Q _ => vs.length = n ∧ ∃ (F V0 : Hp) (ds : List D) (k0 : D → Prop), Rel K F V0 [] H ∧ RpA K V0 vs ds ∧ S ds k0 ∧
  ∀ (V1 H1 : Hp) (v : V) (d : D), Same V0 V1 → Rel K F V1 [] H1 → Rp K V1 v d → k0 d → Q v H1
/-- a def over owned things: os is what it touches -/
def spF (K : PySem.W.Frag) (n : Nat) (S : List W → Os → (W → Os → Prop) → Prop) : Sp := fun vs H Q _ => vs.length = n ∧ ∃ (F V0 : Hp) (os : Os) (ws : List W) (k0 : W → Os → Prop), Rel K F V0 os H ∧ RWs K V0 vs ws ∧ S ws os k0 ∧
  ∀ (V1 : Hp) (os1 : Os) (H1 : Hp) (v : V) (w : W), Same V0 V1 → Rel K F V1 os1 H1 → RW K V1 v w → k0 w os1 → Q v H1
/-- the slots at the entry -/
def startD (N : List Str) (ws : List W) : DEnv := ws.map some ++ List.replicate (N.length - ws.length) none
theorem sr_start {K : PySem.W.Frag} {V0 : Hp} {N : List Str} {vs : List V} {ws : List W} (r : RWs K V0 vs ws) : SR K V0 (L2.start N vs) (startD N ws) := by
  have hl := r.len
  refine ⟨by unfold L2.start startD; simp [hl], fun i w e => ?_⟩
  unfold startD at e
  have hi : i < ws.length := by
    by_cases hi : i < ws.length
    · exact hi
    · rw [List.getElem?_append_right (by simpa using hi), List.getElem?_replicate] at e
      split at e <;> cases e
  rw [List.getElem?_append_left (by simpa using hi), List.getElem?_map] at e
  have e' : ws[i]? = some w := by
    cases q : ws[i]? with
    | none => rw [q] at e; cases e
    | some u => rw [q] at e; cases e; rfl
  obtain ⟨v, ev, rv⟩ := RWs.get r e'
  refine ⟨v, ?_, rv⟩
  unfold L2.start
  rw [List.getElem?_append_left (by simpa [hl] using hi), List.getElem?_map, ev]; rfl
/-- what a pure def gives back: data, or an owned list of data -/
def RetD (w : W) (os : Os) (p : D → Prop) : Prop := match w with
  | .d d => p d
  | .ref a => ∃ (n : Nat) (ds : List D), os[n]? = some (a, OO.lst (ds.map W.d)) ∧ p (.lst ds)
def RetF (w : W) (os : Os) (p : W → Os → Prop) : Prop := (∃ os2 : Os, os2.Sublist os ∧ p w os2) ∨
  ∃ (a : Addr) (n : Nat) (ds : List D), w = .ref a ∧ os[n]? = some (a, OO.lst (ds.map W.d)) ∧ ∃ os2 : Os, os2.Sublist (os.eraseIdx n) ∧ p (wL ds) os2
section
variable {P : Program} {w : World} {K : PySem.W.Frag} {mg : Str → Option Value} {base : Heap}
theorem okP {x qual : Str} {st : Stmt} {f : Addr} {fd : FuncData} {N ps : List Str} {k n : Nat} {S : List D → (D → Prop) → Prop} (F : Fun K x qual st f fd) (sc : FnScope N ps (defScope st)) (hn : ps.length = n)
    (h : ∀ (cdv : Value) (A : Around) (outer : List Env) (s : Shared) (H : Hp) (E : XK), Room k (A.deeper (envOfC qual (defScope st) s.heap.objs.size f cdv)) → ∀ (ds : List D) (k0 : D → Prop), ds.length = n → S ds k0 → ∀ env : DEnv, env = startD N (ds.map W.d) →
      XS (cxOf CX0 P w K mg base N qual (defScope st) f cdv A outer s H E).nox (defBody st) env [] { nx := fun _ _ => k0 .non, rt := fun w os => RetD w os k0 }) : FnOk P w K mg base CX0 (k + 1) f fd ps (spP K n S) := by
  refine F.ok sc (fun vs H Q E h => h.1.trans hn.symm) fun cdv A outer s H vs Q E hr hsp => ?_
  obtain ⟨hl, F0, V0, ds, k0, r, ra, hp, c⟩ := hsp
  refine ⟨wSs _ (defBody st), wSs_pss, ?_⟩
  refine h cdv A outer s H E hr ds k0 (ra.length.symm.trans hl) hp _ rfl F0 V0 H _ _ r (sr_start (RWs.ofA ra)) ⟨fun V1 os1 H1 σ1 env1 s1 r1 sr1 q => ?_, fun V1 os1 H1 v w s1 r1 rv q => ?_, fun _ _ _ _ _ _ _ _ z => z.elim, fun _ _ _ _ _ _ _ _ z => z.elim⟩
  · exact c V1 H1 _ _ s1 (r1.drop (List.nil_sublist _)) .non q
  · cases w with
    | d d => exact c V1 H1 v d s1 (r1.drop (List.nil_sublist _)) rv q
    | ref a =>
      obtain ⟨m, ds', ho, q⟩ := q
      have e : v = .ref a := rv
      subst e
      obtain ⟨V2, s2, r2, rp⟩ := r1.freeze ho
      exact c V2 H1 _ _ (s1.trans s2) (r2.drop (List.nil_sublist _)) rp q
theorem okF {x qual : Str} {st : Stmt} {f : Addr} {fd : FuncData} {N ps : List Str} {k n : Nat} {S : List W → Os → (W → Os → Prop) → Prop} (F : Fun K x qual st f fd) (sc : FnScope N ps (defScope st)) (hn : ps.length = n)
    (h : ∀ (cdv : Value) (A : Around) (outer : List Env) (s : Shared) (H : Hp) (E : XK), Room k (A.deeper (envOfC qual (defScope st) s.heap.objs.size f cdv)) → ∀ (ws : List W) (os : Os) (k0 : W → Os → Prop), ws.length = n → S ws os k0 → ∀ env : DEnv, env = startD N ws →
      XS (cxOf CX0 P w K mg base N qual (defScope st) f cdv A outer s H E).nox (defBody st) env os { nx := fun _ os1 => RetF wN os1 k0, rt := fun w os1 => RetF w os1 k0 }) : FnOk P w K mg base CX0 (k + 1) f fd ps (spF K n S) := by
  refine F.ok sc (fun vs H Q E h => h.1.trans hn.symm) fun cdv A outer s H vs Q E hr hsp => ?_
  obtain ⟨hl, F0, V0, os, ws, k0, r, ra, hp, c⟩ := hsp
  have fin : ∀ (V1 : Hp) (os1 : Os) (H1 : Hp) (v : V) (w : W), Same V0 V1 → Rel K F0 V1 os1 H1 → RW K V1 v w → RetF w os1 k0 → Q v H1 := fun V1 os1 H1 v w s1 r1 rv q => by
    rcases q with ⟨os2, hs, q⟩ | ⟨a, m, ds, rfl, ho, os2, hs, q⟩
    · exact c V1 os2 H1 v w s1 (r1.drop hs) rv q
    · have e : v = .ref a := rv
      subst e
      obtain ⟨V2, s2, r2, rp⟩ := r1.freeze ho
      exact c V2 os2 H1 _ (wL ds) (s1.trans s2) (r2.drop hs) rp q
  refine ⟨wSs _ (defBody st), wSs_pss, ?_⟩
  refine h cdv A outer s H E hr ws os k0 (ra.len.symm.trans hl) hp _ rfl F0 V0 H _ _ r (sr_start ra) ⟨fun V1 os1 H1 σ1 env1 s1 r1 sr1 q => ?_, fun V1 os1 H1 v w s1 r1 rv q => ?_, fun _ _ _ _ _ _ _ _ z => z.elim, fun _ _ _ _ _ _ _ _ z => z.elim⟩
  · exact fin V1 os1 H1 _ wN s1 r1 rwN q
  · exact fin V1 os1 H1 v w s1 r1 rv q
end

/-- a def by its name -/
structure Cal (P : Program) (w : World) (K : PySem.W.Frag) (mg : Str → Option Value) (base : Heap) (lvl : Nat) (x : Str) (ps : List Str) (sp : Sp) : Prop where
  ex : ∃ (f : Addr) (fd : FuncData), FnOk P w K mg base CX0 lvl f fd ps sp ∧ mg x = some (.ref f) ∧ PySem.W.keepIn K (.ref f) = true ∧ Binds K fd ps []
section
variable {X : Cx} {env : DEnv} {os : Os} {k : W → Os → Prop} {pos p : Pos} {a b c e : Expr} {es : List Expr} {x : Str} {lvl n : Nat} {ps : List Str}
theorem xe_callP {S : List D → (D → Prop) → Prop} (C : Cal X.prog X.w X.K X.mg X.base lvl x ps (spP X.K n S)) (hr : Room lvl X.A) (hg : Gl X x)
    (h : XA X (e :: es) env os fun ws os1 => ∃ ds : List D, ws = ds.map W.d ∧ ds.length = n ∧ S ds fun d => k (.d d) os1) (hdb : (x == ("__debug__" : Str)) = false := by decide)
    (he : starEach (e :: es) X.env = (false, eval e X.env) :: starEach es X.env := by rfl) (hpl : (backTo pos (starEach es X.env)).any (·.1) = false := by rfl) : XE X (.Call (.Name x p) (e :: es) [] pos) env os k := by
  obtain ⟨f, fd, G, hm, hk, hb⟩ := C.ex
  intro F V0 H σ Q r sr c
  refine wE_of (pe_call G hr hg hm hk hb .nil pass0 wA_pa hdb he hpl) ?_
  refine h F V0 H σ _ r sr fun V1 os1 H1 vs ws s1 r1 rs ⟨ds, e1, hl, hp⟩ => ?_
  subst e1
  rw [List.append_nil]
  obtain ⟨F2, r2, back⟩ := Rel.frame (of := []) (or := os1) r1
  have ra := rs.toA
  refine ⟨ra.length.trans hl, F2, V1, ds, _, r2, ra, hp, fun V2 H2 v d s2 r3 rv hq => ?_⟩
  exact c V2 os1 H2 v (.d d) (s1.trans s2) (back V2 [] H2 s2 r3) rv hq
/-- owned lists of data may be lent where a scalar comes back -/
def Bor (os : Os) (w : W) (d : D) : Prop := w = .d d ∨ ∃ (a : Addr) (ds : List D), w = .ref a ∧ (a, OO.lst (ds.map W.d)) ∈ os ∧ d = .lst ds
theorem bor_a {K : PySem.W.Frag} {V0 V2 : Hp} (s : Same V0 V2) (hv : ∀ a ds, (a, OO.lst (ds.map W.d)) ∈ os → Rp K V2 (.ref a) (.lst ds)) : ∀ {vs : List V} {ws : List W} {ds : List D}, RWs K V0 vs ws → Paired (Bor os) ws ds → RpA K V2 vs ds
  | _, _, _, .nil, .nil => .nil
  | _, _, _, .cons r rs, .cons b bs => by
    refine .cons ?_ (bor_a s hv rs bs)
    rcases b with rfl | ⟨a, ds', rfl, hm, rfl⟩
    · exact Rp.mono s r
    · have e : _ = V.ref a := r
      subst e
      exact hv a ds' hm
theorem xe_callB' {S : List D → (D → Prop) → Prop} (C : Cal X.prog X.w X.K X.mg X.base lvl x ps (spP X.K n S)) (hr : Room lvl X.A) (hg : Gl X x)
    (h : XA X (e :: es) env os fun ws os1 => ∃ ds : List D, Paired (Bor os1) ws ds ∧ ds.length = n ∧ S ds fun d => isScal d = true ∧ k (.d d) os1) (hdb : (x == ("__debug__" : Str)) = false := by decide)
    (he : starEach (e :: es) X.env = (false, eval e X.env) :: starEach es X.env := by rfl) (hpl : (backTo pos (starEach es X.env)).any (·.1) = false := by rfl) : XE X (.Call (.Name x p) (e :: es) [] pos) env os k := by
  obtain ⟨f, fd, G, hm, hk, hb⟩ := C.ex
  intro F V0 H σ Q r sr c
  refine wE_of (pe_call G hr hg hm hk hb .nil pass0 wA_pa hdb he hpl) ?_
  refine h F V0 H σ _ r sr fun V1 os1 H1 vs ws s1 r1 rs ⟨ds, hbor, hl, hp⟩ => ?_
  rw [List.append_nil]
  obtain ⟨F2, V2, sv, r2, hv, back⟩ := r1.lend
  have ra := bor_a sv hv rs hbor
  refine ⟨ra.length.trans hl, F2, V2, ds, _, r2, ra, hp, fun V3 H3 v d s3 r3 rv hq => ?_⟩
  obtain ⟨hs, q⟩ := hq
  refine c V1 os1 H3 v (.d d) s1 (back V3 H3 s3 r3) ?_ q
  have e := rp_scal hs rv
  subst e
  cases d <;> first | exact Rp.non | exact Rp.bl _ | exact Rp.int _ | exact Rp.str _ | cases hs
theorem xe_callF {S : List W → Os → (W → Os → Prop) → Prop} (C : Cal X.prog X.w X.K X.mg X.base lvl x ps (spF X.K n S)) (hr : Room lvl X.A) (hg : Gl X x)
    (h : XA X (e :: es) env os fun ws os1 => ∃ of or : Os, os1.Perm (of ++ or) ∧ ws.length = n ∧ S ws of fun w of' => k w (of' ++ or)) (hdb : (x == ("__debug__" : Str)) = false := by decide)
    (he : starEach (e :: es) X.env = (false, eval e X.env) :: starEach es X.env := by rfl) (hpl : (backTo pos (starEach es X.env)).any (·.1) = false := by rfl) : XE X (.Call (.Name x p) (e :: es) [] pos) env os k := by
  obtain ⟨f, fd, G, hm, hk, hb⟩ := C.ex
  intro F V0 H σ Q r sr c
  refine wE_of (pe_call G hr hg hm hk hb .nil pass0 wA_pa hdb he hpl) ?_
  refine h F V0 H σ _ r sr fun V1 os1 H1 vs ws s1 r1 rs ⟨of, or, hperm, hl, hp⟩ => ?_
  rw [List.append_nil]
  obtain ⟨F2, r2, back⟩ := Rel.frame (r1.perm hperm)
  refine ⟨rs.len.trans hl, F2, V1, of, ws, _, r2, rs, hp, fun V2 os2 H2 v w s2 r3 rv hq => ?_⟩
  exact c V2 (os2 ++ or) H2 v w (s1.trans s2) (back V2 os2 H2 s2 r3) rv hq
end

/-! ### iteration -/
/-- the iterator gives ws, whatever is made meanwhile -/
structure GI (K : PySem.W.Frag) (V1 : Hp) (J : It) (ws : List W) : Prop where
  go : ∀ (i : Nat) (H : Hp), Same V1 H → i < ws.length → J.go i H
  stop : ∀ (i : Nat) (H : Hp), Same V1 H → ws.length ≤ i → J.stop i H
  yld : ∀ (i : Nat) (H : Hp) (x : V) (H' : Hp) (w : W), Same V1 H → J.yld i H x H' → ws[i]? = some w → ∀ (F V2 : Hp) (os : Os), Same V1 V2 → Rel K F V2 os H → ∃ V3, Same V2 V3 ∧ Rel K F V3 os H' ∧ RW K V3 x w
def wPI (X : Cx) (tg iter : Expr) : TI := fun σ H R => ∀ (pins : List (Addr × Obj)) (s : Shared), Inv X pins σ H s →
  wpAny (model X.prog X.w) X.A (eval iter X.env) (fun v s1 => wpAny (model X.prog X.w) X.A (pyIter v) (PIE X pins σ tg R) X.xe s1) X.xe s
theorem wPI_pi {X : Cx} {tg iter : Expr} : PI X tg iter (wPI X tg iter) := ⟨fun pins s _ _ _ I h => h pins s I⟩
theorem wPI_of {X : Cx} {tg iter : Expr} {t : TI} (h : PI X tg iter t) {σ : L2.St} {H : Hp} {R : It → Hp → Prop} (q : t σ H R) : wPI X tg iter σ H R := fun pins s I => h.run pins s σ H R I q
def XI (X : Cx) (tg iter : Expr) (env : DEnv) (os : Os) (ki : List W → Os → Prop) : Prop :=
  ∀ (F V0 H : Hp) (σ : L2.St) (R : It → Hp → Prop), Rel X.K F V0 os H → SR X.K V0 σ env →
    (∀ (V1 : Hp) (os1 : Os) (H1 : Hp) (J : It) (ws : List W), Same V0 V1 → Rel X.K F V1 os1 H1 → GI X.K V1 J ws → ki ws os1 → R J H1) → wPI X tg iter σ H R
section
variable {K : PySem.W.Frag} {V1 : Hp} {a : Addr} {xs : List V} {ds : List D}
theorem gi_list (h : SqL K V1 a xs) (r : RpA K V1 xs ds) : GI K V1 (Itl K a) (ds.map W.d) := by
  have hl := r.length
  refine ⟨fun i H s hi => ?_, fun i H s hi => ⟨xs, s.seq h, by rw [List.length_map] at hi; omega⟩, fun i H x H' w s y e F V2 os s2 r2 => ?_⟩
  · rw [List.length_map] at hi
    exact ⟨xs, xs[i]'(by omega), s.seq h, by simp [hl, hi]⟩
  · obtain ⟨rfl, y⟩ := y
    have ex := y xs (s.seq h)
    obtain ⟨d, ed, rd⟩ := r.getV ex
    rw [List.getElem?_map, ed] at e
    cases e
    exact ⟨V2, Same.refl _, r2, Rp.mono s2 rd⟩
theorem gi_tup (h : SqT K V1 a xs) (r : RpA K V1 xs ds) : GI K V1 (Itt K a) (ds.map W.d) := by
  have hl := r.length
  refine ⟨fun i H s hi => ?_, fun i H s hi => ⟨xs, same_sqT s h, by rw [List.length_map] at hi; omega⟩, fun i H x H' w s y e F V2 os s2 r2 => ?_⟩
  · rw [List.length_map] at hi
    exact ⟨xs, xs[i]'(by omega), same_sqT s h, by simp [hl, hi]⟩
  · obtain ⟨rfl, y⟩ := y
    have ex := y xs (same_sqT s h)
    obtain ⟨d, ed, rd⟩ := r.getV ex
    rw [List.getElem?_map, ed] at e
    cases e
    exact ⟨V2, Same.refl _, r2, Rp.mono s2 rd⟩
/-- lo, lo + 1, .. -/
def rngW (lo : Int) (n : Nat) : List W := (List.range n).map fun i => wI (lo + (i : Nat))
theorem gi_rng (lo : Int) (n : Nat) : GI K V1 (Itr lo n) (rngW lo n) := by
  refine ⟨fun i H _ hi => by (have q := hi; simp [rngW] at q; exact q), fun i H _ hi => by (have q := hi; simp [rngW] at q; exact q), fun i H x H' w s y e F V2 os s2 r2 => ?_⟩
  obtain ⟨rfl, rfl⟩ := y
  unfold rngW at e
  rw [List.getElem?_map] at e
  cases q : (List.range n)[i]? with
  | none => rw [q] at e; cases e
  | some j =>
    rw [q] at e
    have : j = i := by
      obtain ⟨h1, h2⟩ := List.getElem?_eq_some_iff.mp q
      rw [List.getElem_range] at h2; exact h2.symm
    subst this
    cases e
    exact ⟨V2, Same.refl _, r2, rwI⟩
def rngC (lo c : Int) (n : Nat) : List W := (List.range n).map fun i => wI (lo + (i : Nat) * c)
theorem gi_rngC (lo c : Int) (n : Nat) : GI K V1 (Itc lo c n) (rngC lo c n) := by
  refine ⟨fun i H _ hi => by (have q := hi; simp [rngC] at q; exact q), fun i H _ hi => by (have q := hi; simp [rngC] at q; exact q), fun i H x H' w s y e F V2 os s2 r2 => ?_⟩
  obtain ⟨rfl, rfl⟩ := y
  unfold rngC at e
  rw [List.getElem?_map] at e
  cases q : (List.range n)[i]? with
  | none => rw [q] at e; cases e
  | some j =>
    rw [q] at e
    have : j = i := by
      obtain ⟨h1, h2⟩ := List.getElem?_eq_some_iff.mp q
      rw [List.getElem_range] at h2; exact h2.symm
    subst this
    cases e
    exact ⟨V2, Same.refl _, r2, rwI⟩
/-- (0, x), (1, y), .. -/
def enumW (ds : List D) : List W := (List.range ds.length).zip ds |>.map fun p => wT [.int (p.1 : Nat), p.2]
theorem enumW_get {ds : List D} {i : Nat} {w : W} (h : (enumW ds)[i]? = some w) : ∃ d, ds[i]? = some d ∧ w = wT [.int (i : Nat), d] := by
  unfold enumW at h
  rw [List.getElem?_map] at h
  cases q : ((List.range ds.length).zip ds)[i]? with
  | none => rw [q] at h; cases h
  | some z =>
    rw [q] at h
    rw [List.getElem?_zip_eq_some] at q
    obtain ⟨q1, q2⟩ := q
    obtain ⟨h1, h2⟩ := List.getElem?_eq_some_iff.mp q1
    rw [List.getElem_range] at h2
    refine ⟨z.2, q2, ?_⟩
    rw [h2]
    exact (Option.some.inj h).symm
theorem enumW_len (ds : List D) : (enumW ds).length = ds.length := by simp [enumW]
theorem gi_enum (h : SqL K V1 a xs) (r : RpA K V1 xs ds) : GI K V1 (Ite K a) (enumW ds) := by
  have hl := r.length
  refine ⟨fun i H s hi => ?_, fun i H s hi => ⟨xs, s.seq h, by rw [enumW_len] at hi; omega⟩, fun i H x H' w s y e F V2 os s2 r2 => ?_⟩
  · rw [enumW_len] at hi
    exact ⟨xs, xs[i]'(by omega), s.seq h, by simp [hl, hi]⟩
  · obtain ⟨T, v, rfl, hT, rfl, y⟩ := y
    have ex := y xs (s.seq h)
    obtain ⟨d, ed, rd⟩ := r.getV ex
    obtain ⟨d', ed', rfl⟩ := enumW_get e
    rw [ed] at ed'; cases ed'
    obtain ⟨s3, r3, rp⟩ := rel_newT (vs := [.int (i : Nat), v]) (ds := [.int (i : Nat), d]) r2 hT (.cons (.int _) (.cons (Rp.mono s2 rd) .nil))
    exact ⟨_, s3, r3, rp⟩
def zipW (ds es : List D) : List W := (ds.zip es).map fun p => wT [p.1, p.2]
theorem zipW_get {ds es : List D} {i : Nat} {w : W} (h : (zipW ds es)[i]? = some w) : ∃ d e, ds[i]? = some d ∧ es[i]? = some e ∧ w = wT [d, e] := by
  unfold zipW at h
  rw [List.getElem?_map] at h
  cases q : (ds.zip es)[i]? with
  | none => rw [q] at h; cases h
  | some z =>
    rw [q] at h
    rw [List.getElem?_zip_eq_some] at q
    exact ⟨z.1, z.2, q.1, q.2, (Option.some.inj h).symm⟩
theorem gi_zip {b : Addr} {ys : List V} {es : List D} (h : SqL K V1 a xs) (r : RpA K V1 xs ds) (h' : SqL K V1 b ys) (r' : RpA K V1 ys es) : GI K V1 (Itz K a b) (zipW ds es) := by
  have hl := r.length
  have hl' := r'.length
  have hz : (zipW ds es).length = min ds.length es.length := by simp [zipW]
  refine ⟨fun i H s hi => ?_, fun i H s hi => ⟨xs, ys, s.seq h, s.seq h', by rw [hz] at hi; omega⟩, fun i H x H' w s y e F V2 os s2 r2 => ?_⟩
  · rw [hz] at hi
    exact ⟨xs, ys, xs[i]'(by omega), ys[i]'(by omega), s.seq h, s.seq h', by simp, by simp⟩
  · obtain ⟨T, v, v', rfl, hT, rfl, y, y'⟩ := y
    obtain ⟨d, ed, rd⟩ := r.getV (y xs (s.seq h))
    obtain ⟨d2, ed2, rd2⟩ := r'.getV (y' ys (s.seq h'))
    obtain ⟨d', e', f1, f2, rfl⟩ := zipW_get e
    rw [ed] at f1; cases f1
    rw [ed2] at f2; cases f2
    obtain ⟨s3, r3, rp⟩ := rel_newT (vs := [v, v']) (ds := [d, d2]) r2 hT (.cons (Rp.mono s2 rd) (.cons (Rp.mono s2 rd2) .nil))
    exact ⟨_, s3, r3, rp⟩
end
section
variable {X : Cx} {env : DEnv} {os : Os} {ki : List W → Os → Prop} {tg e a b : Expr} {p pos : Pos}
theorem xi_list (h : XE X e env os fun w os1 => ∃ ds : List D, w = wL ds ∧ ki (ds.map W.d) os1) : XI X tg e env os ki := by
  intro F V0 H σ R r sr c
  refine wPI_of (pi_list wE_pe) ?_
  refine h F V0 H σ _ r sr fun V1 os1 H1 v w s1 r1 rv ⟨ds, e1, q⟩ => ?_
  subst e1
  obtain ⟨p, xs, rfl, h1, h2⟩ := rp_lst rv
  exact ⟨p, rfl, ⟨xs, r1.vi.seq h1⟩, c V1 os1 H1 _ _ s1 r1 (gi_list h1 h2) q⟩
theorem xi_tup (h : XE X e env os fun w os1 => ∃ ds : List D, w = wT ds ∧ ki (ds.map W.d) os1) : XI X tg e env os ki := by
  intro F V0 H σ R r sr c
  refine wPI_of (pi_tup wE_pe) ?_
  refine h F V0 H σ _ r sr fun V1 os1 H1 v w s1 r1 rv ⟨ds, e1, q⟩ => ?_
  subst e1
  obtain ⟨p, xs, rfl, h1, h2⟩ := rp_tup rv
  exact ⟨p, rfl, ⟨xs, same_sqT r1.vi h1⟩, c V1 os1 H1 _ _ s1 r1 (gi_tup h1 h2) q⟩
theorem xi_range1 (hg : Gl X "range") (hm : X.mg "range" = none) (h : XE X a env os fun w os1 => ∃ j, w = wI j ∧ -(2 ^ 62) ≤ j ∧ j < 2 ^ 62 ∧ ki (rngW 0 j.toNat) os1)
    (hs : starEach [a] X.env = [(false, eval a X.env)] := by rfl) : XI X tg (.Call (.Name "range" p) [a] [] pos) env os ki := by
  intro F V0 H σ R r sr c
  refine wPI_of (pi_range1 hg hm (pa_cons wE_pe pa_nil hs) hs) ?_
  refine h F V0 H σ _ r sr fun V1 os1 H1 v w s1 r1 rv ⟨j, e1, b1, b2, q⟩ => ?_
  subst e1
  cases rv
  exact ⟨j, rfl, b1, b2, c V1 os1 H1 _ _ s1 r1 (gi_rng 0 _) q⟩
theorem xi_range2 (hg : Gl X "range") (hm : X.mg "range" = none) (h : XE X a env os fun w os1 => XE X b env os1 fun w2 os2 => ∃ i j, w = wI i ∧ w2 = wI j ∧ (-(2 ^ 62) ≤ i ∧ i < 2 ^ 62 ∧ -(2 ^ 62) ≤ j ∧ j < 2 ^ 62) ∧ ki (rngW i (j - i).toNat) os2)
    (hs : starEach [a, b] X.env = [(false, eval a X.env), (false, eval b X.env)] := by rfl) (hs2 : starEach [b] X.env = [(false, eval b X.env)] := by rfl) : XI X tg (.Call (.Name "range" p) [a, b] [] pos) env os ki := by
  intro F V0 H σ R r sr c
  refine wPI_of (pi_range2 hg hm (pa_cons wE_pe (pa_cons wE_pe pa_nil hs2) (by rw [hs, hs2])) hs hs2) ?_
  refine h F V0 H σ _ r sr fun V1 os1 H1 v w s1 r1 rv hx => ?_
  refine hx F V1 H1 σ _ r1 (sr.mono s1) fun V2 os2 H2 u y s2 r2 ru ⟨i, j, e1, e2, bb, q⟩ => ?_
  subst e1 e2
  cases rv; cases ru
  exact ⟨i, j, rfl, bb, c V2 os2 H2 _ _ (s1.trans s2) r2 (gi_rng i _) q⟩
theorem xi_enum {elts : List Expr} {kk : Nat} {tpos : Pos} (hg : Gl X "enumerate") (hm : X.mg "enumerate" = none) (h : XE X e env os fun w os1 => ∃ ds : List D, w = wL ds ∧ ki (enumW ds) os1)
    (hs : starEach [e] X.env = [(false, eval e X.env)] := by rfl) : XI X (.Tuple elts kk tpos) (.Call (.Name "enumerate" p) [e] [] pos) env os ki := by
  intro F V0 H σ R r sr c
  refine wPI_of (pi_enum hg hm (pa_cons wE_pe pa_nil hs) hs) ?_
  refine h F V0 H σ _ r sr fun V1 os1 H1 v w s1 r1 rv ⟨ds, e1, q⟩ => ?_
  subst e1
  obtain ⟨p, xs, rfl, h1, h2⟩ := rp_lst rv
  exact ⟨p, xs, rfl, r1.vi.seq h1, c V1 os1 H1 _ _ s1 r1 (gi_enum h1 h2) q⟩
theorem xi_zip {elts : List Expr} {kk : Nat} {tpos : Pos} (hg : Gl X "zip") (hm : X.mg "zip" = none) (h : XE X a env os fun w os1 => XE X b env os1 fun w2 os2 => ∃ ds es : List D, w = wL ds ∧ w2 = wL es ∧ ki (zipW ds es) os2)
    (hs : starEach [a, b] X.env = (false, eval a X.env) :: starEach [b] X.env := by rfl) (hs2 : starEach [b] X.env = [(false, eval b X.env)] := by rfl) (hpl : (backTo pos (starEach [b] X.env)).any (·.1) = false := by rfl) :
    XI X (.Tuple elts kk tpos) (.Call (.Name "zip" p) [a, b] [] pos) env os ki := by
  intro F V0 H σ R r sr c
  refine wPI_of (pi_zip hg hm (pa_cons wE_pe (pa_cons wE_pe pa_nil hs2) hs) hs hpl) ?_
  refine h F V0 H σ _ r sr fun V1 os1 H1 v w s1 r1 rv hx => ?_
  refine hx F V1 H1 σ _ r1 (sr.mono s1) fun V2 os2 H2 u y s2 r2 ru ⟨ds, es, e1, e2, q⟩ => ?_
  subst e1 e2
  obtain ⟨p, xs, rfl, h1, h2⟩ := rp_lst rv
  obtain ⟨p', ys, rfl, h3, h4⟩ := rp_lst ru
  exact ⟨p, p', xs, ys, rfl, (s2.trans r2.vi).seq h1, r2.vi.seq h3, c V2 os2 H2 _ _ (s1.trans s2) r2 (gi_zip (s2.seq h1) (RpA.mono s2 h2) h3 h4) q⟩
end

/-! ### for -/
def XFor (X : Cx) (tg : Expr) (body : List Stmt) (K : DEnds) : List W → DEnv → Os → Prop
  | [], env, os => K.nx env os
  | w :: ws, env, os => XG X tg w env os fun env1 os1 => XS X body env1 os1 { K with nx := XFor X tg body K ws, ct := XFor X tg body K ws, bk := K.nx }
theorem x1_for {X : Cx} {env : DEnv} {os : Os} {K : DEnds} {tg iter : Expr} {body : List Stmt} {pos : Pos} (h : XI X tg iter env os fun ws os1 => XFor X tg body K ws env os1) (hc : X.calm = true) (hp : PassesOwn (model X.prog X.w) X.A X.env X.xe)
    (hs : ∀ x, foldedSetIterable iter X.env x = pure x := by intro _; rfl) : X1 X (.For tg iter body [] pos) env os K := by
  intro F V0 H σ D r sr ek
  refine wS1_of (ps_for hp hc wPI_pi wG_pg wSs_pss hs) ?_
  refine h F V0 H σ _ r sr fun V1 os1 H1 J ws s1 r1 gi q => ?_
  refine ⟨fun i m σ2 H2 => m = ws.length - i ∧ i ≤ ws.length ∧ ∃ (V2 : Hp) (os2 : Os) (env2 : DEnv), Same V1 V2 ∧ Rel X.K F V2 os2 H2 ∧ SR X.K V2 σ2 env2 ∧ XFor X tg body K (ws.drop i) env2 os2,
    ⟨ws.length, rfl, Nat.zero_le _, V1, os1, env, Same.refl _, r1, sr.mono s1, q⟩, ?_⟩
  rintro i m σ2 H2 ⟨rfl, hi, V2, os2, env2, s2, r2, sr2, q2⟩
  by_cases hlt : i < ws.length
  · refine .inr ⟨gi.go i H2 (s2.trans r2.vi) hlt, fun σ3 H3 => ∃ (V3 : Hp) (os3 : Os) (env3 : DEnv), Same V1 V3 ∧ Rel X.K F V3 os3 H3 ∧ SR X.K V3 σ3 env3 ∧ XFor X tg body K (ws.drop (i + 1)) env3 os3,
      fun σ3 H3 q3 => ⟨ws.length - (i + 1), by omega, rfl, hlt, q3⟩, fun x H' y => ?_⟩
    rw [List.drop_eq_getElem_cons hlt] at q2
    obtain ⟨V3, s3, r3, rw3⟩ := gi.yld i H2 x H' ws[i] (s2.trans r2.vi) y (List.getElem?_eq_getElem hlt) F V2 os2 s2 r2
    refine q2 F V3 H' σ2 x _ r3 (sr2.mono s3) rw3 fun V4 os4 H4 σ4 env4 s4 r4 sr4 q4 => ?_
    have s14 := (s2.trans s3).trans s4
    refine q4 F V4 H4 σ4 _ r4 sr4 ⟨fun V5 os5 H5 σ5 env5 s5 r5 sr5 q5 => ⟨V5, os5, env5, s14.trans s5, r5, sr5, q5⟩, fun V5 os5 H5 v w s5 r5 rv q5 => ?_, fun V5 os5 H5 σ5 env5 s5 r5 sr5 q5 => ?_, fun V5 os5 H5 σ5 env5 s5 r5 sr5 q5 => ⟨V5, os5, env5, s14.trans s5, r5, sr5, q5⟩⟩
    · exact ek.rt V5 os5 H5 v w ((s1.trans s14).trans s5) r5 rv q5
    · exact ek.nx V5 os5 H5 σ5 env5 ((s1.trans s14).trans s5) r5 sr5 q5
  · have e : i = ws.length := by omega
    subst e
    rw [List.drop_length] at q2
    exact .inl ⟨gi.stop _ H2 (s2.trans r2.vi) (Nat.le_refl _), ek.nx V2 os2 H2 σ2 env2 (s1.trans s2) r2 sr2 q2⟩
theorem XS.mono {X : Cx} {sts : List Stmt} {env : DEnv} {os : Os} {K K' : DEnds} (h : XS X sts env os K) (hn : ∀ e o, K.nx e o → K'.nx e o) (hr : ∀ w o, K.rt w o → K'.rt w o) (hb : ∀ e o, K.bk e o → K'.bk e o) (hc : ∀ e o, K.ct e o → K'.ct e o) : XS X sts env os K' :=
  fun F V0 H σ D r sr ek => h F V0 H σ D r sr ⟨fun V1 o1 H1 σ1 e1 a b c q => ek.nx V1 o1 H1 σ1 e1 a b c (hn _ _ q), fun V1 o1 H1 v w a b c q => ek.rt V1 o1 H1 v w a b c (hr _ _ q), fun V1 o1 H1 σ1 e1 a b c q => ek.bk V1 o1 H1 σ1 e1 a b c (hb _ _ q), fun V1 o1 H1 σ1 e1 a b c q => ek.ct V1 o1 H1 σ1 e1 a b c (hc _ _ q)⟩
theorem XG.mono {X : Cx} {tg : Expr} {w : W} {env : DEnv} {os : Os} {k k' : DEnv → Os → Prop} (h : XG X tg w env os k) (hk : ∀ e o, k e o → k' e o) : XG X tg w env os k' :=
  fun F V0 H σ v Q r sr rv c => h F V0 H σ v Q r sr rv fun V1 o1 H1 σ1 e1 a b d q => c V1 o1 H1 σ1 e1 a b d (hk _ _ q)
theorem XE.mono {X : Cx} {e : Expr} {env : DEnv} {os : Os} {k k' : W → Os → Prop} (h : XE X e env os k) (hk : ∀ w o, k w o → k' w o) : XE X e env os k' :=
  fun F V0 H σ Q r sr c => h F V0 H σ Q r sr fun V1 o1 H1 v w a b d q => c V1 o1 H1 v w a b d (hk _ _ q)
/-- by an invariant over the turn -/
theorem xfor_inv {X : Cx} {tg : Expr} {body : List Stmt} {K : DEnds} {ws : List W} {env : DEnv} {os : Os} (I : Nat → DEnv → Os → Prop) (h0 : I 0 env os)
    (hs : ∀ i w env os, ws[i]? = some w → I i env os → XG X tg w env os fun env1 os1 => XS X body env1 os1 { K with nx := I (i + 1), ct := I (i + 1), bk := K.nx })
    (hd : ∀ env os, I ws.length env os → K.nx env os) : XFor X tg body K ws env os := by
  have gen : ∀ (m i : Nat) (env : DEnv) (os : Os), m = ws.length - i → i ≤ ws.length → I i env os → XFor X tg body K (ws.drop i) env os := by
    intro m
    induction m with
    | zero =>
      intro i env os hm hi h
      have e : i = ws.length := by omega
      subst e
      rw [List.drop_length]
      exact hd env os h
    | succ m ih =>
      intro i env os hm hi h
      have hlt : i < ws.length := by omega
      rw [List.drop_eq_getElem_cons hlt]
      refine XG.mono (hs i ws[i] env os (List.getElem?_eq_getElem hlt) h) fun e o q => ?_
      exact XS.mono q (fun e o z => ih (i + 1) e o (by omega) hlt z) (fun _ _ z => z) (fun _ _ z => z) (fun e o z => ih (i + 1) e o (by omega) hlt z)
  exact gen _ 0 env os rfl (Nat.zero_le _) h0

/-! ### while -/
theorem x1_while {X : Cx} {env : DEnv} {os : Os} {K : DEnds} {c : Expr} {body : List Stmt} {pos : Pos} (I : Nat → DEnv → Os → Prop) (m0 : Nat) (h0 : I m0 env os)
    (hs : ∀ m env os, I m env os → XT X c env os fun b os1 => (b = true → XS X body env os1 { K with nx := fun e o => ∃ m', m' < m ∧ I m' e o, ct := fun e o => ∃ m', m' < m ∧ I m' e o, bk := K.nx }) ∧ (b = false → K.nx env os1))
    (hp : PassesOwn (model X.prog X.w) X.A X.env X.xe) : X1 X (.While c body [] pos) env os K := by
  intro F V0 H σ D r sr ek
  refine wS1_of (ps_while hp wTt_pt wSs_pss) ?_
  refine ⟨fun m σ1 H1 => ∃ (V1 : Hp) (os1 : Os) (env1 : DEnv), Same V0 V1 ∧ Rel X.K F V1 os1 H1 ∧ SR X.K V1 σ1 env1 ∧ I m env1 os1, ⟨m0, V0, os, env, Same.refl _, r, sr, h0⟩, ?_⟩
  rintro m σ1 H1 ⟨V1, os1, env1, s1, r1, sr1, q⟩
  refine hs m env1 os1 q F V1 H1 σ1 _ r1 sr1 fun V2 os2 H2 b s2 r2 q2 => ?_
  cases b with
  | false => exact iteF (ek.nx V2 os2 H2 σ1 env1 (s1.trans s2) r2 (sr1.mono s2) (q2.2 rfl))
  | true =>
    refine iteT ⟨fun σ3 H3 => ∃ m', m' < m ∧ ∃ (V3 : Hp) (os3 : Os) (env3 : DEnv), Same V0 V3 ∧ Rel X.K F V3 os3 H3 ∧ SR X.K V3 σ3 env3 ∧ I m' env3 os3, fun σ3 H3 z => z, ?_⟩
    refine q2.1 rfl F V2 H2 σ1 _ r2 (sr1.mono s2) ⟨fun V3 os3 H3 σ3 env3 s3 r3 sr3 ⟨m', hm, q3⟩ => ⟨m', hm, V3, os3, env3, (s1.trans s2).trans s3, r3, sr3, q3⟩, fun V3 os3 H3 v w s3 r3 rv q3 => ek.rt V3 os3 H3 v w ((s1.trans s2).trans s3) r3 rv q3,
      fun V3 os3 H3 σ3 env3 s3 r3 sr3 q3 => ek.nx V3 os3 H3 σ3 env3 ((s1.trans s2).trans s3) r3 sr3 q3, fun V3 os3 H3 σ3 env3 s3 r3 sr3 ⟨m', hm, q3⟩ => ⟨m', hm, V3, os3, env3, (s1.trans s2).trans s3, r3, sr3, q3⟩⟩
end DL

set_option Elab.async false
set_option linter.all false
set_option maxRecDepth 100000
/-! DL5: list comprehensions. -/
namespace DL
open PySem PySem.Spec PyProof.Rows L2
def wTs (X : Cx) (ifs : List Expr) : TT := fun σ H Q => ∀ (pins : List (Addr × Obj)) (s : Shared), Inv X pins σ H s →
    wpAny (model X.prog X.w) X.A (forIn ifs true fun c r => if r = true then do let ok ← isTrue c X.env (eval c X.env); pure (ForInStep.yield ok) else pure (ForInStep.yield r)) (TP X pins σ Q) X.xe s
def XTs (X : Cx) (ifs : List Expr) (env : DEnv) (os : Os) (k : Bool → Os → Prop) : Prop :=
  ∀ (F V0 H : Hp) (σ : L2.St) (Q : Bool → Hp → Prop), Rel X.K F V0 os H → SR X.K V0 σ env →
    (∀ (V1 : Hp) (os1 : Os) (H1 : Hp) (b : Bool), Same V0 V1 → Rel X.K F V1 os1 H1 → k b os1 → Q b H1) → wTs X ifs σ H Q
theorem xts_nil {X : Cx} {env : DEnv} {os : Os} {k : Bool → Os → Prop} (q : k true os) : XTs X [] env os k := fun F V0 H σ Q r sr c pins s I => pts_nil.run pins s σ H Q I (c V0 os H true (Same.refl _) r q)
theorem xts_one {X : Cx} {e : Expr} {env : DEnv} {os : Os} {k : Bool → Os → Prop} (h : XT X e env os k) : XTs X [e] env os k := fun F V0 H σ Q r sr c pins s I => (pts_one wTt_pt).run pins s σ H Q I (h F V0 H σ Q r sr c)
def wipeD (env : DEnv) : List Nat → DEnv
  | [] => env
  | v :: vs => (wipeD env vs).set v none
theorem wipeD_len (env : DEnv) : ∀ vs : List Nat, (wipeD env vs).length = env.length
  | [] => rfl
  | v :: vs => by unfold wipeD; rw [List.length_set, wipeD_len env vs]
theorem set_none {K : PySem.W.Frag} {V0 : Hp} {σ : L2.St} {env : DEnv} (h : SR K V0 σ env) (i : Nat) : SR K V0 (σ.set i none) (env.set i none) := by
  refine ⟨by rw [List.length_set, List.length_set]; exact h.1, fun j u q => ?_⟩
  by_cases e : i = j
  · subst e
    have hi : i < env.length := by
      have := (List.getElem?_eq_some_iff.mp q).1
      rw [List.length_set] at this; exact this
    rw [List.getElem?_set_self hi] at q
    cases q
  · rw [List.getElem?_set_ne e] at q ⊢
    exact h.2 j u q
theorem sr_wipe {K : PySem.W.Frag} {V0 : Hp} {σ : L2.St} {env : DEnv} (h : SR K V0 σ env) : ∀ vs : List Nat, SR K V0 (L2.wipe σ vs) (wipeD env vs)
  | [] => h
  | v :: vs => set_none (sr_wipe h vs) v
theorem wipe_set {σ : L2.St} {i : Nat} {x : Option V} : ∀ {vs : List Nat}, i ∈ vs → L2.wipe (σ.set i x) vs = L2.wipe σ vs
  | [], h => by cases h
  | v :: vs, h => by
    unfold L2.wipe
    by_cases hv : i ∈ vs
    · rw [wipe_set hv]
    · have e : i = v := by
        rcases List.mem_cons.mp h with e | e
        · exact e
        · exact absurd e hv
      subst e
      have gen : ∀ us : List Nat, i ∉ us → L2.wipe (σ.set i x) us = (L2.wipe σ us).set i x := by
        intro us
        induction us with
        | nil => intro _; rfl
        | cons u us ih =>
          intro hu
          unfold L2.wipe
          rw [ih fun z => hu (List.mem_cons_of_mem _ z), List.set_comm]
          intro e; exact hu (by rw [e]; exact List.mem_cons_self)
      rw [gen vs hv, List.set_set]
theorem wipe_idem {σ : L2.St} {i : Nat} {x : Option V} {vs : List Nat} (h : i ∈ vs) : L2.wipe ((L2.wipe σ vs).set i x) vs = L2.wipe (L2.wipe σ vs) vs := wipe_set h
theorem wipe_wipe {σ : L2.St} (vs : List Nat) : L2.wipe (L2.wipe σ vs) vs = L2.wipe σ vs := by
  refine List.ext_getElem? fun j => ?_
  by_cases hj : j ∈ vs
  · have gen : ∀ (τ : L2.St) (us : List Nat), j ∈ us → (L2.wipe τ us)[j]? = τ[j]?.map fun _ => none := by
      intro τ us
      induction us with
      | nil => intro h; cases h
      | cons u us ih =>
        intro h
        unfold L2.wipe
        by_cases e : u = j
        · subst e
          rw [List.getElem?_set_self', ]
          by_cases hu : u ∈ us
          · rw [ih hu]; cases τ[u]? <;> rfl
          · rw [L2.wipe_out hu]; cases τ[u]? <;> rfl
        · rw [List.getElem?_set_ne e]
          refine ih ?_
          rcases List.mem_cons.mp h with z | z
          · exact absurd z.symm e
          · exact z
    rw [gen _ vs hj, gen _ vs hj]
    cases σ[j]? <;> rfl
  · rw [L2.wipe_out hj, L2.wipe_out hj]

/-- the block's context -/
abbrev Bk (X : Cx) (scope : Scope) (s : Shared) (H : Hp) (C : Addr) (cl : List (Str × Addr)) (fp : List Addr) : Cx := X.blk s H scope (compEnvC scope cl C X.env) fp
/-- the turns over ws, acc made so far; i: the target's slot -/
def XLc (X : Cx) (scope : Scope) (vs : List Nat) (i : Nat) (ifs : List Expr) (elt : Expr) (env : DEnv) (k : List D → Os → Prop) : List W → List D → Os → Prop
  | [], acc, os => k acc os
  | w :: ws, acc, os => ∀ s H C cl fp, XTs (Bk X scope s H C cl fp) ifs ((wipeD env vs).set i (some w)) os fun b os1 =>
      (b = true → ∀ s H C cl fp, XE (Bk X scope s H C cl fp) elt ((wipeD env vs).set i (some w)) os1 fun y os2 => ∃ d, y = .d d ∧ XLc X scope vs i ifs elt env k ws (acc ++ [d]) os2) ∧
      (b = false → XLc X scope vs i ifs elt env k ws acc os1)
theorem tlc_of {X : Cx} {env : DEnv} {os : Os} {k : W → Os → Prop} {kk : List D → Os → Prop} (hfin : (∀ ds os2, kk ds os2 → k (wL ds) os2) ∨ ∀ ds os2, kk ds os2 → ∀ p, k (.ref p) ((p, .lst (ds.map W.d)) :: os2)) {elt iter : Expr} {x : Str} {px : Pos} {ifs : List Expr} {scope : Scope} {own : List (Str × Nat)} {i : Nat} (hm : i ∈ own.map (·.2))
    (h : XI X (.Name x px) iter env os fun ws os1 => ws.length ≤ sizeLine ∧ XLc X scope (own.map (·.2)) i ifs elt env kk ws [] os1) {F V0 H : Hp} {σ : L2.St} {Q : VK} (r : Rel X.K F V0 os H) (sr : SR X.K V0 σ env)
    (c : ∀ (V1 : Hp) (os1 : Os) (H1 : Hp) (v : V) (w : W), Same V0 V1 → Rel X.K F V1 os1 H1 → RW X.K V1 v w → k w os1 → Q v H1) :
    tLc (wPI X (.Name x px) iter) (gName i) (fun σ H Q => ∀ s0 H0 C cl fp, wTs (Bk X scope s0 H0 C cl fp) ifs σ H Q) (fun σ H Q => ∀ s0 H0 C cl fp, wE (Bk X scope s0 H0 C cl fp) elt σ H Q) (own.map (·.2)) σ H Q := by
  refine h F V0 H σ _ r sr fun V1 os1 H1 J ws s1 r1 gi ⟨hz, q⟩ => ?_
  intro L hL
  have hFL := r1.fr.free hL
  have hVL := r1.vi.free hL
  -- the list in the frame
  have put : ∀ (acc : List V) (V2 : Hp) (os2 : Os) (H2 : Hp), Rel X.K F V2 os2 H2 → H2 L = none → Rel X.K (upd F L (.lst acc)) V2 os2 (upd H2 L (.lst acc)) := by
    intro acc V2 os2 H2 r2 hn
    have f2 := r2.fr.free hn
    have v2 := r2.vi.free hn
    refine ⟨fun a o e => ?_, fun a o e => ?_, fun a o e => ?_, fun p hp => ?_, r2.nd⟩
    · by_cases ha : a = L
      · subst ha; rw [upd_same] at e ⊢; exact e
      · rw [upd_ne ha] at e ⊢; exact r2.fr a o e
    · rw [upd_ne (ne_of_none e v2)]
      exact r2.vi a o e
    · by_cases ha : a = L
      · subst ha; exact v2
      · rw [upd_ne ha] at e; exact r2.fv a o e
    · obtain ⟨h1, h2, ho, h3, h4⟩ := r2.own p hp
      have ne := ne_of_none h3 hn
      exact ⟨by rw [upd_ne ne]; exact h1, h2, ho, by rw [upd_ne ne]; exact h3, h4⟩
  have grow : ∀ (acc acc' : List V) (V2 : Hp) (os2 : Os) (H2 : Hp), Rel X.K (upd F L (.lst acc)) V2 os2 H2 → Rel X.K (upd F L (.lst acc')) V2 os2 (upd H2 L (.lst acc')) := by
    intro acc acc' V2 os2 H2 r2
    have v2 : V2 L = none := r2.fv L _ upd_same
    refine ⟨fun a o e => ?_, fun a o e => ?_, fun a o e => ?_, fun p hp => ?_, r2.nd⟩
    · by_cases ha : a = L
      · subst ha; rw [upd_same] at e ⊢; exact e
      · rw [upd_ne ha] at e ⊢; exact r2.fr a o (by rw [upd_ne ha]; exact e)
    · rw [upd_ne (ne_of_none e v2)]
      exact r2.vi a o e
    · by_cases ha : a = L
      · subst ha; exact v2
      · rw [upd_ne ha] at e; exact r2.fv a o (by rw [upd_ne ha]; exact e)
    · obtain ⟨h1, h2, ho, h3, h4⟩ := r2.own p hp
      have ne : p.1 ≠ L := fun z => by rw [z, upd_same] at h1; cases h1
      exact ⟨by rw [upd_ne ne] at h1 ⊢; exact h1, h2, ho, by rw [upd_ne ne]; exact h3, h4⟩
  have done : ∀ (acc : List V) (V2 : Hp) (os2 : Os) (H2 : Hp), Rel X.K (upd F L (.lst acc)) V2 os2 H2 → Same V2 (upd V2 L (.lst acc)) ∧ Rel X.K F (upd V2 L (.lst acc)) os2 H2 := by
    intro acc V2 os2 H2 r2
    have v2 : V2 L = none := r2.fv L _ upd_same
    have sv := same_upd (o := .lst acc) v2
    refine ⟨sv, ⟨fun a o e => r2.fr a o (by rw [upd_ne (ne_of_none e hFL)]; exact e), fun a o e => ?_, fun a o e => ?_, fun p hp => ?_, r2.nd⟩⟩
    · by_cases ha : a = L
      · subst ha; rw [upd_same] at e; exact r2.fr a o (by rw [upd_same]; exact e)
      · rw [upd_ne ha] at e; exact r2.vi a o e
    · have ne := ne_of_none e hFL
      rw [upd_ne ne]
      exact r2.fv a o (by rw [upd_ne ne]; exact e)
    · obtain ⟨h1, h2, ho, h3, h4⟩ := r2.own p hp
      have ne : p.1 ≠ L := fun z => by rw [z, upd_same] at h1; cases h1
      exact ⟨by rw [upd_ne ne] at h1; exact h1, by rw [upd_ne ne]; exact h2, ho, h3, h4.mono sv⟩
  refine ⟨fun j m H2 => m = ws.length - j ∧ j ≤ ws.length ∧ ∃ (V2 : Hp) (os2 : Os) (av : List V) (ad : List D), Same V1 V2 ∧ Rel X.K (upd F L (.lst av)) V2 os2 H2 ∧ RpA X.K V2 av ad ∧ ad.length ≤ j ∧ XLc X scope (own.map (·.2)) i ifs elt env kk (ws.drop j) ad os2,
    ⟨ws.length, rfl, Nat.zero_le _, V1, os1, [], [], Same.refl _, put [] V1 os1 H1 r1 hL, .nil, Nat.le_refl _, q⟩, ?_⟩
  rintro j m H2 ⟨rfl, hj, V2, os2, av, ad, s2, r2, ra2, hl2, q2⟩
  by_cases hlt : j < ws.length
  · refine .inr ⟨gi.go j H2 (s2.trans r2.vi) hlt, fun H3 => ∃ (V3 : Hp) (os3 : Os) (av3 : List V) (ad3 : List D), Same V1 V3 ∧ Rel X.K (upd F L (.lst av3)) V3 os3 H3 ∧ RpA X.K V3 av3 ad3 ∧ ad3.length ≤ j + 1 ∧ XLc X scope (own.map (·.2)) i ifs elt env kk (ws.drop (j + 1)) ad3 os3,
      fun H3 q3 => ⟨ws.length - (j + 1), by omega, rfl, hlt, q3⟩, fun x' H' y => ?_⟩
    rw [List.drop_eq_getElem_cons hlt] at q2
    obtain ⟨V3, s3, r3, rw3⟩ := gi.yld j H2 x' H' ws[j] (s2.trans r2.vi) y (List.getElem?_eq_getElem hlt) (upd F L (.lst av)) V2 os2 s2 r2
    have sr3 : SR X.K V3 ((L2.wipe σ (own.map (·.2))).set i (some x')) ((wipeD env (own.map (·.2))).set i (some ws[j])) := ((sr_wipe (sr.mono s1) _).mono (s2.trans s3)).set rw3 i
    refine ⟨by rw [wipe_set hm, wipe_wipe], fun s0 H0 C cl fp => ?_⟩
    refine q2 s0 H0 C cl fp (upd F L (.lst av)) V3 H' _ _ r3 sr3 fun V4 os4 H4 b s4 r4 q4 => ?_
    cases b with
    | false => exact iteF ⟨V4, os4, av, ad, (s2.trans s3).trans s4, r4, RpA.mono (s3.trans s4) ra2, Nat.le_succ_of_le hl2, q4.2 rfl⟩
    | true =>
      refine iteT fun s0 H0 C cl fp => ?_
      refine q4.1 rfl s0 H0 C cl fp (upd F L (.lst av)) V4 H4 _ _ r4 (sr3.mono s4) fun V5 os5 H5 y5 w5 s5 r5 rw5 ⟨d, e5, q5⟩ => ?_
      subst e5
      have s35 := (s3.trans s4).trans s5
      have ra5 : RpA X.K V5 (av ++ [y5]) (ad ++ [d]) := (RpA.mono s35 ra2).append (.cons rw5 .nil)
      refine ⟨av, r5.fr L _ upd_same, ?_, V5, os5, av ++ [y5], ad ++ [d], s2.trans s35, grow av _ V5 os5 H5 r5, ra5, by rw [List.length_append, List.length_singleton]; omega, q5⟩
      rw [ra2.length]
      omega
  · have e : j = ws.length := by omega
    subst e
    rw [List.drop_length] at q2
    refine .inl ⟨gi.stop _ H2 (s2.trans r2.vi) (Nat.le_refl _), ?_⟩
    rcases hfin with hfin | hfin
    · obtain ⟨sv, r3⟩ := done av V2 os2 H2 r2
      exact c _ os2 H2 (.ref L) (wL ad) ((s1.trans s2).trans sv) r3 (.lst (.inl (.inl upd_same)) (RpA.mono sv ra2)) (hfin _ _ q2)
    · have v2 : V2 L = none := r2.fv L _ upd_same
      refine c V2 ((L, .lst (ad.map W.d)) :: os2) H2 (.ref L) (.ref L) (s1.trans s2) ⟨fun a o e => r2.fr a o (by rw [upd_ne (ne_of_none e hFL)]; exact e), r2.vi, fun a o e => ?_, fun p hp => ?_, ?_⟩ rfl (hfin _ _ q2 L)
      · exact r2.fv a o (by rw [upd_ne (ne_of_none e hFL)]; exact e)
      · rcases List.mem_cons.mp hp with e | hp
        · subst e
          exact ⟨hFL, v2, _, r2.fr L _ upd_same, av, rfl, RWs.ofA ra2⟩
        · obtain ⟨h1, h2, ho, h3, h4⟩ := r2.own p hp
          have ne : p.1 ≠ L := fun z => by rw [z, upd_same] at h1; cases h1
          exact ⟨by rw [upd_ne ne] at h1; exact h1, h2, ho, h3, h4⟩
      · rw [List.map_cons, List.nodup_cons]
        refine ⟨fun hm => ?_, r2.nd⟩
        obtain ⟨q, hq, e⟩ := List.mem_map.mp hm
        obtain ⟨h1, _⟩ := r2.own q hq
        have e' : q.1 = L := e
        rw [e', upd_same] at h1
        cases h1
theorem xe_lc {X : Cx} {env : DEnv} {os : Os} {k : W → Os → Prop} {elt iter : Expr} {x : Str} {px : Pos} {ifs : List Expr} {scope : Scope} {own : List (Str × Nat)} {pos : Pos} {i : Nat} (hc : X.calm = true) (hN : X.N.Nodup)
    (ok : BlkOk X.N X.env.scope scope own) (hi : X.N[i]? = some x) (hm : i ∈ own.map (·.2)) (hx : ∀ cl C, (compEnvC scope cl C X.env).scope.names.lookup x = some .local)
    (h : XI X (.Name x px) iter env os fun ws os1 => ws.length ≤ sizeLine ∧ XLc X scope (own.map (·.2)) i ifs elt env (fun ds os2 => k (wL ds) os2) ws [] os1)
    (hs : ∀ x, foldedSetIterable iter X.env x = pure x := by intro _; rfl) : XE X (.ListComp elt [⟨.Name x px, iter, ifs, 0⟩] scope pos) env os k := by
  intro F V0 H σ Q r sr c
  refine wE_of (pe_lc (X := X) (own := own) (wi := wPI X (.Name x px) iter) (g := gName i) (tt := fun σ H Q => ∀ s0 H0 C cl fp, wTs (Bk X scope s0 H0 C cl fp) ifs σ H Q) (te := fun σ H Q => ∀ s0 H0 C cl fp, wE (Bk X scope s0 H0 C cl fp) elt σ H Q) hc hN wPI_pi ok
    (fun s0 H0 C cl fp => pg_name (X := Bk X scope s0 H0 C cl fp) hN hi (.inl (hx cl C)) (.inr (hx cl C))) (fun s0 H0 C cl fp => ⟨fun pins s σ H Q I q => q s0 H0 C cl fp pins s I⟩) (fun s0 H0 C cl fp => ⟨fun pins s σ H Q I q => q s0 H0 C cl fp pins s I⟩) hs) ?_
  exact tlc_of (k := k) (.inl fun _ _ q => q) hm h r sr c
/-- the new list owned -/
theorem xe_lcO {X : Cx} {env : DEnv} {os : Os} {k : W → Os → Prop} {elt iter : Expr} {x : Str} {px : Pos} {ifs : List Expr} {scope : Scope} {own : List (Str × Nat)} {pos : Pos} {i : Nat} (hc : X.calm = true) (hN : X.N.Nodup)
    (ok : BlkOk X.N X.env.scope scope own) (hi : X.N[i]? = some x) (hm : i ∈ own.map (·.2)) (hx : ∀ cl C, (compEnvC scope cl C X.env).scope.names.lookup x = some .local)
    (h : XI X (.Name x px) iter env os fun ws os1 => ws.length ≤ sizeLine ∧ XLc X scope (own.map (·.2)) i ifs elt env (fun ds os2 => ∀ p, k (.ref p) ((p, .lst (ds.map W.d)) :: os2)) ws [] os1)
    (hs : ∀ x, foldedSetIterable iter X.env x = pure x := by intro _; rfl) : XE X (.ListComp elt [⟨.Name x px, iter, ifs, 0⟩] scope pos) env os k := by
  intro F V0 H σ Q r sr c
  refine wE_of (pe_lc (X := X) (own := own) (wi := wPI X (.Name x px) iter) (g := gName i) (tt := fun σ H Q => ∀ s0 H0 C cl fp, wTs (Bk X scope s0 H0 C cl fp) ifs σ H Q) (te := fun σ H Q => ∀ s0 H0 C cl fp, wE (Bk X scope s0 H0 C cl fp) elt σ H Q) hc hN wPI_pi ok
    (fun s0 H0 C cl fp => pg_name (X := Bk X scope s0 H0 C cl fp) hN hi (.inl (hx cl C)) (.inr (hx cl C))) (fun s0 H0 C cl fp => ⟨fun pins s σ H Q I q => q s0 H0 C cl fp pins s I⟩) (fun s0 H0 C cl fp => ⟨fun pins s σ H Q I q => q s0 H0 C cl fp pins s I⟩) hs) ?_
  exact tlc_of (k := k) (.inr fun _ _ q => q) hm h r sr c
/-- name = [..] -/
theorem x1_setLc {X : Cx} {env : DEnv} {os : Os} {K : DEnds} {iy : Nat} {y : Str} {py spos : Pos} {elt iter : Expr} {x : Str} {px : Pos} {ifs : List Expr} {scope : Scope} {own : List (Str × Nat)} {pos : Pos} {i : Nat} (hc : X.calm = true) (hN : X.N.Nodup)
    (ok : BlkOk X.N X.env.scope scope own) (hi : X.N[i]? = some x) (hm : i ∈ own.map (·.2)) (hx : ∀ cl C, (compEnvC scope cl C X.env).scope.names.lookup x = some .local)
    (hy : X.N[iy]? = some y) (hyl : X.env.scope.names.lookup y = some .local) (hsw : swapsWith (.ListComp elt [⟨.Name x px, iter, ifs, 0⟩] scope pos) (some (.Name y py)) spos.line X.env = pure true)
    (h : XI X (.Name x px) iter env os fun ws os1 => ws.length ≤ sizeLine ∧ XLc X scope (own.map (·.2)) i ifs elt env (fun ds os2 => K.nx (env.set iy (some (wL ds))) os2) ws [] os1)
    (hs : ∀ x, foldedSetIterable iter X.env x = pure x := by intro _; rfl) : X1 X (.Assign [.Name y py] (.ListComp elt [⟨.Name x px, iter, ifs, 0⟩] scope pos) spos) env os K := by
  intro F V0 H σ D r sr ek
  refine wS1_of (ps_setLc (X := X) (i := iy) (own := own) (wi := wPI X (.Name x px) iter) (g := gName i) (tt := fun σ H Q => ∀ s0 H0 C cl fp, wTs (Bk X scope s0 H0 C cl fp) ifs σ H Q) (te := fun σ H Q => ∀ s0 H0 C cl fp, wE (Bk X scope s0 H0 C cl fp) elt σ H Q) hc hN hy hyl hsw wPI_pi ok
    (fun s0 H0 C cl fp => pg_name (X := Bk X scope s0 H0 C cl fp) hN hi (.inl (hx cl C)) (.inr (hx cl C))) (fun s0 H0 C cl fp => ⟨fun pins s σ H Q I q => q s0 H0 C cl fp pins s I⟩) (fun s0 H0 C cl fp => ⟨fun pins s σ H Q I q => q s0 H0 C cl fp pins s I⟩) hs) ?_
  refine tlc_of (k := fun w os1 => K.nx (env.set iy (some w)) os1) (.inl fun _ _ q => q) hm h r sr fun V1 os1 H1 v w s1 r1 rv q => ?_
  exact ek.nx V1 os1 H1 _ _ s1 r1 ((sr.mono s1).set rv iy) q
theorem x1_setLcO {X : Cx} {env : DEnv} {os : Os} {K : DEnds} {iy : Nat} {y : Str} {py spos : Pos} {elt iter : Expr} {x : Str} {px : Pos} {ifs : List Expr} {scope : Scope} {own : List (Str × Nat)} {pos : Pos} {i : Nat} (hc : X.calm = true) (hN : X.N.Nodup)
    (ok : BlkOk X.N X.env.scope scope own) (hi : X.N[i]? = some x) (hm : i ∈ own.map (·.2)) (hx : ∀ cl C, (compEnvC scope cl C X.env).scope.names.lookup x = some .local)
    (hy : X.N[iy]? = some y) (hyl : X.env.scope.names.lookup y = some .local) (hsw : swapsWith (.ListComp elt [⟨.Name x px, iter, ifs, 0⟩] scope pos) (some (.Name y py)) spos.line X.env = pure true)
    (h : XI X (.Name x px) iter env os fun ws os1 => ws.length ≤ sizeLine ∧ XLc X scope (own.map (·.2)) i ifs elt env (fun ds os2 => ∀ p, K.nx (env.set iy (some (.ref p))) ((p, .lst (ds.map W.d)) :: os2)) ws [] os1)
    (hs : ∀ x, foldedSetIterable iter X.env x = pure x := by intro _; rfl) : X1 X (.Assign [.Name y py] (.ListComp elt [⟨.Name x px, iter, ifs, 0⟩] scope pos) spos) env os K := by
  intro F V0 H σ D r sr ek
  refine wS1_of (ps_setLc (X := X) (i := iy) (own := own) (wi := wPI X (.Name x px) iter) (g := gName i) (tt := fun σ H Q => ∀ s0 H0 C cl fp, wTs (Bk X scope s0 H0 C cl fp) ifs σ H Q) (te := fun σ H Q => ∀ s0 H0 C cl fp, wE (Bk X scope s0 H0 C cl fp) elt σ H Q) hc hN hy hyl hsw wPI_pi ok
    (fun s0 H0 C cl fp => pg_name (X := Bk X scope s0 H0 C cl fp) hN hi (.inl (hx cl C)) (.inr (hx cl C))) (fun s0 H0 C cl fp => ⟨fun pins s σ H Q I q => q s0 H0 C cl fp pins s I⟩) (fun s0 H0 C cl fp => ⟨fun pins s σ H Q I q => q s0 H0 C cl fp pins s I⟩) hs) ?_
  refine tlc_of (k := fun w os1 => K.nx (env.set iy (some w)) os1) (.inr fun _ _ q => q) hm h r sr fun V1 os1 H1 v w s1 r1 rv q => ?_
  exact ek.nx V1 os1 H1 _ _ s1 r1 ((sr.mono s1).set rv iy) q
/-- by an invariant over the turn, the list so far and the owned things -/
theorem xlc_inv {X : Cx} {scope : Scope} {vs : List Nat} {i : Nat} {ifs : List Expr} {elt : Expr} {env : DEnv} {k : List D → Os → Prop} {ws : List W} {os : Os} (I : Nat → List D → Os → Prop) (h0 : I 0 [] os)
    (hs : ∀ j w acc os, ws[j]? = some w → I j acc os → ∀ s H C cl fp, XTs (Bk X scope s H C cl fp) ifs ((wipeD env vs).set i (some w)) os fun b os1 =>
      (b = true → ∀ s H C cl fp, XE (Bk X scope s H C cl fp) elt ((wipeD env vs).set i (some w)) os1 fun y os2 => ∃ d, y = .d d ∧ I (j + 1) (acc ++ [d]) os2) ∧ (b = false → I (j + 1) acc os1))
    (hd : ∀ acc os, I ws.length acc os → k acc os) : XLc X scope vs i ifs elt env k ws [] os := by
  have gen : ∀ (m j : Nat) (acc : List D) (os : Os), m = ws.length - j → j ≤ ws.length → I j acc os → XLc X scope vs i ifs elt env k (ws.drop j) acc os := by
    intro m
    induction m with
    | zero =>
      intro j acc os hm hj h
      have e : j = ws.length := by omega
      subst e
      rw [List.drop_length]
      exact hd acc os h
    | succ m ih =>
      intro j acc os hm hj h
      have hlt : j < ws.length := by omega
      rw [List.drop_eq_getElem_cons hlt]
      intro s H C cl fp F V0 H1 σ Q r sr c
      refine hs j ws[j] acc os (List.getElem?_eq_getElem hlt) h s H C cl fp F V0 H1 σ Q r sr fun V1 os1 H2 b s1 r1 q => c V1 os1 H2 b s1 r1 ⟨fun hb s H C cl fp => ?_, fun hb => ih (j + 1) acc os1 (by omega) hlt (q.2 hb)⟩
      intro F V0 H1 σ Q r sr c
      refine q.1 hb s H C cl fp F V0 H1 σ Q r sr fun V1 os1 H2 v w s1 r1 rv ⟨d, e, q2⟩ => c V1 os1 H2 v w s1 r1 rv ⟨d, e, ih (j + 1) _ os1 (by omega) hlt q2⟩
  exact gen _ 0 [] os rfl (Nat.zero_le _) h0
end DL

set_option Elab.async false
set_option linter.all false
set_option maxRecDepth 100000
/-! DL6: the steps' order. -/
namespace DL
open PySem PySem.Spec PyProof.Rows L2
theorem Loc.vis {sc : Scope} {x : Str} (h : Loc sc x) : Vis sc x := h.elim .inl fun z => .inr (.inl z)
theorem imp2 {A B : Prop} {b : Bool} {P : Prop} [Decidable P] (e : b = decide P) (h1 : P → A) (h2 : ¬ P → B) : (b = true → A) ∧ (b = false → B) := by
  subst e
  exact ⟨fun h => h1 (of_decide_eq_true h), fun h => h2 (of_decide_eq_false h)⟩
theorem imp2d {A B : Prop} {P : Prop} [Decidable P] (h1 : P → A) (h2 : ¬ P → B) : (decide P = true → A) ∧ (decide P = false → B) :=
  ⟨fun h => h1 (of_decide_eq_true h), fun h => h2 (of_decide_eq_false h)⟩
theorem imp2T {A B : Prop} (h1 : A) : (true = true → A) ∧ (true = false → B) := ⟨fun _ => h1, fun h => absurd h.symm Bool.false_ne_true⟩
theorem imp2F {A B : Prop} (h1 : B) : (false = true → A) ∧ (false = false → B) := ⟨fun h => absurd h Bool.false_ne_true, fun _ => h1⟩
theorem imp2dT {A B : Prop} {P : Prop} [Decidable P] (hp : P) (h1 : A) : (decide P = true → A) ∧ (decide P = false → B) := ⟨fun _ => h1, fun h => absurd hp (of_decide_eq_false h)⟩
theorem imp2dF {A B : Prop} {P : Prop} [Decidable P] (hp : ¬ P) (h1 : B) : (decide P = true → A) ∧ (decide P = false → B) := ⟨fun h => absurd (of_decide_eq_true h) hp, fun _ => h1⟩
end DL
namespace DL
open PySem PySem.Spec PyProof.Rows L2
theorem xforE {X : Cx} {tg : Expr} {body : List Stmt} {K : DEnds} {ws ws' : List W} {w : W} {env : DEnv} {os : Os} (h : ws = w :: ws')
    (q : XG X tg w env os fun env1 os1 => XS X body env1 os1 { K with nx := XFor X tg body K ws', ct := XFor X tg body K ws', bk := K.nx }) : XFor X tg body K ws env os := by
  subst h; exact q
theorem xforN {X : Cx} {tg : Expr} {body : List Stmt} {K : DEnds} {ws : List W} {env : DEnv} {os : Os} (h : ws = []) (q : K.nx env os) : XFor X tg body K ws env os := by
  subst h; exact q
theorem passN {X : Cx} : PassesOwn (model X.prog X.w) X.nox.A X.nox.env X.nox.xe := PassesOwn.never
end DL
namespace DL
open PySem PySem.Spec PyProof.Rows L2
theorem nn {α : Sort _} {a : α} : ¬ (a ≠ a) := fun h => h rfl
theorem cmul_l {i j : Int} (h1 : -18446744073709551616 < i) (h2 : i < 18446744073709551616) : CMul i j := .inl ⟨h1, h2⟩
theorem cmul_r {i j : Int} (h1 : -18446744073709551616 < j) (h2 : j < 18446744073709551616) : CMul i j := .inr ⟨h1, h2⟩
theorem cdiv_s {i j : Int} (h1 : 0 < j) (h2 : j < 1073741824) : CDiv i j := ⟨h1, h2⟩
theorem cdiv_w {i j : Int} (h1 : 0 < j) (h2 : j < 340282366920938463463374607431768211456) : CDivW i j := wide_div (b := 128) h1 (by rw [show (2 : Nat) ^ 128 = 340282366920938463463374607431768211456 from by decide]; omega) (by decide) (by decide)
theorem cpow_s {i j : Int} (h0 : 0 ≤ j) (h1 : j ≤ 1000000) (h2 : -18446744073709551616 < i) (h3 : i < 18446744073709551616) : CPow i j := ⟨h0, h1, by rw [show (2 : Nat) ^ 64 = 18446744073709551616 from by decide]; omega⟩
end DL
namespace DL
open PySem PySem.Spec PyProof.Rows L2
theorem rpA_ints {K : PySem.W.Frag} {H : Hp} : ∀ ns : List Int, RpA K H (ns.map V.int) (ns.map D.int)
  | [] => .nil
  | n :: ns => .cons (.int n) (rpA_ints ns)
/-- the law's own promise -/
def S_law : List D → (D → Prop) → Prop := fun ds k => ∃ ns : List Int, ds = [.lst (ns.map D.int)] ∧ ns.length ≤ 63 ∧ k (.bl true)
theorem law_sp (K : PySem.W.Frag) (H : Hp) (a : Addr) (ns : List Int) (h : ns.length ≤ 63) (_ : Only H) (hs : SqL K H a (ns.map V.int)) : spP K 1 S_law [.ref a] H (fun v _ => v = .bl true) fun _ _ _ => False := by
  refine ⟨rfl, fun _ => none, H, [.lst (ns.map D.int)], fun d => d = .bl true, ⟨(fun a o e => by cases e), Same.refl _, (fun a o e => by cases e), fun p hp => absurd hp (by simp), by simp⟩, .cons (.lst hs (rpA_ints ns)) .nil, ⟨ns, rfl, h, rfl⟩, fun V1 H1 v d _ _ rv q => ?_⟩
  subst q
  cases rv
  rfl
theorem glb_int {K : PySem.W.Frag} {mg : Str → Option Value} {x : Str} {i : Int} {t : Tok} (h : mg x = some (.int i t)) : Glb K mg x (.int i) := ⟨.int i, _, h, ⟨t, rfl⟩, fun _ => .int i⟩
theorem glb_str {K : PySem.W.Frag} {mg : Str → Option Value} {x : Str} {i : Str} {t : Tok} (h : mg x = some (.str i t)) : Glb K mg x (.str i) := ⟨.str i, _, h, ⟨t, rfl⟩, fun _ => .str i⟩
end DL
namespace DL
open PySem PySem.Spec PyProof.Rows L2
theorem kit_NoneType_bool : kitB "NoneType" "bool" = some false := by decide +kernel
theorem kit_NoneType_int : kitB "NoneType" "int" = some false := by decide +kernel
theorem kit_NoneType_str : kitB "NoneType" "str" = some false := by decide +kernel
theorem kit_NoneType_tuple : kitB "NoneType" "tuple" = some false := by decide +kernel
theorem kit_NoneType_list : kitB "NoneType" "list" = some false := by decide +kernel
theorem kit_bool_bool : kitB "bool" "bool" = some true := by decide +kernel
theorem kit_bool_int : kitB "bool" "int" = some true := by decide +kernel
theorem kit_bool_str : kitB "bool" "str" = some false := by decide +kernel
theorem kit_bool_tuple : kitB "bool" "tuple" = some false := by decide +kernel
theorem kit_bool_list : kitB "bool" "list" = some false := by decide +kernel
theorem kit_int_bool : kitB "int" "bool" = some false := by decide +kernel
theorem kit_int_int : kitB "int" "int" = some true := by decide +kernel
theorem kit_int_str : kitB "int" "str" = some false := by decide +kernel
theorem kit_int_tuple : kitB "int" "tuple" = some false := by decide +kernel
theorem kit_int_list : kitB "int" "list" = some false := by decide +kernel
theorem kit_str_bool : kitB "str" "bool" = some false := by decide +kernel
theorem kit_str_int : kitB "str" "int" = some false := by decide +kernel
theorem kit_str_str : kitB "str" "str" = some true := by decide +kernel
theorem kit_str_tuple : kitB "str" "tuple" = some false := by decide +kernel
theorem kit_str_list : kitB "str" "list" = some false := by decide +kernel
theorem kit_tuple_bool : kitB "tuple" "bool" = some false := by decide +kernel
theorem kit_tuple_int : kitB "tuple" "int" = some false := by decide +kernel
theorem kit_tuple_str : kitB "tuple" "str" = some false := by decide +kernel
theorem kit_tuple_tuple : kitB "tuple" "tuple" = some true := by decide +kernel
theorem kit_tuple_list : kitB "tuple" "list" = some false := by decide +kernel
theorem kit_list_bool : kitB "list" "bool" = some false := by decide +kernel
theorem kit_list_int : kitB "list" "int" = some false := by decide +kernel
theorem kit_list_str : kitB "list" "str" = some false := by decide +kernel
theorem kit_list_tuple : kitB "list" "tuple" = some false := by decide +kernel
theorem kit_list_list : kitB "list" "list" = some true := by decide +kernel
theorem atI_mapI {α : Type} {f : Int → α} {ns : List Int} {j : Int} (h0 : 0 ≤ j) (h1 : j < ns.length) : atI (ns.map f) j = some (f (ns.getD j.toNat 0)) := by
  obtain ⟨i, rfl⟩ : ∃ i : Nat, j = (i : Int) := ⟨j.toNat, by omega⟩
  refine atI_nat ?_
  have hi : i < ns.length := by omega
  rw [List.getElem?_map, List.getElem?_eq_getElem hi]
  simp [hi]
end DL
namespace DL
open PySem PySem.Spec PyProof.Rows L2
theorem szL {n : Nat} (h : Nat.ble n 1000 = true) : n ≤ sizeLine := Nat.le_of_lt (small1000 (Nat.le_of_ble_eq_true h))
theorem atI_all {α : Type} {ds : List α} {i : Int} (h0 : 0 ≤ i) (h1 : i < ds.length) : ∃ d, atI ds i = some d ∧ d ∈ ds := by
  obtain ⟨j, rfl⟩ : ∃ j : Nat, i = (j : Int) := ⟨i.toNat, by omega⟩
  have hj : j < ds.length := by omega
  exact ⟨ds[j], atI_nat (List.getElem?_eq_getElem hj), List.getElem_mem hj⟩
theorem atI_natD {α : Type} {ds : List α} {i : Int} (h0 : 0 ≤ i) (h1 : i < ds.length) : ∃ d, atI ds i = some d ∧ ds[i.toNat]? = some d := by
  obtain ⟨j, rfl⟩ : ∃ j : Nat, i = (j : Int) := ⟨i.toNat, by omega⟩
  have hj : j < ds.length := by omega
  exact ⟨ds[j], atI_nat (List.getElem?_eq_getElem hj), by simp [hj]⟩
end DL
namespace DL
open PySem PySem.Spec PyProof.Rows L2
theorem or2T {A B : Prop} (h1 : B) : (true = false → A) ∧ (true = true → B) := imp2F' h1
where imp2F' {A B : Prop} (h1 : B) : (true = false → A) ∧ (true = true → B) := ⟨fun h => absurd h.symm Bool.false_ne_true, fun _ => h1⟩
theorem or2F {A B : Prop} (h1 : A) : (false = false → A) ∧ (false = true → B) := ⟨fun _ => h1, fun h => absurd h Bool.false_ne_true⟩
theorem or2d {A B : Prop} {P : Prop} [Decidable P] (h1 : P → B) (h2 : ¬ P → A) : (decide P = false → A) ∧ (decide P = true → B) :=
  ⟨fun h => h2 (of_decide_eq_false h), fun h => h1 (of_decide_eq_true h)⟩
theorem or2dT {A B : Prop} {P : Prop} [Decidable P] (hp : P) (h1 : B) : (decide P = false → A) ∧ (decide P = true → B) := ⟨fun h => absurd hp (of_decide_eq_false h), fun _ => h1⟩
theorem or2dF {A B : Prop} {P : Prop} [Decidable P] (hp : ¬ P) (h1 : A) : (decide P = false → A) ∧ (decide P = true → B) := ⟨fun _ => h1, fun h => absurd (of_decide_eq_true h) hp⟩
end DL
namespace DL
open PySem PySem.Spec PyProof.Rows L2
theorem xs_set {X : Cx} {sts : List Stmt} {env env' : DEnv} {i : Nat} {w : Option W} {os : Os} {K : DEnds} (h : List.set env i w = env') (q : XS X sts env' os K) : XS X sts (List.set env i w) os K := by
  rw [h]; exact q
theorem xs_start {X : Cx} {sts : List Stmt} {env' : DEnv} {N : List Str} {ws : List W} {os : Os} {K : DEnds} (h : startD N ws = env') (q : XS X sts env' os K) : XS X sts (startD N ws) os K := by
  rw [h]; exact q
end DL

set_option Elab.async false
set_option linter.all false
set_option maxRecDepth 100000
/-! DL7: defs over a drawing state, further built-ins. -/
namespace DL
open PySem PySem.Spec PyProof.Rows L2
/-- a def whose first argument is a state at p that DS speaks of -/
def spS (K : PySem.W.Frag) (n : Nat) (DS : Addr → Os → Prop) (body : List D → (D → Prop) → Prop) : Sp := fun vs H Q _ => vs.length = n ∧ ∃ (F V0 : Hp) (p : Addr) (of : Os) (ds : List D) (k0 : D → Os → Prop),
  Rel K F V0 of H ∧ RWs K V0 vs (.ref p :: ds.map W.d) ∧ DS p of ∧ (body ds fun d => ∀ of', DS p of' → k0 d of') ∧
  ∀ (V1 : Hp) (os1 : Os) (H1 : Hp) (v : V) (d : D), Same V0 V1 → Rel K F V1 os1 H1 → Rp K V1 v d → k0 d os1 → Q v H1
def RetS (w : W) (os : Os) (k0 : D → Os → Prop) : Prop := (∃ (d : D) (of' : Os), w = .d d ∧ of'.Sublist os ∧ k0 d of') ∨
  ∃ (a : Addr) (n : Nat) (ds : List D) (of' : Os), w = .ref a ∧ os[n]? = some (a, OO.lst (ds.map W.d)) ∧ of'.Sublist (os.eraseIdx n) ∧ k0 (.lst ds) of'
theorem okS {P : Program} {w : World} {K : PySem.W.Frag} {mg : Str → Option Value} {base : Heap} {x qual : Str} {st : Stmt} {f : Addr} {fd : FuncData} {N ps : List Str} {k n : Nat} {DS : Addr → Os → Prop} {body : List D → (D → Prop) → Prop}
    (F : Fun K x qual st f fd) (sc : FnScope N ps (defScope st)) (hn : ps.length = n)
    (h : ∀ (cdv : Value) (A : Around) (outer : List Env) (s : Shared) (H : Hp) (E : XK), Room k (A.deeper (envOfC qual (defScope st) s.heap.objs.size f cdv)) → ∀ (p : Addr) (of : Os) (ds : List D) (k0 : D → Os → Prop), ds.length + 1 = n → DS p of → (body ds fun d => ∀ of', DS p of' → k0 d of') →
      ∀ env : DEnv, env = startD N (.ref p :: ds.map W.d) →
      XS (cxOf CX0 P w K mg base N qual (defScope st) f cdv A outer s H E).nox (defBody st) env of { nx := fun _ os1 => RetS wN os1 k0, rt := fun w os1 => RetS w os1 k0 }) : FnOk P w K mg base CX0 (k + 1) f fd ps (spS K n DS body) := by
  refine F.ok sc (fun vs H Q E h => h.1.trans hn.symm) fun cdv A outer s H vs Q E hr hsp => ?_
  obtain ⟨hl, F0, V0, p, of, ds, k0, r, ra, hD, hp, c⟩ := hsp
  have fin : ∀ (V1 : Hp) (os1 : Os) (H1 : Hp) (v : V) (w : W), Same V0 V1 → Rel K F0 V1 os1 H1 → RW K V1 v w → RetS w os1 k0 → Q v H1 := fun V1 os1 H1 v w s1 r1 rv q => by
    rcases q with ⟨d, of', rfl, hs, q⟩ | ⟨a, m, ds, of', rfl, ho, hs, q⟩
    · exact c V1 of' H1 v d s1 (r1.drop hs) rv q
    · have e : v = .ref a := rv
      subst e
      obtain ⟨V2, s2, r2, rp⟩ := r1.freeze ho
      exact c V2 of' H1 _ _ (s1.trans s2) (r2.drop hs) rp q
  refine ⟨wSs _ (defBody st), wSs_pss, ?_⟩
  have hl2 := ra.len
  rw [List.length_cons, List.length_map] at hl2
  refine h cdv A outer s H E hr p of ds k0 (hl2.symm.trans hl) hD hp _ rfl F0 V0 H _ _ r (sr_start ra) ⟨fun V1 os1 H1 σ1 env1 s1 r1 sr1 q => ?_, fun V1 os1 H1 v w s1 r1 rv q => ?_, fun _ _ _ _ _ _ _ _ z => z.elim, fun _ _ _ _ _ _ _ _ z => z.elim⟩
  · exact fin V1 os1 H1 _ wN s1 r1 rwN q
  · exact fin V1 os1 H1 v w s1 r1 rv q
section
variable {X : Cx} {env : DEnv} {os : Os} {k : W → Os → Prop} {pos p : Pos} {a b c e : Expr} {es : List Expr} {x : Str} {lvl n : Nat} {ps : List Str}
theorem xe_callS {DS : Addr → Os → Prop} {body : List D → (D → Prop) → Prop} (C : Cal X.prog X.w X.K X.mg X.base lvl x ps (spS X.K n DS body)) (hr : Room lvl X.A) (hg : Gl X x)
    (h : XA X (e :: es) env os fun ws os1 => ∃ (p : Addr) (lo of : Os) (ds : List D), DS p of ∧ os1 = lo ++ of ∧ ws = .ref p :: ds.map W.d ∧ ds.length + 1 = n ∧ body ds fun d => ∀ of', DS p of' → k (.d d) (lo ++ of')) (hdb : (x == ("__debug__" : Str)) = false := by decide)
    (he : starEach (e :: es) X.env = (false, eval e X.env) :: starEach es X.env := by rfl) (hpl : (backTo pos (starEach es X.env)).any (·.1) = false := by rfl) : XE X (.Call (.Name x p) (e :: es) [] pos) env os k := by
  obtain ⟨f, fd, G, hm, hk, hb⟩ := C.ex
  intro F V0 H σ Q r sr c
  refine wE_of (pe_call G hr hg hm hk hb .nil pass0 wA_pa hdb he hpl) ?_
  refine h F V0 H σ _ r sr fun V1 os1 H1 vs ws s1 r1 rs ⟨p, lo, of, ds, hD, ho, hw, hl, hp⟩ => ?_
  subst ho hw
  rw [List.append_nil]
  obtain ⟨F2, r2, back⟩ := Rel.frame (r1.perm List.perm_append_comm)
  refine ⟨rs.len.trans (by simpa using hl), F2, V1, p, of, ds, fun d of' => k (.d d) (lo ++ of'), r2, rs, hD, hp, fun V2 os2 H2 v d s2 r3 rv q => ?_⟩
  exact c V2 _ H2 v (.d d) (s1.trans s2) ((back V2 os2 H2 s2 r3).perm List.perm_append_comm) rv q
/-- list(x) -/
def seqW (os : Os) (w : W) (ds : List D) : Prop := match w with
  | .d (.lst es) => ds = es
  | .d (.tup es) => ds = es
  | .ref p => ∃ i : Nat, os[i]? = some (p, OO.lst (ds.map W.d))
  | _ => False
theorem seqW_of {K : PySem.W.Frag} {F V0 H : Hp} {v : V} {w : W} {ds : List D} (r : Rel K F V0 os H) (rv : RW K V0 v w) (h : seqW os w ds) : ∃ a vs, v = .ref a ∧ (SqL K H a vs ∨ SqT K H a vs) ∧ RpA K V0 vs ds := by
  cases w with
  | ref p =>
    have e : v = .ref p := rv
    subst e
    obtain ⟨i, ho⟩ := h
    obtain ⟨_, _, ho', h3, vs, rfl, h4⟩ := r.own _ (List.mem_of_getElem? ho)
    exact ⟨p, vs, rfl, .inl (SqL.of h3), h4.toA⟩
  | d d =>
    cases d with
    | lst es =>
      have h : ds = es := h
      subst h
      obtain ⟨p, xs, rfl, h1, h2⟩ := rp_lst rv
      exact ⟨p, xs, rfl, .inl (r.vi.seq h1), h2⟩
    | tup es =>
      have h : ds = es := h
      subst h
      obtain ⟨p, xs, rfl, h1, h2⟩ := rp_tup rv
      exact ⟨p, xs, rfl, .inr (same_sqT r.vi h1), h2⟩
    | _ => exact h.elim
theorem xc_list {w : W} {ds : List D} (h : seqW os w ds) (q : k (wL ds) os) : XC X (.type "list") [w] os k :=
  XC.mk call_list_of fun F V0 H vs Q r rs c => by
    obtain ⟨v, rfl, rv⟩ := rws1 rs
    obtain ⟨a, xs, rfl, hs, ra⟩ := seqW_of r rv h
    refine ⟨a, xs, rfl, hs, fun l hl => ?_⟩
    obtain ⟨s2, r2, rp⟩ := rel_newL r hl ra
    exact c _ os _ _ (wL ds) s2 r2 rp q
/-- list(x), owned -/
theorem xc_listO {w : W} {ds : List D} (h : seqW os w ds) (q : ∀ p, k (.ref p) ((p, .lst (ds.map W.d)) :: os)) : XC X (.type "list") [w] os k :=
  XC.mk call_list_of fun F V0 H vs Q r rs c => by
    obtain ⟨v, rfl, rv⟩ := rws1 rs
    obtain ⟨a, xs, rfl, hs, ra⟩ := seqW_of r rv h
    refine ⟨a, xs, rfl, hs, fun l hl => ?_⟩
    exact c V0 _ _ _ (.ref l) (Same.refl _) (r.addO hl (oo := .lst (ds.map W.d)) ⟨xs, rfl, RWs.ofA ra⟩) rfl (q l)
theorem ints_at {ns : List Int} {i : Nat} {w : W} (h : ((ns.map D.int).map W.d)[i]? = some w) : ∃ n : Int, w = wI n := by
  rw [List.map_map, List.getElem?_map] at h
  cases e : ns[i]? with
  | none => rw [e] at h; cases h
  | some n => rw [e] at h; exact ⟨n, (Option.some.inj h).symm⟩
end
end DL

set_option Elab.async false
set_option linter.all false
set_option maxRecDepth 100000
/-! DL8: loops' items; a call that makes owned things. -/
namespace DL
open PySem PySem.Spec PyProof.Rows L2
theorem rng_at {n : Nat} {i : Nat} {w : W} (h : (rngW 0 n)[i]? = some w) : w = wI (0 + (i : Int)) ∧ i < n := by
  unfold rngW at h
  rw [List.getElem?_map] at h
  by_cases hi : i < n
  · rw [List.getElem?_range hi] at h
    exact ⟨(Option.some.inj h).symm, hi⟩
  · rw [List.getElem?_eq_none (by simp; omega)] at h
    cases h
theorem rngL_at {lo : Int} {n : Nat} {i : Nat} {w : W} (h : (rngW lo n)[i]? = some w) : w = wI (lo + (i : Int)) ∧ i < n := by
  unfold rngW at h
  rw [List.getElem?_map] at h
  by_cases hi : i < n
  · rw [List.getElem?_range hi] at h
    exact ⟨(Option.some.inj h).symm, hi⟩
  · rw [List.getElem?_eq_none (by simp; omega)] at h
    cases h
theorem rng_len (lo : Int) (n : Nat) : (rngW lo n).length = n := by simp [rngW]
theorem map_at {α : Type} {f : α → D} {xs : List α} {i : Nat} {w : W} (h : ((xs.map f).map W.d)[i]? = some w) : ∃ x, xs[i]? = some x ∧ w = .d (f x) := by
  rw [List.getElem?_map, List.getElem?_map] at h
  cases e : xs[i]? with
  | none => rw [e] at h; cases h
  | some x => rw [e] at h; exact ⟨x, rfl, (Option.some.inj h).symm⟩
theorem map_len {α : Type} {f : α → D} {xs : List α} : ((xs.map f).map W.d).length = xs.length := by simp
theorem take_next {α : Type} {xs : List α} {i : Nat} {x : α} (h : xs[i]? = some x) : xs.take (i + 1) = xs.take i ++ [x] := by
  rw [List.take_add_one, h]; rfl
theorem at3 {a b c : D} {i : Nat} {w : W} (h : ([a, b, c].map W.d)[i]? = some w) : w = .d a ∨ w = .d b ∨ w = .d c := by
  match i, h with
  | 0, h => exact .inl (Option.some.inj h).symm
  | 1, h => exact .inr (.inl (Option.some.inj h).symm)
  | 2, h => exact .inr (.inr (Option.some.inj h).symm)
  | n + 3, h => simp at h
theorem at2 {a b : D} {i : Nat} {w : W} (h : ([a, b].map W.d)[i]? = some w) : w = .d a ∨ w = .d b := by
  match i, h with
  | 0, h => exact .inl (Option.some.inj h).symm
  | 1, h => exact .inr (Option.some.inj h).symm
  | n + 2, h => simp at h
theorem xe_callF0 {X : Cx} {env : DEnv} {os : Os} {k : W → Os → Prop} {pos p : Pos} {e : Expr} {es : List Expr} {x : Str} {lvl n : Nat} {ps : List Str} {S : List W → Os → (W → Os → Prop) → Prop} (C : Cal X.prog X.w X.K X.mg X.base lvl x ps (spF X.K n S)) (hr : Room lvl X.A) (hg : Gl X x)
    (h : XA X (e :: es) env os fun ws os1 => os1 = [] ∧ ws.length = n ∧ S ws [] k) (hdb : (x == ("__debug__" : Str)) = false := by decide)
    (he : starEach (e :: es) X.env = (false, eval e X.env) :: starEach es X.env := by rfl) (hpl : (backTo pos (starEach es X.env)).any (·.1) = false := by rfl) : XE X (.Call (.Name x p) (e :: es) [] pos) env os k := by
  refine xe_callF C hr hg ?_ hdb he hpl
  have e1 : (fun (w : W) (of' : Os) => k w (of' ++ [])) = k := by funext w o; rw [List.append_nil]
  intro F V0 H σ Q r sr c
  exact h F V0 H σ Q r sr fun V1 os1 H1 vs ws s1 r1 rs ⟨e2, hl, hs⟩ => c V1 os1 H1 vs ws s1 r1 rs ⟨[], [], by rw [e2]; exact .refl _, hl, by rw [e1]; exact hs⟩
theorem X1.mono {X : Cx} {st : Stmt} {env : DEnv} {os : Os} {K K' : DEnds} (h : X1 X st env os K) (hn : ∀ e o, K.nx e o → K'.nx e o) (hr : ∀ w o, K.rt w o → K'.rt w o) (hb : ∀ e o, K.bk e o → K'.bk e o) (hc : ∀ e o, K.ct e o → K'.ct e o) : X1 X st env os K' :=
  fun F V0 H σ D r sr ek => h F V0 H σ D r sr ⟨fun V1 o1 H1 σ1 e1 a b c q => ek.nx V1 o1 H1 σ1 e1 a b c (hn _ _ q), fun V1 o1 H1 v w a b c q => ek.rt V1 o1 H1 v w a b c (hr _ _ q), fun V1 o1 H1 σ1 e1 a b c q => ek.bk V1 o1 H1 σ1 e1 a b c (hb _ _ q), fun V1 o1 H1 σ1 e1 a b c q => ek.ct V1 o1 H1 σ1 e1 a b c (hc _ _ q)⟩
/-- a statement up to a told state, then the rest once -/
theorem xs_cut {X : Cx} {st : Stmt} {sts : List Stmt} {env : DEnv} {os : Os} {K : DEnds} (I : DEnv → Os → Prop) (h1 : X1 X st env os { K with nx := I }) (h2 : ∀ e o, I e o → XS X sts e o K) : XS X (st :: sts) env os K :=
  xs_cons (X1.mono h1 h2 (fun _ _ z => z) (fun _ _ z => z) (fun _ _ z => z))
end DL

set_option Elab.async false
set_option linter.all false
set_option maxRecDepth 100000
/-! DL9: instances. -/
namespace DL
open PySem PySem.Spec PyProof.Rows L2
abbrev RF (K : PySem.W.Frag) (V0 : Hp) : List (Str × V) → List (Str × W) → Prop := Paired fun (p : Str × V) (q : Str × W) => p.1 = q.1 ∧ RW K V0 p.2 q.2
def putW (f : Str) (w : W) : List (Str × W) → List (Str × W)
  | [] => [(f, w)]
  | (g, x) :: r => if g = f then (g, w) :: r else (g, x) :: putW f w r
theorem rf_lookup {K : PySem.W.Frag} {V0 : Hp} {f : Str} : ∀ {vf : List (Str × V)} {fs : List (Str × W)}, RF K V0 vf fs → ∀ {w : W}, fs.lookup f = some w → ∃ v, vf.lookup f = some v ∧ RW K V0 v w
  | _, _, .nil, _, h => by cases h
  | (a, x) :: vf, (b, y) :: fs, .cons hq r, w, h => by
    obtain ⟨e, rw'⟩ := hq
    have e : a = b := e
    subst e
    rw [List.lookup_cons] at h ⊢
    split at h
    · cases h; exact ⟨x, rfl, rw'⟩
    · exact rf_lookup r h
theorem rf_none {K : PySem.W.Frag} {V0 : Hp} {f : Str} : ∀ {vf : List (Str × V)} {fs : List (Str × W)}, RF K V0 vf fs → fs.lookup f = none → vf.lookup f = none
  | _, _, .nil, h => rfl
  | (a, x) :: vf, (b, y) :: fs, .cons hq r, h => by
    obtain ⟨e, rw'⟩ := hq
    have e : a = b := e
    subst e
    rw [List.lookup_cons] at h ⊢
    split at h
    · cases h
    · exact rf_none r h
theorem rf_put {K : PySem.W.Frag} {V0 : Hp} {f : Str} {v : V} {w : W} (hv : RW K V0 v w) : ∀ {vf : List (Str × V)} {fs : List (Str × W)}, RF K V0 vf fs → RF K V0 (putF f v vf) (putW f w fs)
  | _, _, .nil => .cons ⟨rfl, hv⟩ .nil
  | (a, x) :: vf, (b, y) :: fs, .cons hq r => by
    obtain ⟨e, rw'⟩ := hq
    have e : a = b := e
    subst e
    by_cases h : a = f
    · show RF K V0 (if a = f then _ else _) (if a = f then _ else _)
      rw [if_pos h, if_pos h]; exact .cons ⟨rfl, hv⟩ r
    · show RF K V0 (if a = f then _ else _) (if a = f then _ else _)
      rw [if_neg h, if_neg h]; exact .cons ⟨rfl, rw'⟩ (rf_put hv r)
section
variable {X : Cx} {env : DEnv} {os : Os} {k : W → Os → Prop} {K : DEnds} {pos pos' apos cpos : Pos} {e o value : Expr} {es : List Expr} {f m x : Str} {C : Addr} {lvl n : Nat} {ps : List Str}
/-- e.f -/
theorem xe_fld (c : Cls X.K C) (na : NoAttr X.K C f) (h : XE X e env os fun w os1 => ∃ (a : Addr) (n : Nat) (fs : List (Str × W)) (y : W), w = .ref a ∧ os1[n]? = some (a, OO.ins C fs) ∧ fs.lookup f = some y ∧ k y os1)
    (hb : attributeBase e f X.env (eval e X.env) = eval e X.env := by rfl) : XE X (.Attribute e f pos) env os k := by
  intro F V0 H σ Q r sr cc
  refine wE_of (pe_fld wE_pe hb) ?_
  refine h F V0 H σ _ r sr fun V1 os1 H1 v w s1 r1 rv ⟨a, n, fs, y, e1, ho, hl, q⟩ => ?_
  subst e1
  obtain rfl : v = .ref a := rv
  obtain ⟨_, _, ho', h3, dx, vf, rfl, h4⟩ := r1.own _ (List.mem_of_getElem? ho)
  obtain ⟨u, e2, ru⟩ := rf_lookup h4 hl
  exact ⟨a, C, dx, vf, u, rfl, h3, c, na, e2, cc V1 os1 H1 u y s1 r1 ru q⟩
/-- o.f = value -/
theorem x1_fld (c : Cls X.K C) (na : NoAttr X.K C f) (h : XE X value env os fun y os1 => XE X o env os1 fun w os2 => ∃ (a : Addr) (n : Nat) (fs : List (Str × W)), w = .ref a ∧ os2[n]? = some (a, OO.ins C fs) ∧ fs.length < 1000 ∧ K.nx env (os2.set n (a, .ins C (putW f y fs))))
    (hs : swapsWith value (some (.Attribute o f pos')) pos.line X.env = pure false := by rfl) : X1 X (.Assign [.Attribute o f pos'] value pos) env os K := by
  intro F V0 H σ D r sr ek
  refine wS1_of (ps_fld wE_pe wE_pe hs) ?_
  refine h F V0 H σ _ r sr fun V1 os1 H1 v w s1 r1 rv q1 => ?_
  refine q1 F V1 H1 σ _ r1 (sr.mono s1) fun V2 os2 H2 u w2 s2 r2 ru ⟨a, n, fs, e1, ho, hl, q⟩ => ?_
  subst e1
  obtain rfl : u = .ref a := ru
  obtain ⟨_, _, ho', h3, dx, vf, rfl, h4⟩ := r2.own _ (List.mem_of_getElem? ho)
  refine ⟨a, C, dx, vf, rfl, h3, c, na, by rw [Paired.length h4]; exact hl, ?_⟩
  refine ek.nx V2 _ _ _ _ (s1.trans s2) (r2.mut ho (oo' := .ins C (putW f w fs)) ⟨dx, _, rfl, rf_put (rv.mono s2) h4⟩) ((sr.mono s1).mono s2) q
/-- a method that is there -/
structure CalM (P : Program) (w : World) (K : PySem.W.Frag) (mg : Str → Option Value) (base : Heap) (lvl : Nat) (C : Addr) (m : Str) (ps : List Str) (sp : Sp) : Prop where
  ex : ∃ (f : Addr) (fd : FuncData), FnOk P w K mg base CX0 lvl f fd ps sp ∧ Meth K C m f ∧ Binds K fd ps []
/-- o.m(e, ..) over owned things -/
theorem xe_methF {S : List W → Os → (W → Os → Prop) → Prop} {pl : Sem Bool} (M : CalM X.prog X.w X.K X.mg X.base lvl C m ps (spF X.K n S)) (c : Cls X.K C) (hr : Room lvl X.A)
    (h : XE X o env os fun w os1 => ∃ (a : Addr) (n0 : Nat) (fs : List (Str × W)), w = .ref a ∧ os1[n0]? = some (a, OO.ins C fs) ∧ fs.lookup m = none ∧ XA X (e :: es) env os1 fun ws os2 => ∃ of or : Os, os2.Perm (of ++ or) ∧ ws.length + 1 = n ∧ S (.ref a :: ws) of fun w of' => k w (of' ++ or))
    (hst : starEach (e :: es) X.env = (false, eval e X.env) :: starEach es X.env := by rfl) (hpl : (backTo pos (starEach es X.env)).any (·.1) = false := by rfl)
    (ht : eval (.Call (.Attribute o m apos) (e :: es) [] pos) X.env = (do
      let ov ← eval o X.env
      standAt apos.atName
      let (f, first) ← holding [ov] (getMethod ov m pl)
      callWith pos f first (backTo pos (starEach (e :: es) X.env)) (backToKw pos (keywordEach [] X.env))) := by rfl) : XE X (.Call (.Attribute o m apos) (e :: es) [] pos) env os k := by
  obtain ⟨f, fd, G, hm, hb⟩ := M.ex
  intro F V0 H σ Q r sr cc
  refine wE_of (pe_meth (pl := pl) wE_pe c hm G hr hb .nil pass0 wA_pa hst hpl ht) ?_
  refine h F V0 H σ _ r sr fun V1 os1 H1 v w s1 r1 rv ⟨a, n0, fs, e1, ho, hl, q⟩ => ?_
  subst e1
  obtain rfl : v = .ref a := rv
  obtain ⟨_, _, ho', h3, dx, vf, rfl, h4⟩ := r1.own _ (List.mem_of_getElem? ho)
  refine ⟨a, dx, vf, rfl, h3, rf_none h4 hl, ?_⟩
  refine q F V1 H1 σ _ r1 (sr.mono s1) fun V2 os2 H2 vs ws s2 r2 rs ⟨of, or, hperm, hl2, hp⟩ => ?_
  rw [List.append_nil]
  obtain ⟨F2, r3, back⟩ := Rel.frame (r2.perm hperm)
  refine ⟨by rw [List.length_cons, rs.len]; exact hl2, F2, V2, of, .ref a :: ws, _, r3, .cons rfl rs, hp, fun V3 os3 H3 v3 w3 s3 r4 rv3 hq => ?_⟩
  exact cc V3 _ H3 v3 w3 ((s1.trans s2).trans s3) (back V3 os3 H3 s3 r4) rv3 hq
/-- o.m() over owned things -/
theorem xe_methF0 {S : List W → Os → (W → Os → Prop) → Prop} {pl : Sem Bool} (M : CalM X.prog X.w X.K X.mg X.base lvl C m ps (spF X.K n S)) (c : Cls X.K C) (hr : Room lvl X.A)
    (h : XE X o env os fun w os1 => ∃ (a : Addr) (n0 : Nat) (fs : List (Str × W)), w = .ref a ∧ os1[n0]? = some (a, OO.ins C fs) ∧ fs.lookup m = none ∧ ∃ of or : Os, os1.Perm (of ++ or) ∧ 1 = n ∧ S [.ref a] of fun w of' => k w (of' ++ or))
    (ht : eval (.Call (.Attribute o m apos) [] [] pos) X.env = (do
      let ov ← eval o X.env
      standAt apos.atName
      let (f, first) ← holding [ov] (getMethod ov m pl)
      callWith pos f first (backTo pos (starEach [] X.env)) (backToKw pos (keywordEach [] X.env))) := by rfl) : XE X (.Call (.Attribute o m apos) [] [] pos) env os k := by
  obtain ⟨f, fd, G, hm, hb⟩ := M.ex
  intro F V0 H σ Q r sr cc
  refine wE_of (pe_meth0 (pl := pl) wE_pe c hm G hr hb .nil pass0 ht) ?_
  refine h F V0 H σ _ r sr fun V1 os1 H1 v w s1 r1 rv ⟨a, n0, fs, e1, ho, hl, of, or, hperm, hl2, hp⟩ => ?_
  subst e1
  obtain rfl : v = .ref a := rv
  obtain ⟨_, _, ho', h3, dx, vf, rfl, h4⟩ := r1.own _ (List.mem_of_getElem? ho)
  refine ⟨a, dx, vf, rfl, h3, rf_none h4 hl, ?_⟩
  obtain ⟨F2, r3, back⟩ := Rel.frame (r1.perm hperm)
  refine ⟨hl2, F2, V1, of, [.ref a], _, r3, .cons rfl .nil, hp, fun V3 os3 H3 v3 w3 s3 r4 rv3 hq => ?_⟩
  exact cc V3 _ H3 v3 w3 (s1.trans s3) (back V3 os3 H3 s3 r4) rv3 hq
/-- C(): the new instance, then its __init__ over it -/
theorem xe_make0 {S : List W → Os → (W → Os → Prop) → Prop} {f : Addr} {fd : FuncData} (M : Mk X.K C f) (G : FnOk X.prog X.w X.K X.mg X.base CX0 lvl f fd ps (spF X.K n S)) (hb : Binds X.K fd ps []) (hr : Room (lvl + 1) X.A) (hg : Gl X x) (hm : X.mg x = some (.ref C))
    (h : 1 = n ∧ ∀ a : Addr, S [.ref a] [(a, OO.ins C [])] fun w of' => w = wN ∧ k (.ref a) (of' ++ os)) (hdb : (x == ("__debug__" : Str)) = false := by decide) : XE X (.Call (.Name x pos') [] [] pos) env os k := by
  intro F V0 H σ Q r sr cc
  refine wE_of (pe_make0 M G hr hg hm hb .nil pass0 hdb) ?_
  intro a dx ha hdx ne
  obtain ⟨hn, hs⟩ := h
  have r1 : Rel X.K F V0 os (upd H dx (.own a)) := by
    have sh : Same H (upd H dx (.own a)) := same_upd hdx
    exact ⟨r.fr.trans sh, r.vi.trans sh, r.fv, fun q hq => by obtain ⟨h1, h2, ho, h3, h4⟩ := r.own q hq; exact ⟨h1, h2, ho, sh _ _ h3, h4⟩, r.nd⟩
  have r2 : Rel X.K F V0 ((a, OO.ins C []) :: os) (upd (upd H dx (.own a)) a (.ins C dx [])) := r1.addO (by rw [upd_ne (Ne.symm ne)]; exact ha) ⟨dx, [], rfl, .nil⟩
  obtain ⟨F2, r3, back⟩ := Rel.frame (of := [(a, OO.ins C [])]) (or := os) r2
  refine ⟨hn, F2, V0, _, [.ref a], _, r3, .cons rfl .nil, hs a, fun V3 os3 H3 v3 w3 s3 r4 rv3 ⟨e3, hq⟩ => ?_⟩
  subst e3
  cases rv3
  exact ⟨rfl, cc V3 _ H3 (.ref a) (.ref a) s3 (back V3 os3 H3 s3 r4) rfl hq⟩
end
end DL

set_option Elab.async false
set_option linter.all false
set_option maxRecDepth 100000
/-! DL10: equality of data, membership, sorted, max, min, list + list, list * int, pop, index. -/
namespace DL
open PySem PySem.Spec PyProof.Rows L2
mutual
def toP : D → PyData
  | .non => .none
  | .bl b => .bool b
  | .int i => .int i
  | .str x => .str x
  | .ty _ => .none
  | .tup ds => .tuple (toPs ds)
  | .lst ds => .list (toPs ds)
def toPs : List D → List PyData
  | [] => []
  | d :: ds => toP d :: toPs ds
end
mutual
/-- no types inside, not too deep, texts that can be held -/
def shp : D → Nat → Bool
  | .non, _ => true
  | .bl _, _ => true
  | .int _, _ => true
  | .str x, _ => PyData.canLay0 (.str x)
  | .ty _, _ => false
  | .tup ds, n => decide (0 < n) && shpA ds (n - 1)
  | .lst ds, n => decide (0 < n) && shpA ds (n - 1)
def shpA : List D → Nat → Bool
  | [], _ => true
  | d :: ds, n => shp d n && shpA ds n
end
theorem toPs_map (ds : List D) : toPs ds = ds.map toP := by
  induction ds with
  | nil => rfl
  | cons d ds ih => rw [toPs, ih, List.map_cons]
theorem shpA_all {ds : List D} {n : Nat} : shpA ds n = true ↔ ∀ d ∈ ds, shp d n = true := by
  induction ds with
  | nil => simp [shpA]
  | cons d ds ih => rw [shpA, Bool.and_eq_true, ih]; simp
mutual
theorem shp_lay : ∀ {d : D} {n : Nat}, shp d n = true → (toP d).canLay0 = true ∧ (toP d).depth ≤ n + 1
  | .non, n, _ => by simp [toP, PyData.canLay0, PyData.depth]
  | .bl b, n, _ => by simp [toP, PyData.canLay0, PyData.depth]
  | .int i, n, _ => by simp [toP, PyData.canLay0, PyData.depth]
  | .str x, n, h => ⟨h, by simp [toP, PyData.depth]⟩
  | .tup ds, n, h => by
    rw [shp, Bool.and_eq_true, decide_eq_true_iff] at h
    obtain ⟨h1, h2⟩ := shpA_lay h.2
    simp only [toP, PyData.canLay0, PyData.depth]
    exact ⟨h1, by omega⟩
  | .lst ds, n, h => by
    rw [shp, Bool.and_eq_true, decide_eq_true_iff] at h
    obtain ⟨h1, h2⟩ := shpA_lay h.2
    simp only [toP, PyData.canLay0, PyData.depth]
    exact ⟨h1, by omega⟩
theorem shpA_lay : ∀ {ds : List D} {n : Nat}, shpA ds n = true → PyData.canLayAll0 (toPs ds) = true ∧ PyData.depthAll (toPs ds) ≤ n + 1
  | [], n, _ => by simp [toPs, PyData.canLayAll0, PyData.depthAll]
  | d :: ds, n, h => by
    rw [shpA, Bool.and_eq_true] at h
    obtain ⟨h1, h2⟩ := shp_lay h.1
    obtain ⟨h3, h4⟩ := shpA_lay h.2
    simp only [toPs, PyData.canLayAll0, PyData.depthAll, Bool.and_eq_true]
    exact ⟨⟨h1, h3⟩, by omega⟩
end
theorem shp_shaped {d : D} (h : shp d 60 = true) : SeqAt.shaped (toP d) = true := by
  obtain ⟨h1, h2⟩ := shp_lay h
  show (PyData.canLay0 (toP d) && decide ((toP d).depth ≤ 64)) = true
  rw [h1, Bool.true_and, decide_eq_true_iff]
  omega
mutual
theorem dp_of {K : PySem.W.Frag} {H : Hp} : ∀ {d : D} {v : V} {n : Nat}, shp d n = true → Rp K H v d → Dp K H v (toP d)
  | .non, _, _, _, h => by cases h; exact .non
  | .bl b, _, _, _, h => by cases h; exact .bl b
  | .int b, _, _, _, h => by cases h; exact .int b
  | .str b, _, _, _, h => by cases h; exact .str b
  | .tup ds, _, n, s, h => by
    rw [shp, Bool.and_eq_true] at s
    cases h with
    | tup h1 h2 => exact .tup h1 (dpA_of s.2 h2)
  | .lst ds, _, n, s, h => by
    rw [shp, Bool.and_eq_true] at s
    cases h with
    | lst h1 h2 => exact .lst h1 (dpA_of s.2 h2)
theorem dpA_of {K : PySem.W.Frag} {H : Hp} : ∀ {ds : List D} {vs : List V} {n : Nat}, shpA ds n = true → RpA K H vs ds → DpAll K H vs (toPs ds)
  | [], _, _, _, h => by cases h; exact .nil
  | d :: ds, _, n, s, h => by
    rw [shpA, Bool.and_eq_true] at s
    cases h with
    | cons h1 h2 => exact .cons (dp_of s.1 h1) (dpA_of s.2 h2)
end
/-- the data at hand -/
def datW (os : Os) (w : W) (d : D) : Prop := match w with
  | .d e => d = e
  | .ref p => ∃ (i : Nat) (ds : List D), os[i]? = some (p, OO.lst (ds.map W.d)) ∧ d = .lst ds
theorem datW_dp {K : PySem.W.Frag} {F V0 H : Hp} {os : Os} {v : V} {w : W} {d : D} (r : Rel K F V0 os H) (rv : RW K V0 v w) (h : datW os w d) (s : shp d 60 = true) : Dp K H v (toP d) := by
  cases w with
  | d e =>
    have h : d = e := h
    subst h
    exact dp_of s (Rp.mono r.vi rv)
  | ref p =>
    have e : v = .ref p := rv
    subst e
    obtain ⟨i, ds, ho, rfl⟩ := h
    obtain ⟨_, _, ho', h3, vs, rfl, h4⟩ := r.own _ (List.mem_of_getElem? ho)
    rw [shp, Bool.and_eq_true] at s
    exact .lst (SqL.of h3) (dpA_of s.2 (RpA.mono r.vi h4.toA))
def eqD (d e : D) : Bool := PyData.eqv (toP d) (toP e)
section
variable {X : Cx} {os : Os} {k : W → Os → Prop} {env : DEnv}
theorem xo_eqD {lvl : Nat} {x y : W} {d e : D} (hr : Room lvl X.A) (hx : datW os x d) (hy : datW os y e) (s1 : shp d 60 = true) (s2 : shp e 60 = true) (q : k (wB (eqD d e)) os) : XO X (compareOp .Eq) x y os k :=
  XO.mk (op_eqD hr.units) fun F V0 H v u Q r rx ry c =>
    ⟨_, _, datW_dp r rx hx s1, datW_dp r ry hy s2, shp_shaped s1, shp_shaped s2, c V0 os H _ _ (Same.refl _) r rwB q⟩
theorem xo_neD {lvl : Nat} {x y : W} {d e : D} (hr : Room lvl X.A) (hx : datW os x d) (hy : datW os y e) (s1 : shp d 60 = true) (s2 : shp e 60 = true) (q : k (wB (!eqD d e)) os) : XO X (compareOp .NotEq) x y os k :=
  XO.mk (op_neD hr.units) fun F V0 H v u Q r rx ry c =>
    ⟨_, _, datW_dp r rx hx s1, datW_dp r ry hy s2, shp_shaped s1, shp_shaped s2, c V0 os H _ _ (Same.refl _) r rwB q⟩
end
theorem eqD_refl {d : D} {n : Nat} (h : shp d n = true) : eqD d d = true := SeqAt.eqv_refl _ (shp_lay h).1
theorem eqvA_ints : ∀ ns ms : List Int, PyData.eqvAll (toPs (ns.map D.int)) (toPs (ms.map D.int)) = decide (ns = ms)
  | [], [] => by simp [toPs, PyData.eqvAll]
  | [], _ :: _ => by simp [toPs, PyData.eqvAll]
  | _ :: _, [] => by simp [toPs, PyData.eqvAll]
  | n :: r, m :: q => by
    simp only [List.map_cons, toPs, toP, PyData.eqvAll, PyData.eqv, eqvA_ints r q]
    by_cases h : n = m <;> simp [h]
theorem eqD_ints (ns ms : List Int) : eqD (.lst (ns.map D.int)) (.lst (ms.map D.int)) = decide (ns = ms) := by
  unfold eqD
  rw [toP, toP, PyData.eqv]
  exact eqvA_ints ns ms
theorem shpA_ints (ns : List Int) (n : Nat) : shpA (ns.map D.int) n = true := shpA_all.mpr fun d hd => by
  obtain ⟨i, _, rfl⟩ := List.mem_map.mp hd
  rfl
theorem shp_ints (ns : List Int) : shp (.lst (ns.map D.int)) 60 = true := by
  rw [shp, shpA_ints]; rfl

/-! ### membership among ints -/
def flatInts : ∀ ns : List Int, (ns.map V.int).all flatV = true
  | [] => rfl
  | n :: ns => by rw [List.map_cons, List.all_cons, flatInts ns]; rfl
theorem inV_ints {i : Int} : ∀ ns : List Int, inV (.int i) (ns.map V.int) = decide (i ∈ ns)
  | [] => by simp [inV]
  | n :: ns => by
    have h := inV_ints (i := i) ns
    unfold inV at h ⊢
    rw [List.map_cons, List.any_cons, h]
    by_cases e : n = i
    · subst e; simp [eqV]
    · have e' : i ≠ n := fun x => e x.symm
      simp [eqV, e, e']
theorem rpA_int {K : PySem.W.Frag} {H : Hp} : ∀ {ns : List Int} {vs : List V}, RpA K H vs (ns.map D.int) → vs = ns.map V.int
  | [], _, h => by cases h; rfl
  | n :: ns, _, h => by
    cases h with
    | cons a b => cases a; rw [rpA_int b]; rfl
section
variable {X : Cx} {os : Os} {k : W → Os → Prop} {env : DEnv}
theorem xo_inI {i : Int} {w : W} {ns : List Int} (h : seqW os w (ns.map D.int)) (q : k (wB (decide (i ∈ ns))) os) : XO X (compareOp .In) (wI i) w os k :=
  XO.mk op_in_seq fun F V0 H v u Q r rx ry c => by
    cases rx
    obtain ⟨a, vs, rfl, hs, ra⟩ := seqW_of r ry h
    have e := rpA_int ra
    subst e
    refine ⟨a, _, rfl, hs, rfl, flatInts ns, c V0 os H _ _ (Same.refl _) r ?_ q⟩
    rw [if_neg (by decide), inV_ints]
    exact rwB
theorem xo_notInI {i : Int} {w : W} {ns : List Int} (h : seqW os w (ns.map D.int)) (q : k (wB (!decide (i ∈ ns))) os) : XO X (compareOp .NotIn) (wI i) w os k :=
  XO.mk op_notIn_seq fun F V0 H v u Q r rx ry c => by
    cases rx
    obtain ⟨a, vs, rfl, hs, ra⟩ := seqW_of r ry h
    have e := rpA_int ra
    subst e
    refine ⟨a, _, rfl, hs, rfl, flatInts ns, c V0 os H _ _ (Same.refl _) r ?_ q⟩
    rw [if_pos rfl, inV_ints]
    exact rwB
end

/-! ### lists alone -/
def lstWD (os : Os) (w : W) (ds : List D) : Prop := match w with
  | .d (.lst es) => ds = es
  | .ref p => ∃ i : Nat, os[i]? = some (p, OO.lst (ds.map W.d))
  | _ => False
theorem lstWD_of {K : PySem.W.Frag} {F V0 H : Hp} {os : Os} {v : V} {w : W} {ds : List D} (r : Rel K F V0 os H) (rv : RW K V0 v w) (h : lstWD os w ds) : ∃ a vs, v = .ref a ∧ SqL K H a vs ∧ RpA K V0 vs ds := by
  cases w with
  | ref p =>
    have e : v = .ref p := rv
    subst e
    obtain ⟨i, ho⟩ := h
    obtain ⟨_, _, ho', h3, vs, rfl, h4⟩ := r.own _ (List.mem_of_getElem? ho)
    exact ⟨p, vs, rfl, SqL.of h3, h4.toA⟩
  | d d =>
    cases d with
    | lst es =>
      have h : ds = es := h
      subst h
      obtain ⟨p, xs, rfl, h1, h2⟩ := rp_lst rv
      exact ⟨p, xs, rfl, r.vi.seq h1, h2⟩
    | _ => exact h.elim
section
variable {X : Cx} {os : Os} {k : W → Os → Prop} {env : DEnv}
theorem xc_maxI {w : W} {ns : List Int} (hc : X.calm = true) (h : lstWD os w (ns.map D.int)) (hn : 0 < ns.length) (q : ∀ m, m ∈ ns → (∀ y, y ∈ ns → y ≤ m) → k (wI m) os) : XC X (.builtin "max") [w] os k :=
  XC.mk (cr_max hc) fun F V0 H vs Q r rs c => by
    obtain ⟨v, rfl, rv⟩ := rws1 rs
    obtain ⟨a, xs, rfl, hs, ra⟩ := lstWD_of r rv h
    have e := rpA_int ra
    subst e
    exact ⟨a, ns, rfl, hs, hn, fun m h1 h2 => c V0 os H _ _ (Same.refl _) r rwI (q m h1 h2)⟩
theorem xc_minI {w : W} {ns : List Int} (hc : X.calm = true) (h : lstWD os w (ns.map D.int)) (hn : 0 < ns.length) (q : ∀ m, m ∈ ns → (∀ y, y ∈ ns → m ≤ y) → k (wI m) os) : XC X (.builtin "min") [w] os k :=
  XC.mk (cr_min hc) fun F V0 H vs Q r rs c => by
    obtain ⟨v, rfl, rv⟩ := rws1 rs
    obtain ⟨a, xs, rfl, hs, ra⟩ := lstWD_of r rv h
    have e := rpA_int ra
    subst e
    exact ⟨a, ns, rfl, hs, hn, fun m h1 h2 => c V0 os H _ _ (Same.refl _) r rwI (q m h1 h2)⟩
theorem xc_sumI {w : W} {ns : List Int} (hc : X.calm = true) (h : lstWD os w (ns.map D.int)) (q : k (wI ns.sum) os) : XC X (.builtin "sum") [w] os k :=
  XC.mk (cr_sum hc) fun F V0 H vs Q r rs c => by
    obtain ⟨v, rfl, rv⟩ := rws1 rs
    obtain ⟨a, xs, rfl, hs, ra⟩ := lstWD_of r rv h
    have e := rpA_int ra
    subst e
    exact ⟨a, ns, rfl, hs, c V0 os H _ _ (Same.refl _) r rwI q⟩
/-- sorted(ints) -/
theorem xc_sortedI {w : W} {ns : List Int} (h : lstWD os w (ns.map D.int)) (q : ∀ ms : List Int, ms.Perm ns → ms.Pairwise (· ≤ ·) → k (wL (ms.map D.int)) os) : XC X (.builtin "sorted") [w] os k :=
  XC.mk cr_sortedI fun F V0 H vs Q r rs c => by
    obtain ⟨v, rfl, rv⟩ := rws1 rs
    obtain ⟨a, xs, rfl, hs, ra⟩ := lstWD_of r rv h
    have e := rpA_int ra
    subst e
    refine ⟨a, ns, rfl, hs, fun ms p h1 h2 hp => ?_⟩
    obtain ⟨s2, r2, rp⟩ := rel_newL r hp (rpA_ints (K := X.K) (H := V0) ms)
    exact c _ os _ _ (wL (ms.map D.int)) s2 r2 rp (q ms h1 h2)
end

/-! ### sorted(pairs of ints) -/
abbrev dP (p : Int × Int) : D := .tup [.int p.1, .int p.2]
def lePair (p q : Int × Int) : Prop := p.1 < q.1 ∨ (p.1 = q.1 ∧ p.2 ≤ q.2)
theorem pair_det {h : Heap} {u : Value} {a b c d : Int} (h1 : Srt.IsPair h u a b) (h2 : Srt.IsPair h u c d) : a = c ∧ b = d := by
  obtain ⟨t, o, t1, t2, n, rfl, ho, hc, hd⟩ := h1
  obtain ⟨t', o', t1', t2', n', e, ho', hc', hd'⟩ := h2
  cases e
  rw [ho] at ho'
  cases ho'
  rw [hd] at hd'
  simp only [Data.seq.injEq, Array.mk.injEq, List.cons.injEq, Value.int.injEq] at hd'
  exact ⟨hd'.1.1.1, hd'.1.2.1.1⟩
open Classical in
noncomputable def pairIn (h : Heap) (u : Value) : Int × Int := if e : ∃ p : Int × Int, Srt.IsPair h u p.1 p.2 then e.choose else (0, 0)
theorem pairIn_eq {h : Heap} {u : Value} {p : Int × Int} (e : Srt.IsPair h u p.1 p.2) : pairIn h u = p := by
  have x : ∃ p : Int × Int, Srt.IsPair h u p.1 p.2 := ⟨p, e⟩
  unfold pairIn
  rw [dif_pos x]
  obtain ⟨a, b⟩ := pair_det x.choose_spec e
  exact Prod.ext a b
theorem pair_of {X : Cx} {pins : List (Addr × Obj)} {σ : L2.St} {H V0 : Hp} {s : Shared} (I : Inv X pins σ H s) (sv : Same V0 H) {v : V} {u : Value} {p : Int × Int} (r : Rp X.K V0 v (dP p)) (rv : RelV v u) : Srt.IsPair s.heap u p.1 p.2 := by
  obtain ⟨a, xs, rfl, h1, h2⟩ := rp_tup r
  cases h2 with
  | cons i1 h2 =>
    cases h2 with
    | cons i2 h2 =>
      cases h2
      cases i1
      cases i2
      obtain ⟨its, r2, ⟨o, ho, hc, n, hd⟩, _⟩ := I.tuple (same_sqT sv h1)
      have e : u = .ref a := rv
      subst e
      obtain ⟨u1, u2, rfl, t1, t2⟩ := Vals.two r2
      obtain ⟨k1, rfl⟩ := t1
      obtain ⟨k2, rfl⟩ := t2
      exact ⟨a, o, k1, k2, n, rfl, ho, hc, hd⟩
theorem pairs_of {X : Cx} {pins : List (Addr × Obj)} {σ : L2.St} {H V0 : Hp} {s : Shared} (I : Inv X pins σ H s) (sv : Same V0 H) : ∀ {ps : List (Int × Int)} {vs : List V} {us : List Value}, RpA X.K V0 vs (ps.map dP) → Vals vs us →
    (us.map (pairIn s.heap) = ps) ∧ ∀ u ∈ us, (∃ a, u = .ref a ∧ Rp X.K V0 (.ref a) (dP (pairIn s.heap u))) ∧ Srt.IsPair s.heap u (pairIn s.heap u).1 (pairIn s.heap u).2
  | [], _, _, h, r => by
    cases h
    cases r
    exact ⟨rfl, fun u hu => absurd hu List.not_mem_nil⟩
  | p :: ps, _, _, h, r => by
    cases h with
    | cons a b =>
      cases r with
      | cons c d =>
        obtain ⟨e1, e2⟩ := pairs_of I sv b d
        have q := pair_of I sv a c
        have e := pairIn_eq q
        refine ⟨by rw [List.map_cons, e, e1], fun u hu => ?_⟩
        rcases List.mem_cons.mp hu with rfl | hu
        · rw [e]
          obtain ⟨a', xs, rfl, h1, h2⟩ := rp_tup a
          cases c
          exact ⟨⟨a', rfl, a⟩, q⟩
        · exact e2 u hu
theorem back_of {K : PySem.W.Frag} {V0 : Hp} {g : Value → Int × Int} : ∀ {us : List Value}, (∀ u ∈ us, ∃ a, u = .ref a ∧ Rp K V0 (.ref a) (dP (g u))) → ∃ vs, Vals vs us ∧ RpA K V0 vs ((us.map g).map dP)
  | [], _ => ⟨[], .nil, .nil⟩
  | u :: us, h => by
    obtain ⟨vs, h1, h2⟩ := back_of fun u hu => h u (List.mem_cons_of_mem _ hu)
    obtain ⟨a, rfl, h3⟩ := h u (.head _)
    exact ⟨.ref a :: vs, .cons rfl h1, .cons h3 h2⟩
section
variable {X : Cx} {os : Os} {k : W → Os → Prop} {env : DEnv}
theorem xc_sortedP {w : W} {ps : List (Int × Int)} (h : lstWD os w (ps.map dP)) (q : ∀ qs : List (Int × Int), qs.Perm ps → qs.Pairwise lePair → k (wL (qs.map dP)) os) : XC X (.builtin "sorted") [w] os k := by
  intro F V0 H vs Q r rs c pins s σ us I rv
  obtain ⟨v, rfl, rw'⟩ := rws1 rs
  obtain ⟨a, xs, rfl, hs, ra⟩ := lstWD_of r rw' h
  obtain ⟨its, rv2, hl, hz⟩ := I.list hs
  rw [Vals.ref1 rv]
  obtain ⟨e1, e2⟩ := pairs_of I r.vi ra rv2
  refine SrtO.sorted_pairsO (k := pairIn s.heap) hl.isList (by rw [← rv2.length]; exact hz) (fun u hu => (e2 u hu).2) fun h' d out h1 h2 kp hd hn => ?_
  obtain ⟨n, hn⟩ := hn
  obtain ⟨zs, z1, z2⟩ := back_of (K := X.K) (V0 := V0) (g := pairIn s.heap) (us := out) fun u hu => (e2 u (h2.perm.mem_iff.mp hu)).1
  have hl2 : zs.length ≤ sizeLine := by
    rw [z1.length, h2.perm.length_eq, ← rv2.length]
    exact hz
  have hp : (out.map (pairIn s.heap)).Perm ps := by
    have := h2.perm.map (pairIn s.heap)
    rw [e1] at this
    exact this
  have fr : H d = none := I.hok.fresh hd
  obtain ⟨s2, r2, rp⟩ := rel_newL r fr z2
  refine ⟨.ref d, upd H d (.lst zs), I.laid (t' := s.toks) kp hd ⟨hl2, out, n, z1, hn⟩, rfl, c _ os _ _ (wL ((out.map (pairIn s.heap)).map dP)) s2 r2 rp (q _ hp ?_)⟩
  rw [List.pairwise_map]
  refine List.Pairwise.imp (fun {x y} hxy => ?_) h1
  have := SrtO.lexB_no.mp hxy
  show (pairIn s.heap x).1 < (pairIn s.heap y).1 ∨ ((pairIn s.heap x).1 = (pairIn s.heap y).1 ∧ (pairIn s.heap x).2 ≤ (pairIn s.heap y).2)
  omega
end

/-! ### list + list -/
def rCatS (K : PySem.W.Frag) : R2 := fun x y H Q => ∃ a b xs ys, x = .ref a ∧ y = .ref b ∧ SqL K H a xs ∧ SqL K H b ys ∧ xs.length + ys.length ≤ sizeLine ∧ ∀ p, H p = none → Q (.ref p) (upd H p (.lst (xs ++ ys)))
section
variable {X : Cx} {os : Os} {k : W → Os → Prop} {env : DEnv}
theorem op_catS : OpR X (binaryOp .Add) (rCatS X.K) := by
  intro pins s σ H x y v u Q I rx ry h
  obtain ⟨a, b, xs, ys, rfl, rfl, h1, h2, hz, q⟩ := h
  cases rx
  cases ry
  obtain ⟨us, r1, ⟨⟨cls, dd, data, sl⟩, n, ho, hc, hn, hd⟩, _⟩ := I.list h1
  obtain ⟨ws, r2, ⟨⟨cls2, dd2, data2, sl2⟩, n2, ho2, hc2, hn2, hd2⟩, _⟩ := I.list h2
  simp only at hc hd hc2 hd2
  subst hc hd hc2 hd2
  have hl : (us ++ ws).length ≤ sizeLine := by rw [List.length_append, ← r1.length, ← r2.length]; exact hz
  have ee : us.toArray ++ ws.toArray = (us ++ ws).toArray := by simp
  have kk := list_addW a b us.toArray ws.toArray n n2 dd dd2 sl sl2 (by rw [List.length_append] at hl; simpa using hl)
  refine concat_meets ⟨_, ho, rfl⟩ ⟨_, ho2, rfl⟩ noFill_list_add seq_list_add PySem.F.slot_list_add PySem.F.entry_list_add (PySem.F.args_list_add_2 _ _) kk ⟨ho, ho2, ?_⟩
  rw [ee]
  exact ⟨.ref _, _, I.lnew (t' := s.toks) (r1.append r2) (by rw [(r1.append r2).length]; exact hl), rfl, q _ I.fresh⟩
theorem xo_cat {x y : W} {ds es : List D} (hx : lstWD os x ds) (hy : lstWD os y es) (hl : ds.length + es.length ≤ sizeLine) (q : k (wL (ds ++ es)) os) : XO X (binaryOp .Add) x y os k :=
  XO.mk op_catS fun F V0 H v u Q r rx ry c => by
    obtain ⟨a, xs, rfl, h1, r1⟩ := lstWD_of r rx hx
    obtain ⟨b, ys, rfl, h2, r2⟩ := lstWD_of r ry hy
    refine ⟨a, b, xs, ys, rfl, rfl, h1, h2, by rw [r1.length, r2.length]; exact hl, fun p hp => ?_⟩
    obtain ⟨s2, r3, rp⟩ := rel_newL r hp (r1.append r2)
    exact c _ os _ _ (wL (ds ++ es)) s2 r3 rp q
/-- a list at hand, owned or data, of anything -/
def lstWW (os : Os) (w : W) (ws : List W) : Prop := match w with
  | .d (.lst es) => ws = es.map W.d
  | .ref p => ∃ i : Nat, os[i]? = some (p, OO.lst ws)
  | _ => False
theorem lstWW_of {K : PySem.W.Frag} {F V0 H : Hp} {os : Os} {v : V} {w : W} {ws : List W} (r : Rel K F V0 os H) (rv : RW K V0 v w) (h : lstWW os w ws) : ∃ a vs, v = .ref a ∧ SqL K H a vs ∧ RWs K V0 vs ws := by
  cases w with
  | ref p =>
    have e : v = .ref p := rv
    subst e
    obtain ⟨i, ho⟩ := h
    obtain ⟨_, _, ho', h3, vs, rfl, h4⟩ := r.own _ (List.mem_of_getElem? ho)
    exact ⟨p, vs, rfl, SqL.of h3, h4⟩
  | d d =>
    cases d with
    | lst es =>
      have h : ws = es.map W.d := h
      subst h
      obtain ⟨p, xs, rfl, h1, h2⟩ := rp_lst rv
      exact ⟨p, xs, rfl, r.vi.seq h1, RWs.ofA h2⟩
    | _ => exact h.elim
theorem xo_catO {x y : W} {ds es : List W} (hx : lstWW os x ds) (hy : lstWW os y es) (hl : ds.length + es.length ≤ sizeLine) (q : ∀ p, k (.ref p) ((p, .lst (ds ++ es)) :: os)) : XO X (binaryOp .Add) x y os k :=
  XO.mk op_catS fun F V0 H v u Q r rx ry c => by
    obtain ⟨a, xs, rfl, h1, r1⟩ := lstWW_of r rx hx
    obtain ⟨b, ys, rfl, h2, r2⟩ := lstWW_of r ry hy
    refine ⟨a, b, xs, ys, rfl, rfl, h1, h2, by rw [r1.len, r2.len]; exact hl, fun p hp => ?_⟩
    exact c V0 _ _ _ (.ref p) (Same.refl _) (r.addO hp (oo := .lst (ds ++ es)) ⟨_, rfl, r1.append r2⟩) rfl (q p)
theorem rws_rep {K : PySem.W.Frag} {H : Hp} {vs : List V} {ws : List W} (h : RWs K H vs ws) : ∀ n : Nat, RWs K H (List.replicate n vs).flatten (List.replicate n ws).flatten
  | 0 => .nil
  | n + 1 => by
    rw [List.replicate_succ, List.replicate_succ, List.flatten_cons, List.flatten_cons]
    exact h.append (rws_rep h n)
/-- [..] * n: the list is owned, and goes -/
theorem xo_rep {p : Addr} {j : Int} {n : Nat} {ws : List W} (ho : os[n]? = some (p, .lst ws)) (h1 : -(2 ^ 63) ≤ j) (h2 : j < 2 ^ 63) (hl : ws.length * j.toNat ≤ sizeLine)
    (q : ∀ a, k (.ref a) ((a, .lst (List.replicate j.toNat ws).flatten) :: os.eraseIdx n)) : XO X (binaryOp .Mult) (.ref p) (wI j) os k :=
  XO.mk op_rep fun F V0 H v u Q r rx ry c => by
    have e : v = .ref p := rx
    subst e
    cases ry
    obtain ⟨vs, h3, h4, _⟩ := own_ty r ho
    refine ⟨p, j, vs, rfl, rfl, h3, h1, h2, by rw [h4.len]; exact hl, fun a ha => ?_⟩
    have r2 := (r.drop (List.eraseIdx_sublist os n)).addO ha (oo := .lst (List.replicate j.toNat ws).flatten) ⟨_, rfl, rws_rep h4 _⟩
    exact c V0 _ _ _ (.ref a) (Same.refl _) r2 rfl (q a)
theorem xe_binL {op : Operator} {es : List Expr} {b : Expr} {pos p1 : Pos} (h : XA X es env os fun ws os1 => ws.length ≤ sizeLine ∧ ∀ p, XE X b env ((p, .lst ws) :: os1) fun y os2 => XO X (binaryOp op) (.ref p) y os2 k) : XE X (.BinOp (.List es p1) op b pos) env os k :=
  xe_bin (xe_lstO h)
/-- xs.pop() -/
theorem xe_pop {o : Expr} {apos cpos : Pos} (h : XE X o env os fun w os1 => ∃ (pl : Addr) (n : Nat) (ws : List W) (z : W), w = .ref pl ∧ os1[n]? = some (pl, OO.lst ws) ∧ ws[ws.length - 1]? = some z ∧ k z (os1.set n (pl, .lst ws.dropLast)))
    (hbase : attributeBase o "pop" X.env (eval o X.env) = eval o X.env := by rfl) (hline : (apos.endLine == cpos.line) = true := by rfl) :
    XE X (.Call (.Attribute o "pop" apos) [] [] cpos) env os k := by
  intro F V0 H σ Q r sr c
  refine wE_of (pe_bm0 PySem.F.plainAttrs_list PySem.F.slot_list_pop PySem.F.type_list_pop mt_pop wE_pe hbase hline) ?_
  refine h F V0 H σ _ r sr fun V1 os1 H1 v w s1 r1 rv ⟨pl, n, ws, z, e1, ho, hz, q⟩ => ?_
  subst e1
  have e : v = .ref pl := rv
  subst e
  obtain ⟨vs, h3, h4, ty⟩ := own_ty r1 ho
  refine ⟨ty, ?_⟩
  obtain ⟨zv, ez, rz⟩ := h4.get (i := ws.length - 1) hz
  refine ⟨pl, vs, zv, rfl, rfl, h3, by rw [h4.len]; exact ez, ?_⟩
  refine c V1 _ _ _ z s1 (r1.mut ho (oo' := .lst ws.dropLast) ⟨vs.dropLast, rfl, ?_⟩) rz q
  rw [List.dropLast_eq_take, List.dropLast_eq_take, h4.len]
  exact h4.take _
/-- xs.index(i), ints -/
theorem xe_index {o e : Expr} {apos cpos : Pos} (h : XE X o env os fun w os1 => ∃ ds : List D, w = wL ds ∧ XE X e env os1 fun y os2 => ∃ (ns : List Int) (i : Int), ds = ns.map D.int ∧ y = wI i ∧ i ∈ ns ∧ ∀ j : Nat, ns[j]? = some i → (∀ m, m < j → ns[m]? ≠ some i) → k (wI j) os2)
    (hbase : attributeBase o "index" X.env (eval o X.env) = eval o X.env := by rfl)
    (hfew : ((backTo cpos (starEach [e] X.env)).all (fun x => !x.1) && (backToKw cpos (keywordEach [] X.env)).all (fun x => x.1.isSome)
      && decide ([e].length + ([] : List Keyword).length + (if ([] : List Keyword).isEmpty then 0 else 1) < 30)) = true := by rfl)
    (hline : (apos.endLine == cpos.line) = true := by rfl) (hs : starEach [e] X.env = (false, eval e X.env) :: starEach [] X.env := by rfl) :
    XE X (.Call (.Attribute o "index" apos) [e] [] cpos) env os k := by
  intro F V0 H σ Q r sr c
  refine wE_of (pe_bm PySem.F.plainAttrs_list PySem.F.slot_list_index PySem.F.type_list_index mt_index wE_pe (pa_cons wE_pe pa_nil hs) hbase hfew hline hs) ?_
  refine h F V0 H σ _ r sr fun V1 os1 H1 v w s1 r1 rv ⟨ds, e1, hx⟩ => ?_
  subst e1
  obtain ⟨a, xs, rfl, g1, g2⟩ := rp_lst rv
  refine ⟨.inl ⟨rfl, _, r1.vi.seq g1⟩, ?_⟩
  refine hx F V1 H1 σ _ r1 (sr.mono s1) fun V2 os2 H2 u y s2 r2 ru ⟨ns, i, e2, e3, hm, q⟩ => ?_
  subst e2
  subst e3
  cases ru
  have e := rpA_int g2
  subst e
  obtain ⟨j, b1, b2, b3, _⟩ := first_at hm
  refine ⟨a, _, .int i, j, .int i, rfl, rfl, (s2.trans r2.vi).seq g1, rfl, flatInts ns, by rw [List.getElem?_map, b2]; rfl, by simp [eqV], fun m z hmj hz => ?_, c V2 os2 H2 _ _ (s1.trans s2) r2 rwI (q j b2 b3)⟩
  rw [List.getElem?_map] at hz
  obtain ⟨n, hn, rfl⟩ := Option.map_eq_some_iff.mp hz
  have := b3 m hmj
  have ne : n ≠ i := fun e => this (by rw [hn, e])
  simp [eqV, ne]
end
theorem szN {n : Nat} (h : n ≤ 1000) : n ≤ sizeLine := by rw [sizeLine_eq]; omega
theorem str_small {i : Int} (h0 : 0 ≤ i) (h1 : i < 4611686018427387904) : i.natAbs.log2 < 1920 := by
  have e : i.natAbs < 2 ^ 62 := by have : (2 : Nat) ^ 62 = 4611686018427387904 := by decide
                                   omega
  by_cases z : i.natAbs = 0
  · rw [z]; decide
  · have := (Nat.log2_lt z).mpr e
    omega
section
variable {X : Cx} {os : Os} {k : W → Os → Prop}
theorem xo_neB {lvl : Nat} {a b : Bool} (hr : Room lvl X.A) (q : k (wB (!(a == b))) os) : XO X (compareOp .NotEq) (wB a) (wB b) os k :=
  xo_neD (d := .bl a) (e := .bl b) hr rfl rfl rfl rfl (by
    have e : eqD (.bl a) (.bl b) = (a == b) := by simp [eqD, toP, PyData.eqv]
    rw [e]; exact q)
theorem xo_eqB {lvl : Nat} {a b : Bool} (hr : Room lvl X.A) (q : k (wB (a == b)) os) : XO X (compareOp .Eq) (wB a) (wB b) os k :=
  xo_eqD (d := .bl a) (e := .bl b) hr rfl rfl rfl rfl (by
    have e : eqD (.bl a) (.bl b) = (a == b) := by simp [eqD, toP, PyData.eqv]
    rw [e]; exact q)
end
theorem sIx_some {n a : Nat} (h : a ≤ n) (d : Nat) : HT.sIx n d (some (a : Int)) = a := by
  rw [HT.sIx_nat]
  omega
theorem sIx_none {n d : Nat} : HT.sIx n d none = d := rfl
theorem cutA_to {α : Type} {xs : List α} {a : Nat} (h : a ≤ xs.length) : cutA xs none (some (a : Int)) = xs.take a := by
  unfold cutA
  rw [sIx_some h, sIx_none, List.drop_zero, Nat.sub_zero]
theorem cutA_from {α : Type} {xs : List α} {a : Nat} (h : a ≤ xs.length) : cutA xs (some (a : Int)) none = xs.drop a := by
  unfold cutA
  rw [sIx_some h, sIx_none, ← List.length_drop, List.take_length]
theorem atI_natP {α : Type} {ds : List α} {i : Int} {d : α} (h0 : 0 ≤ i) (h : ds[i.toNat]? = some d) : atI ds i = some d := by
  obtain ⟨j, rfl⟩ : ∃ j : Nat, i = (j : Int) := ⟨i.toNat, by omega⟩
  rw [Int.toNat_natCast] at h
  exact atI_nat h
theorem slw_lst {os : Os} {ds : List D} {lo hi : Option Int} {k : W → Os → Prop} (q : k (wL (cutA ds lo hi)) os) : SlW os (wL ds) lo hi k := q
theorem slw_own {os : Os} {ds : List D} {p : Addr} {lo hi : Option Int} {k : W → Os → Prop} {n : Nat} (ho : os[n]? = some (p, OO.lst (ds.map W.d))) (q : k (wL (cutA ds lo hi)) os) : SlW os (.ref p) lo hi k := ⟨n, ds, ho, q⟩
end DL

set_option Elab.async false
set_option linter.all false
set_option maxRecDepth 100000
/-! DL11: fewer owned things (drop), classes with arguments, min and remove over pairs, field lookups. -/
namespace DL
open PySem PySem.Spec PyProof.Rows L2
section
variable {X : Cx} {os os' : Os} {env : DEnv}
theorem XE.drop {e : Expr} {k : W → Os → Prop} (s : os'.Sublist os) (h : XE X e env os' k) : XE X e env os k := fun F V0 H σ Q r => h F V0 H σ Q (r.drop s)
theorem XS.drop {sts : List Stmt} {K : DEnds} (s : os'.Sublist os) (h : XS X sts env os' K) : XS X sts env os K := fun F V0 H σ D r => h F V0 H σ D (r.drop s)
theorem X1.drop {st : Stmt} {K : DEnds} (s : os'.Sublist os) (h : X1 X st env os' K) : X1 X st env os K := fun F V0 H σ D r => h F V0 H σ D (r.drop s)
theorem XG.drop {tg : Expr} {w : W} {kg : DEnv → Os → Prop} (s : os'.Sublist os) (h : XG X tg w env os' kg) : XG X tg w env os kg := fun F V0 H σ v Q r => h F V0 H σ v Q (r.drop s)
end

/-! ### fields -/
theorem lk0 {f : Str} {y : W} {r : List (Str × W)} : List.lookup f ((f, y) :: r) = some y := by
  rw [List.lookup_cons, beq_self_eq_true]
theorem lk1 {f g : Str} {x y : W} {r : List (Str × W)} (h : (f == g) = false) (q : List.lookup f r = some y) : List.lookup f ((g, x) :: r) = some y := by
  rw [List.lookup_cons, h]; exact q
theorem ln0 {f : Str} : List.lookup f ([] : List (Str × W)) = none := rfl
theorem ln1 {f g : Str} {x : W} {r : List (Str × W)} (h : (f == g) = false) (q : List.lookup f r = none) : List.lookup f ((g, x) :: r) = none := by
  rw [List.lookup_cons, h]; exact q
theorem put0 {f : Str} {w : W} : putW f w [] = [(f, w)] := rfl
theorem put1 {f : Str} {w x : W} {r : List (Str × W)} : putW f w ((f, x) :: r) = (f, w) :: r := by
  show (if f = f then _ else _) = _
  rw [if_pos rfl]
theorem put2 {f g : Str} {w x : W} {r r' : List (Str × W)} (h : (g == f) = false) (q : putW f w r = r') : putW f w ((g, x) :: r) = (g, x) :: r' := by
  show (if g = f then _ else _) = _
  rw [if_neg (by intro e; rw [e, beq_self_eq_true] at h; cases h), q]
section
variable {X : Cx} {env : DEnv} {os : Os} {k : W → Os → Prop} {K : DEnds} {pos pos' apos cpos : Pos} {e o value : Expr} {es : List Expr} {f m x : Str} {C : Addr} {lvl n : Nat} {ps : List Str}
/-- o.f = value, the fields told -/
theorem x1_fld' (c : Cls X.K C) (na : NoAttr X.K C f) (h : XE X value env os fun y os1 => XE X o env os1 fun w os2 => ∃ (a : Addr) (n : Nat) (fs gs : List (Str × W)), w = .ref a ∧ os2[n]? = some (a, OO.ins C fs) ∧ fs.length < 1000 ∧ putW f y fs = gs ∧ K.nx env (os2.set n (a, .ins C gs)))
    (hs : swapsWith value (some (.Attribute o f pos')) pos.line X.env = pure false := by rfl) : X1 X (.Assign [.Attribute o f pos'] value pos) env os K :=
  x1_fld c na (h.mono fun y o h => h.mono fun w o ⟨a, n, fs, gs, h1, h2, h3, h4, h5⟩ => ⟨a, n, fs, h1, h2, h3, by rw [h4]; exact h5⟩) hs
/-- an __init__ that is there -/
structure MkM (P : Program) (w : World) (K : PySem.W.Frag) (mg : Str → Option Value) (base : Heap) (lvl : Nat) (C : Addr) (x : Str) (ps : List Str) (sp : Sp) : Prop where
  ex : ∃ (f : Addr) (fd : FuncData), Mk K C f ∧ FnOk P w K mg base CX0 lvl f fd ps sp ∧ Binds K fd ps [] ∧ mg x = some (.ref C)
/-- C(e, ..): the new instance, then its __init__ over it and what is lent to it -/
theorem xe_makeF {S : List W → Os → (W → Os → Prop) → Prop} (M : MkM X.prog X.w X.K X.mg X.base lvl C x ps (spF X.K n S)) (hr : Room (lvl + 1) X.A) (hg : Gl X x)
    (h : XA X (e :: es) env os fun ws os1 => ws.length + 1 = n ∧ ∃ of or : Os, os1.Perm (of ++ or) ∧ ∀ a : Addr, S (.ref a :: ws) ((a, OO.ins C []) :: of) fun w of' => w = wN ∧ k (.ref a) (of' ++ or)) (hdb : (x == ("__debug__" : Str)) = false := by decide)
    (he : starEach (e :: es) X.env = (false, eval e X.env) :: starEach es X.env := by rfl) (hpl : (backTo pos (starEach es X.env)).any (·.1) = false := by rfl) : XE X (.Call (.Name x pos') (e :: es) [] pos) env os k := by
  obtain ⟨f, fd, Mk1, G, hb, hm⟩ := M.ex
  intro F V0 H σ Q r sr cc
  refine wE_of (pe_make Mk1 G hr hg hm hb .nil pass0 wA_pa hdb he hpl) ?_
  refine h F V0 H σ _ r sr fun V1 os1 H1 vs ws s1 r1 rs ⟨hn, of, or, hp, q⟩ => ?_
  intro a dx ha hdx ne
  rw [List.append_nil]
  have q1 : Rel X.K F V1 (of ++ or) (upd H1 dx (.own a)) := by
    have sh : Same H1 (upd H1 dx (.own a)) := same_upd hdx
    have r1 := r1.perm hp
    exact ⟨r1.fr.trans sh, r1.vi.trans sh, r1.fv, fun q hq => by obtain ⟨h1, h2, ho, h3, h4⟩ := r1.own q hq; exact ⟨h1, h2, ho, sh _ _ h3, h4⟩, r1.nd⟩
  have r2 : Rel X.K F V1 (((a, OO.ins C []) :: of) ++ or) (upd (upd H1 dx (.own a)) a (.ins C dx [])) := q1.addO (by rw [upd_ne (Ne.symm ne)]; exact ha) ⟨dx, [], rfl, .nil⟩
  obtain ⟨F2, r3, back⟩ := Rel.frame (of := (a, OO.ins C []) :: of) (or := or) r2
  refine ⟨by rw [List.length_cons, rs.len]; exact hn, F2, V1, _, .ref a :: ws, _, r3, .cons rfl rs, q a, fun V3 os3 H3 v3 w3 s3 r4 rv3 ⟨e3, hq⟩ => ?_⟩
  subst e3
  cases rv3
  exact ⟨rfl, cc V3 _ H3 (.ref a) (.ref a) (s1.trans s3) (back V3 os3 H3 s3 r4) rfl hq⟩
theorem xe_make0M {S : List W → Os → (W → Os → Prop) → Prop} (M : MkM X.prog X.w X.K X.mg X.base lvl C x ps (spF X.K n S)) (hr : Room (lvl + 1) X.A) (hg : Gl X x)
    (h : 1 = n ∧ ∀ a : Addr, S [.ref a] [(a, OO.ins C [])] fun w of' => w = wN ∧ k (.ref a) (of' ++ os)) (hdb : (x == ("__debug__" : Str)) = false := by decide) : XE X (.Call (.Name x pos') [] [] pos) env os k := by
  obtain ⟨f, fd, Mk1, G, hb, hm⟩ := M.ex
  exact xe_make0 Mk1 G hb hr hg hm h hdb
end

/-! ### pairs: min, remove, in -/
theorem eq_pairs {p q : Int × Int} : eqD (dP p) (dP q) = decide (p = q) := by
  unfold eqD
  simp only [toP, toPs, PyData.eqv, PyData.eqvAll, Bool.and_true]
  by_cases h : p = q
  · subst h; simp
  · have : ¬ (p.1 = q.1 ∧ p.2 = q.2) := fun e => h (Prod.ext e.1 e.2)
    rw [decide_eq_false h]
    by_cases h1 : p.1 = q.1
    · have h2 : p.2 ≠ q.2 := fun e => this ⟨h1, e⟩
      simp [h1, h2]
    · simp [h1]
theorem toPs_pairs : ∀ ps : List (Int × Int), toPs (ps.map dP) = ps.map PySem.W.Datum.toD
  | [] => rfl
  | p :: ps => by
    rw [List.map_cons, toPs, toPs_pairs ps, List.map_cons]
    rfl
theorem shpA_pairs (ps : List (Int × Int)) (n : Nat) : shpA (ps.map dP) (n + 1) = true := shpA_all.mpr fun d hd => by
  obtain ⟨i, _, rfl⟩ := List.mem_map.mp hd
  simp [shp, shpA]
theorem shp_pairs (ps : List (Int × Int)) : shp (.lst (ps.map dP)) 60 = true := by
  rw [shp, shpA_pairs]; rfl
theorem shp_pair (p : Int × Int) : shp (dP p) 60 = true := rfl
theorem minOf_pairs : ∀ (ps : List (Int × Int)) (p : Int × Int), PySem.W.minOf p ps ∈ p :: ps ∧ ∀ q ∈ p :: ps, lePair (PySem.W.minOf p ps) q
  | [], p => ⟨.head _, fun q hq => by
      rw [List.mem_singleton] at hq
      subst hq
      exact .inr ⟨rfl, Int.le_refl _⟩⟩
  | q :: ps, p => by
    have e : PySem.W.minOf p (q :: ps) = PySem.W.minOf (if PySem.W.DatumOrd.lt q p = true then q else p) ps := rfl
    rw [e]
    obtain ⟨h1, h2⟩ := minOf_pairs ps (if PySem.W.DatumOrd.lt q p = true then q else p)
    have hlt : PySem.W.DatumOrd.lt q p = true ↔ (q.1 < p.1 ∨ (q.1 = p.1 ∧ q.2 < p.2)) := by
      show (if q.1 = p.1 then decide (q.2 < p.2) else decide (q.1 < p.1)) = true ↔ _
      split <;> simp only [decide_eq_true_eq] <;> omega
    have h3 := h2 _ (.head _)
    unfold lePair at h2 h3 ⊢
    by_cases hc : PySem.W.DatumOrd.lt q p = true
    · rw [if_pos hc] at h1 h2 h3 ⊢
      have hc' := hlt.mp hc
      refine ⟨List.mem_cons_of_mem _ h1, fun z hz => ?_⟩
      rcases List.mem_cons.mp hz with rfl | hz
      · omega
      · exact h2 z hz
    · rw [if_neg hc] at h1 h2 h3 ⊢
      have hc' : ¬ (q.1 < p.1 ∨ (q.1 = p.1 ∧ q.2 < p.2)) := fun z => hc (hlt.mpr z)
      refine ⟨?_, fun z hz => ?_⟩
      · rcases List.mem_cons.mp h1 with h | h
        · rw [h]; exact .head _
        · exact List.mem_cons_of_mem _ (List.mem_cons_of_mem _ h)
      · rcases List.mem_cons.mp hz with rfl | hz
        · exact h2 _ (.head _)
        · rcases List.mem_cons.mp hz with rfl | hz
          · omega
          · exact h2 z (List.mem_cons_of_mem _ hz)
section
variable {X : Cx} {os : Os} {k : W → Os → Prop} {env : DEnv}
theorem xc_minP {lvl : Nat} {w : W} {ps : List (Int × Int)} (hr : Room lvl X.A) (hc : X.calm = true) (h : lstWD os w (ps.map dP)) (hn : ps ≠ []) (q : ∀ m, m ∈ ps → (∀ y, y ∈ ps → lePair m y) → k (.d (dP m)) os) : XC X (.builtin "min") [w] os k := by
  intro F V0 H vs Q r rs c pins s σ us I rv
  obtain ⟨v, rfl, rw'⟩ := rws1 rs
  obtain ⟨a, xs, rfl, hs, ra⟩ := lstWD_of r rw' h
  obtain ⟨its, rv2, hl, hz⟩ := I.list hs
  rw [Vals.ref1 rv]
  cases ps with
  | nil => exact absurd rfl hn
  | cons p ps =>
    have dall : DpAll X.K H xs (toPs ((p :: ps).map dP)) := dpA_of (shpA_pairs _ 30) (RpA.mono r.vi ra)
    obtain ⟨as, rd⟩ := Dp.readsAll I _ _ its dall rv2
    rw [toPs_pairs] at rd
    refine PySem.W.min_list_datum (x := p) (xs := ps) (I.ok.hd hc) hl.isList ⟨as, by simpa using rd⟩ (by have := hr.un; have e : PySem.W.Datum.depth (Int × Int) ≤ 10 := (by decide); omega) fun i u h' tk hu hm hk => ?_
    obtain ⟨m1, m2⟩ := minOf_pairs ps p
    have I2 := I.kept (t' := tk) hk
    have hu' : its[i]? = some u := by simpa using hu
    have hxl : i < xs.length := by rw [rv2.length]; exact (List.getElem?_eq_some_iff.mp hu').1
    obtain ⟨x, hx⟩ : ∃ x, xs[i]? = some x := ⟨_, List.getElem?_eq_getElem hxl⟩
    obtain ⟨u2, hu2, rx⟩ := Vals.get rv2 hx
    rw [hu'] at hu2
    cases hu2
    obtain ⟨d, hd, rd2⟩ := ra.getV hx
    rw [List.getElem?_map] at hd
    obtain ⟨p2, hp2, rfl⟩ := Option.map_eq_some_iff.mp hd
    obtain ⟨as3, rd3⟩ := Dp.reads I2 (toP (dP p2)) x u (dp_of (n := 30) rfl (Rp.mono r.vi rd2)) rx
    obtain ⟨as4, rd4⟩ := hm
    have e := SeqAt.Reads.unique _ _ _ _ _ (by simp [toP, toPs, PyData.canLay0, PyData.canLayAll0]) rd3 rd4
    have e2 : p2 = PySem.W.minOf p ps := by
      have e3 : PyData.tuple [.int p2.1, .int p2.2] = PyData.tuple [.int (PySem.W.minOf p ps).1, .int (PySem.W.minOf p ps).2] := e
      simp only [PyData.tuple.injEq, List.cons.injEq, PyData.int.injEq, and_true] at e3
      exact Prod.ext e3.1 e3.2
    exact ⟨x, H, I2, rx, c V0 os H x (.d (dP p2)) (Same.refl _) r rd2 (by rw [e2]; exact q _ m1 m2)⟩
end
/-- xs.remove(p), pairs, p there -/
def rRemP (K : PySem.W.Frag) : V → List V → Hp → VK → Prop := fun x xs H Q => ∃ (l : Addr) (zs : List V) (y : V) (ps : List (Int × Int)) (p : Int × Int) (j : Nat), x = .ref l ∧ xs = [y] ∧ H l = some (.lst zs) ∧ DpAll K H zs (toPs (ps.map dP)) ∧ Dp K H y (toP (dP p)) ∧
  ps[j]? = some p ∧ (∀ m, m < j → ps[m]? ≠ some p) ∧ Q .non (upd H l (.lst (zs.eraseIdx j)))
theorem pairs_at {ps : List (Int × Int)} {m : Nat} {z : PyData} (h : (toPs (ps.map dP))[m]? = some z) : ∃ q, ps[m]? = some q ∧ z = toP (dP q) := by
  rw [toPs_map, List.map_map, List.getElem?_map] at h
  obtain ⟨q, hq, rfl⟩ := Option.map_eq_some_iff.mp h
  exact ⟨q, hq, rfl⟩
section
variable {X : Cx}
theorem mt_removeP {lvl : Nat} (hr : Room lvl X.A) : MtR X "list.remove" (rRemP X.K) := by
  intro pins s σ H x xs v us Q I rx rxs h
  obtain ⟨l, zs, y, ps, p, j, rfl, rfl, hl, hz, hy, hj, hno, q⟩ := h
  cases rx
  obtain ⟨uy, rfl, ry⟩ := Vals.one rxs
  obtain ⟨bs, r1⟩ := Dp.reads I _ y uy hy ry
  have sl : SeqAt.shaped (.list (toPs (ps.map dP))) = true := shp_shaped (shp_pairs ps)
  have sd : SeqAt.shaped (toP (dP p)) = true := shp_shaped (shp_pair p)
  have hroom : X.A.units + 1 + min (PyData.depthAll (toPs (ps.map dP))) (PyData.depth (toP (dP p))) < cLine := room_in_shaped sd (by have := hr.un; omega)
  obtain ⟨hzl, its, n, rv, hvl, e⟩ := I.lstM hl
  obtain ⟨as, h4⟩ := Dp.readsAll I _ _ its hz rv
  have hxs : PyData.canLayAll0 (toPs (ps.map dP)) = true := SeqAt.canLay_of_shaped sl
  have hmap : its.map (SeqAt.readOf s.heap) = toPs (ps.map dP) := SeqAt.readsAll_map _ its as hxs h4
  have hil : its.length = ps.length := by
    have := congrArg List.length hmap
    rw [List.length_map, toPs_map, List.length_map, List.length_map] at this
    exact this
  have hjp := (List.getElem?_eq_some_iff.mp hj).1
  have hjs : j < its.toArray.size := by rw [List.size_toArray]; omega
  have rd : ∀ (m : Nat) (hm : m < its.toArray.size), ∃ q, ps[m]? = some q ∧ SeqAt.readOf s.heap its.toArray[m] = toP (dP q) := fun m hm => by
    have hml : m < its.length := by simpa using hm
    have e1 : (its.map (SeqAt.readOf s.heap))[m]? = some (SeqAt.readOf s.heap its[m]) := by rw [List.getElem?_map, List.getElem?_eq_getElem hml]; rfl
    rw [hmap] at e1
    obtain ⟨q, hq, e2⟩ := pairs_at e1
    exact ⟨q, hq, by simpa using e2⟩
  have eqs : ∀ q : Int × Int, PyData.eqv (toP (dP q)) (toP (dP p)) = decide (q = p) := fun q => eq_pairs
  have hsz : its.toArray.size ≤ sizeLine := by rw [List.size_toArray, ← hvl]; exact hzl
  refine call_meets PySem.F.slot_list_remove ⟨_, e, rfl⟩ PySem.F.entry_list_remove (PySem.F.args_list_remove_2 _ _)
    (SeqAt.list_removeAt l its.toArray n none #[] uy (fun u => PyData.eqv (SeqAt.readOf s.heap u) (toP (dP p))) j hjs ?_ ?_ hsz) ⟨e, SeqAt.items_eqAt (vs := its.toArray) (by simpa using h4) r1 hxs (SeqAt.canLay_of_shaped sd) hroom, ?_⟩
  · obtain ⟨q2, h1, h2⟩ := rd j hjs
    rw [hj] at h1
    cases h1
    show PyData.eqv (SeqAt.readOf s.heap its.toArray[j]) _ = true
    rw [h2, eqs]
    exact decide_eq_true rfl
  · intro m hm hmj
    obtain ⟨q2, h1, h2⟩ := rd m hm
    show PyData.eqv (SeqAt.readOf s.heap its.toArray[m]) _ = false
    rw [h2, eqs]
    exact decide_eq_false fun z => hno m hmj (by rw [h1, z])
  · refine ⟨.non, _, I.lset (its' := its.eraseIdx j) (ys := zs.eraseIdx j) hl e ?_ (rv.eraseIdx j) ?_, rfl, q⟩
    · show its.toArray.eraseIdxIfInBounds j = (its.eraseIdx j).toArray
      rw [List.eraseIdxIfInBounds_toArray]
    · have := len_erase zs j
      omega
variable {os : Os} {k : W → Os → Prop} {env : DEnv}
theorem erase_at : ∀ {ps : List (Int × Int)} {p : Int × Int}, p ∈ ps → ∃ j, ps[j]? = some p ∧ (∀ m, m < j → ps[m]? ≠ some p) ∧ ps.eraseIdx j = ps.erase p
  | a :: r, p, h => by
    by_cases e : a = p
    · subst e
      exact ⟨0, rfl, fun m hm => absurd hm (Nat.not_lt_zero _), (List.erase_cons_head ..).symm⟩
    · rcases List.mem_cons.mp h with z | z
      · exact absurd z.symm e
      · obtain ⟨j, h1, h2, h3⟩ := erase_at z
        refine ⟨j + 1, h1, fun m hm => ?_, ?_⟩
        · cases m with
          | zero => intro z; exact e (Option.some.inj z)
          | succ m => exact h2 m (Nat.lt_of_succ_lt_succ hm)
        · rw [List.erase_cons_tail (by rw [beq_iff_eq]; exact e), ← h3]
          rfl
theorem map_erase (f : Int × Int → W) : ∀ (ps : List (Int × Int)) (j : Nat), (ps.map f).eraseIdx j = (ps.eraseIdx j).map f
  | [], _ => rfl
  | _ :: _, 0 => rfl
  | p :: ps, j + 1 => by
    show f p :: (ps.map f).eraseIdx j = f p :: (ps.eraseIdx j).map f
    rw [map_erase f ps j]
theorem xe_removeP {lvl : Nat} {o e : Expr} {apos cpos : Pos} (hr : Room lvl X.A) (h : XE X o env os fun w os1 => ∃ (pl : Addr) (n : Nat) (ws : List W), w = .ref pl ∧ os1[n]? = some (pl, OO.lst ws) ∧ XE X e env os1 fun y os2 => ∃ (m : Nat) (ps : List (Int × Int)) (p : Int × Int), y = .d (dP p) ∧ os2[m]? = some (pl, OO.lst ((ps.map dP).map W.d)) ∧ p ∈ ps ∧ k wN (os2.set m (pl, .lst (((ps.erase p).map dP).map W.d))))
    (hbase : attributeBase o "remove" X.env (eval o X.env) = eval o X.env := by rfl)
    (hfew : ((backTo cpos (starEach [e] X.env)).all (fun x => !x.1) && (backToKw cpos (keywordEach [] X.env)).all (fun x => x.1.isSome)
      && decide ([e].length + ([] : List Keyword).length + (if ([] : List Keyword).isEmpty then 0 else 1) < 30)) = true := by rfl)
    (hline : (apos.endLine == cpos.line) = true := by rfl) (hs : starEach [e] X.env = (false, eval e X.env) :: starEach [] X.env := by rfl) :
    XE X (.Call (.Attribute o "remove" apos) [e] [] cpos) env os k := by
  intro F V0 H σ Q r sr c
  refine wE_of (pe_bm PySem.F.plainAttrs_list PySem.F.slot_list_remove PySem.F.type_list_remove (mt_removeP hr) wE_pe (pa_cons wE_pe pa_nil hs) hbase hfew hline hs) ?_
  refine h F V0 H σ _ r sr fun V1 os1 H1 v w s1 r1 rv ⟨pl, n, ws, e1, ho, hx⟩ => ?_
  subst e1
  have e : v = .ref pl := rv
  subst e
  obtain ⟨vs, h3, h4, ty⟩ := own_ty r1 ho
  refine ⟨ty, ?_⟩
  refine hx F V1 H1 σ _ r1 (sr.mono s1) fun V2 os2 H2 u y s2 r2 ru ⟨m, ps, p, e2, ho2, hm, q⟩ => ?_
  subst e2
  obtain ⟨vs2, h5, h6, _⟩ := own_ty r2 ho2
  obtain ⟨j, j1, j2, j3⟩ := erase_at hm
  refine ⟨pl, vs2, u, ps, p, j, rfl, rfl, h5, dpA_of (shpA_pairs _ 30) (RpA.mono r2.vi h6.toA), dp_of (n := 30) rfl (Rp.mono r2.vi ru), j1, j2, ?_⟩
  refine c V2 _ _ _ wN (s1.trans s2) (r2.mut ho2 (oo' := .lst (((ps.erase p).map dP).map W.d)) ⟨vs2.eraseIdx j, rfl, ?_⟩) rwN q
  have := h6.eraseIdx j
  rw [List.map_map, map_erase, j3] at this
  rw [List.map_map]
  exact this
end
end DL

set_option Elab.async false
set_option linter.all false
set_option maxRecDepth 100000
/-! DL12: comprehensions with a target of two names. -/
namespace DL
open PySem PySem.Spec PyProof.Rows L2
theorem rpA_two {K : PySem.W.Frag} {H : Hp} {xs : List V} {d1 d2 : D} (h : RpA K H xs [d1, d2]) : ∃ v1 v2, xs = [v1, v2] ∧ Rp K H v1 d1 ∧ Rp K H v2 d2 := by
  cases h with
  | cons w1 h =>
    cases h with
    | cons w2 h =>
      cases h
      exact ⟨_, _, rfl, w1, w2⟩
def XLc2 (X : Cx) (scope : Scope) (vs : List Nat) (i1 i2 : Nat) (ifs : List Expr) (elt : Expr) (env : DEnv) (k : List D → Os → Prop) : List W → List D → Os → Prop
  | [], acc, os => k acc os
  | w :: ws, acc, os => ∃ d1 d2, w = wT [d1, d2] ∧ ∀ s H C cl fp, XTs (Bk X scope s H C cl fp) ifs (((wipeD env vs).set i1 (some (.d d1))).set i2 (some (.d d2))) os fun b os1 =>
      (b = true → ∀ s H C cl fp, XE (Bk X scope s H C cl fp) elt (((wipeD env vs).set i1 (some (.d d1))).set i2 (some (.d d2))) os1 fun y os2 => ∃ d, y = .d d ∧ XLc2 X scope vs i1 i2 ifs elt env k ws (acc ++ [d]) os2) ∧
      (b = false → XLc2 X scope vs i1 i2 ifs elt env k ws acc os1)
theorem tlc_of2 {X : Cx} {env : DEnv} {os : Os} {k : W → Os → Prop} {kk : List D → Os → Prop} (hfin : (∀ ds os2, kk ds os2 → k (wL ds) os2) ∨ ∀ ds os2, kk ds os2 → ∀ p, k (.ref p) ((p, .lst (ds.map W.d)) :: os2)) {elt iter : Expr} {x1 x2 : Str} {p1 p2 pt : Pos} {mt : Nat} {ifs : List Expr} {scope : Scope} {own : List (Str × Nat)} {i1 i2 : Nat} (hm1 : i1 ∈ own.map (·.2)) (hm2 : i2 ∈ own.map (·.2))
    (h : XI X (.Tuple [.Name x1 p1, .Name x2 p2] mt pt) iter env os fun ws os1 => ws.length ≤ sizeLine ∧ XLc2 X scope (own.map (·.2)) i1 i2 ifs elt env kk ws [] os1) {F V0 H : Hp} {σ : L2.St} {Q : VK} (r : Rel X.K F V0 os H) (sr : SR X.K V0 σ env)
    (c : ∀ (V1 : Hp) (os1 : Os) (H1 : Hp) (v : V) (w : W), Same V0 V1 → Rel X.K F V1 os1 H1 → RW X.K V1 v w → k w os1 → Q v H1) :
    tLc (wPI X (.Tuple [.Name x1 p1, .Name x2 p2] mt pt) iter) (gTup X.K 2 (gCons (gName i1) (gCons (gName i2) gNil))) (fun σ H Q => ∀ s0 H0 C cl fp, wTs (Bk X scope s0 H0 C cl fp) ifs σ H Q) (fun σ H Q => ∀ s0 H0 C cl fp, wE (Bk X scope s0 H0 C cl fp) elt σ H Q) (own.map (·.2)) σ H Q := by
  refine h F V0 H σ _ r sr fun V1 os1 H1 J ws s1 r1 gi ⟨hz, q⟩ => ?_
  intro L hL
  have hFL := r1.fr.free hL
  have hVL := r1.vi.free hL
  -- the list in the frame
  have put : ∀ (acc : List V) (V2 : Hp) (os2 : Os) (H2 : Hp), Rel X.K F V2 os2 H2 → H2 L = none → Rel X.K (upd F L (.lst acc)) V2 os2 (upd H2 L (.lst acc)) := by
    intro acc V2 os2 H2 r2 hn
    have f2 := r2.fr.free hn
    have v2 := r2.vi.free hn
    refine ⟨fun a o e => ?_, fun a o e => ?_, fun a o e => ?_, fun p hp => ?_, r2.nd⟩
    · by_cases ha : a = L
      · subst ha; rw [upd_same] at e ⊢; exact e
      · rw [upd_ne ha] at e ⊢; exact r2.fr a o e
    · rw [upd_ne (ne_of_none e v2)]
      exact r2.vi a o e
    · by_cases ha : a = L
      · subst ha; exact v2
      · rw [upd_ne ha] at e; exact r2.fv a o e
    · obtain ⟨h1, h2, ho, h3, h4⟩ := r2.own p hp
      have ne := ne_of_none h3 hn
      exact ⟨by rw [upd_ne ne]; exact h1, h2, ho, by rw [upd_ne ne]; exact h3, h4⟩
  have grow : ∀ (acc acc' : List V) (V2 : Hp) (os2 : Os) (H2 : Hp), Rel X.K (upd F L (.lst acc)) V2 os2 H2 → Rel X.K (upd F L (.lst acc')) V2 os2 (upd H2 L (.lst acc')) := by
    intro acc acc' V2 os2 H2 r2
    have v2 : V2 L = none := r2.fv L _ upd_same
    refine ⟨fun a o e => ?_, fun a o e => ?_, fun a o e => ?_, fun p hp => ?_, r2.nd⟩
    · by_cases ha : a = L
      · subst ha; rw [upd_same] at e ⊢; exact e
      · rw [upd_ne ha] at e ⊢; exact r2.fr a o (by rw [upd_ne ha]; exact e)
    · rw [upd_ne (ne_of_none e v2)]
      exact r2.vi a o e
    · by_cases ha : a = L
      · subst ha; exact v2
      · rw [upd_ne ha] at e; exact r2.fv a o (by rw [upd_ne ha]; exact e)
    · obtain ⟨h1, h2, ho, h3, h4⟩ := r2.own p hp
      have ne : p.1 ≠ L := fun z => by rw [z, upd_same] at h1; cases h1
      exact ⟨by rw [upd_ne ne] at h1 ⊢; exact h1, h2, ho, by rw [upd_ne ne]; exact h3, h4⟩
  have done : ∀ (acc : List V) (V2 : Hp) (os2 : Os) (H2 : Hp), Rel X.K (upd F L (.lst acc)) V2 os2 H2 → Same V2 (upd V2 L (.lst acc)) ∧ Rel X.K F (upd V2 L (.lst acc)) os2 H2 := by
    intro acc V2 os2 H2 r2
    have v2 : V2 L = none := r2.fv L _ upd_same
    have sv := same_upd (o := .lst acc) v2
    refine ⟨sv, ⟨fun a o e => r2.fr a o (by rw [upd_ne (ne_of_none e hFL)]; exact e), fun a o e => ?_, fun a o e => ?_, fun p hp => ?_, r2.nd⟩⟩
    · by_cases ha : a = L
      · subst ha; rw [upd_same] at e; exact r2.fr a o (by rw [upd_same]; exact e)
      · rw [upd_ne ha] at e; exact r2.vi a o e
    · have ne := ne_of_none e hFL
      rw [upd_ne ne]
      exact r2.fv a o (by rw [upd_ne ne]; exact e)
    · obtain ⟨h1, h2, ho, h3, h4⟩ := r2.own p hp
      have ne : p.1 ≠ L := fun z => by rw [z, upd_same] at h1; cases h1
      exact ⟨by rw [upd_ne ne] at h1; exact h1, by rw [upd_ne ne]; exact h2, ho, h3, h4.mono sv⟩
  refine ⟨fun j m H2 => m = ws.length - j ∧ j ≤ ws.length ∧ ∃ (V2 : Hp) (os2 : Os) (av : List V) (ad : List D), Same V1 V2 ∧ Rel X.K (upd F L (.lst av)) V2 os2 H2 ∧ RpA X.K V2 av ad ∧ ad.length ≤ j ∧ XLc2 X scope (own.map (·.2)) i1 i2 ifs elt env kk (ws.drop j) ad os2,
    ⟨ws.length, rfl, Nat.zero_le _, V1, os1, [], [], Same.refl _, put [] V1 os1 H1 r1 hL, .nil, Nat.le_refl _, q⟩, ?_⟩
  rintro j m H2 ⟨rfl, hj, V2, os2, av, ad, s2, r2, ra2, hl2, q2⟩
  by_cases hlt : j < ws.length
  · refine .inr ⟨gi.go j H2 (s2.trans r2.vi) hlt, fun H3 => ∃ (V3 : Hp) (os3 : Os) (av3 : List V) (ad3 : List D), Same V1 V3 ∧ Rel X.K (upd F L (.lst av3)) V3 os3 H3 ∧ RpA X.K V3 av3 ad3 ∧ ad3.length ≤ j + 1 ∧ XLc2 X scope (own.map (·.2)) i1 i2 ifs elt env kk (ws.drop (j + 1)) ad3 os3,
      fun H3 q3 => ⟨ws.length - (j + 1), by omega, rfl, hlt, q3⟩, fun x' H' y => ?_⟩
    rw [List.drop_eq_getElem_cons hlt] at q2
    obtain ⟨V3, s3, r3, rw3⟩ := gi.yld j H2 x' H' ws[j] (s2.trans r2.vi) y (List.getElem?_eq_getElem hlt) (upd F L (.lst av)) V2 os2 s2 r2
    obtain ⟨d1, d2, ew, q2⟩ := q2
    rw [ew] at rw3
    obtain ⟨p, xs, rfl, h1, h2⟩ := rp_tup rw3
    obtain ⟨v1, v2, rfl, w1, w2⟩ := rpA_two h2
    have sr3 : SR X.K V3 (((L2.wipe σ (own.map (·.2))).set i1 (some v1)).set i2 (some v2)) (((wipeD env (own.map (·.2))).set i1 (some (.d d1))).set i2 (some (.d d2))) := (((sr_wipe (sr.mono s1) _).mono (s2.trans s3)).set (w := .d d1) w1 i1).set (w := .d d2) w2 i2
    refine ⟨p, [v1, v2], rfl, same_sqT r3.vi h1, rfl, v1, [v2], rfl, v2, [], rfl, rfl, by rw [wipe_set hm2, wipe_set hm1, wipe_wipe], fun s0 H0 C cl fp => ?_⟩
    refine q2 s0 H0 C cl fp (upd F L (.lst av)) V3 H' _ _ r3 sr3 fun V4 os4 H4 b s4 r4 q4 => ?_
    cases b with
    | false => exact iteF ⟨V4, os4, av, ad, (s2.trans s3).trans s4, r4, RpA.mono (s3.trans s4) ra2, Nat.le_succ_of_le hl2, q4.2 rfl⟩
    | true =>
      refine iteT fun s0 H0 C cl fp => ?_
      refine q4.1 rfl s0 H0 C cl fp (upd F L (.lst av)) V4 H4 _ _ r4 (sr3.mono s4) fun V5 os5 H5 y5 w5 s5 r5 rw5 ⟨d, e5, q5⟩ => ?_
      subst e5
      have s35 := (s3.trans s4).trans s5
      have ra5 : RpA X.K V5 (av ++ [y5]) (ad ++ [d]) := (RpA.mono s35 ra2).append (.cons rw5 .nil)
      refine ⟨av, r5.fr L _ upd_same, ?_, V5, os5, av ++ [y5], ad ++ [d], s2.trans s35, grow av _ V5 os5 H5 r5, ra5, by rw [List.length_append, List.length_singleton]; omega, q5⟩
      rw [ra2.length]
      omega
  · have e : j = ws.length := by omega
    subst e
    rw [List.drop_length] at q2
    refine .inl ⟨gi.stop _ H2 (s2.trans r2.vi) (Nat.le_refl _), ?_⟩
    rcases hfin with hfin | hfin
    · obtain ⟨sv, r3⟩ := done av V2 os2 H2 r2
      exact c _ os2 H2 (.ref L) (wL ad) ((s1.trans s2).trans sv) r3 (.lst (.inl (.inl upd_same)) (RpA.mono sv ra2)) (hfin _ _ q2)
    · have v2 : V2 L = none := r2.fv L _ upd_same
      refine c V2 ((L, .lst (ad.map W.d)) :: os2) H2 (.ref L) (.ref L) (s1.trans s2) ⟨fun a o e => r2.fr a o (by rw [upd_ne (ne_of_none e hFL)]; exact e), r2.vi, fun a o e => ?_, fun p hp => ?_, ?_⟩ rfl (hfin _ _ q2 L)
      · exact r2.fv a o (by rw [upd_ne (ne_of_none e hFL)]; exact e)
      · rcases List.mem_cons.mp hp with e | hp
        · subst e
          exact ⟨hFL, v2, _, r2.fr L _ upd_same, av, rfl, RWs.ofA ra2⟩
        · obtain ⟨h1, h2, ho, h3, h4⟩ := r2.own p hp
          have ne : p.1 ≠ L := fun z => by rw [z, upd_same] at h1; cases h1
          exact ⟨by rw [upd_ne ne] at h1; exact h1, h2, ho, h3, h4⟩
      · rw [List.map_cons, List.nodup_cons]
        refine ⟨fun hm => ?_, r2.nd⟩
        obtain ⟨q, hq, e⟩ := List.mem_map.mp hm
        obtain ⟨h1, _⟩ := r2.own q hq
        have e' : q.1 = L := e
        rw [e', upd_same] at h1
        cases h1
theorem xe_lc2 {X : Cx} {env : DEnv} {os : Os} {k : W → Os → Prop} {elt iter : Expr} {x1 x2 : Str} {p1 p2 pt : Pos} {mt : Nat} {ifs : List Expr} {scope : Scope} {own : List (Str × Nat)} {pos : Pos} {i1 i2 : Nat} (hc : X.calm = true) (hN : X.N.Nodup)
    (ok : BlkOk X.N X.env.scope scope own) (hi1 : X.N[i1]? = some x1) (hi2 : X.N[i2]? = some x2) (hm1 : i1 ∈ own.map (·.2)) (hm2 : i2 ∈ own.map (·.2)) (hx1 : ∀ cl C, (compEnvC scope cl C X.env).scope.names.lookup x1 = some .local) (hx2 : ∀ cl C, (compEnvC scope cl C X.env).scope.names.lookup x2 = some .local)
    (h : XI X (.Tuple [.Name x1 p1, .Name x2 p2] mt pt) iter env os fun ws os1 => ws.length ≤ sizeLine ∧ XLc2 X scope (own.map (·.2)) i1 i2 ifs elt env (fun ds os2 => k (wL ds) os2) ws [] os1)
    (hs : ∀ x, foldedSetIterable iter X.env x = pure x := by intro _; rfl) : XE X (.ListComp elt [⟨.Tuple [.Name x1 p1, .Name x2 p2] mt pt, iter, ifs, 0⟩] scope pos) env os k := by
  intro F V0 H σ Q r sr c
  refine wE_of (pe_lc (X := X) (own := own) (wi := wPI X (.Tuple [.Name x1 p1, .Name x2 p2] mt pt) iter) (g := gTup X.K 2 (gCons (gName i1) (gCons (gName i2) gNil))) (tt := fun σ H Q => ∀ s0 H0 C cl fp, wTs (Bk X scope s0 H0 C cl fp) ifs σ H Q) (te := fun σ H Q => ∀ s0 H0 C cl fp, wE (Bk X scope s0 H0 C cl fp) elt σ H Q) hc hN wPI_pi ok
    (fun s0 H0 C cl fp => pg_tup (X := Bk X scope s0 H0 C cl fp) hc (pgs_cons (pg_name (X := Bk X scope s0 H0 C cl fp) hN hi1 (.inl (hx1 cl C)) (.inr (hx1 cl C))) (pgs_cons (pg_name (X := Bk X scope s0 H0 C cl fp) hN hi2 (.inl (hx2 cl C)) (.inr (hx2 cl C))) pgs_nil))) (fun s0 H0 C cl fp => ⟨fun pins s σ H Q I q => q s0 H0 C cl fp pins s I⟩) (fun s0 H0 C cl fp => ⟨fun pins s σ H Q I q => q s0 H0 C cl fp pins s I⟩) hs) ?_
  exact tlc_of2 (k := k) (.inl fun _ _ q => q) hm1 hm2 h r sr c
theorem xlc2_inv {X : Cx} {scope : Scope} {vs : List Nat} {i1 i2 : Nat} {ifs : List Expr} {elt : Expr} {env : DEnv} {k : List D → Os → Prop} {ws : List W} {os : Os} (I : Nat → List D → Os → Prop) (h0 : I 0 [] os)
    (hs : ∀ j w acc os, ws[j]? = some w → I j acc os → ∃ d1 d2, w = wT [d1, d2] ∧ ∀ s H C cl fp, XTs (Bk X scope s H C cl fp) ifs (((wipeD env vs).set i1 (some (.d d1))).set i2 (some (.d d2))) os fun b os1 =>
      (b = true → ∀ s H C cl fp, XE (Bk X scope s H C cl fp) elt (((wipeD env vs).set i1 (some (.d d1))).set i2 (some (.d d2))) os1 fun y os2 => ∃ d, y = .d d ∧ I (j + 1) (acc ++ [d]) os2) ∧ (b = false → I (j + 1) acc os1))
    (hk : ∀ acc os, I ws.length acc os → k acc os) : XLc2 X scope vs i1 i2 ifs elt env k ws [] os := by
  have key : ∀ (n j : Nat) (acc : List D) (os : Os), n = ws.length - j → j ≤ ws.length → I j acc os → XLc2 X scope vs i1 i2 ifs elt env k (ws.drop j) acc os := by
    intro n
    induction n with
    | zero =>
      intro j acc os e hj h
      have ej : j = ws.length := by omega
      subst ej
      rw [List.drop_length]
      exact hk _ _ h
    | succ n ih =>
      intro j acc os e hj h
      have hlt : j < ws.length := by omega
      rw [List.drop_eq_getElem_cons hlt]
      obtain ⟨d1, d2, ew, q⟩ := hs j _ acc os (List.getElem?_eq_getElem hlt) h
      refine ⟨d1, d2, ew, fun s H C cl fp => ?_⟩
      intro F V0 H1 σ Q r sr c
      refine q s H C cl fp F V0 H1 σ Q r sr fun V1 os1 H2 b s1 r1 z => c V1 os1 H2 b s1 r1 ⟨fun hb s H C cl fp => ?_, fun hb => ih (j + 1) acc os1 (by omega) hlt (z.2 hb)⟩
      intro F V0 H1 σ Q r sr c
      refine z.1 hb s H C cl fp F V0 H1 σ Q r sr fun V1 os1 H2 v w s1 r1 rv ⟨d, e, q2⟩ => c V1 os1 H2 v w s1 r1 rv ⟨d, e, ih (j + 1) _ os1 (by omega) hlt q2⟩
  exact key ws.length 0 [] os (by omega) (Nat.zero_le _) h0
end DL

set_option Elab.async false
set_option linter.all false
set_option maxRecDepth 100000
/-! DL13: fields in passing style; owned things in another order. -/
namespace DL
open PySem PySem.Spec PyProof.Rows L2
def FL (f : Str) (fs : List (Str × W)) (P : W → Prop) : Prop := ∃ y, fs.lookup f = some y ∧ P y
theorem fl0 {f : Str} {y : W} {r : List (Str × W)} {P : W → Prop} (h : P y) : FL f ((f, y) :: r) P := ⟨y, lk0, h⟩
theorem fl1 {f g : Str} {x : W} {r : List (Str × W)} {P : W → Prop} (e : (f == g) = false) (h : FL f r P) : FL f ((g, x) :: r) P := by
  obtain ⟨y, h1, h2⟩ := h
  exact ⟨y, lk1 e h1, h2⟩
def PW' (f : Str) (w : W) (fs : List (Str × W)) (P : List (Str × W) → Prop) : Prop := P (putW f w fs)
theorem pw0 {f : Str} {w : W} {P : List (Str × W) → Prop} (h : P [(f, w)]) : PW' f w [] P := h
theorem pw1 {f : Str} {w x : W} {r : List (Str × W)} {P : List (Str × W) → Prop} (h : P ((f, w) :: r)) : PW' f w ((f, x) :: r) P := by
  unfold PW'; rw [put1]; exact h
theorem pw2 {f g : Str} {w x : W} {r : List (Str × W)} {P : List (Str × W) → Prop} (e : (g == f) = false) (h : PW' f w r fun r' => P ((g, x) :: r')) : PW' f w ((g, x) :: r) P := by
  unfold PW' at h ⊢
  rw [put2 e rfl]; exact h
section
variable {X : Cx} {env : DEnv} {os os' : Os} {k : W → Os → Prop} {K : DEnds} {pos pos' : Pos} {e o value : Expr} {f : Str} {C : Addr}
theorem xe_fld' (c : Cls X.K C) (na : NoAttr X.K C f) (h : XE X e env os fun w os1 => ∃ (a : Addr) (n : Nat) (fs : List (Str × W)), w = .ref a ∧ os1[n]? = some (a, OO.ins C fs) ∧ FL f fs fun y => k y os1)
    (hb : attributeBase e f X.env (eval e X.env) = eval e X.env := by rfl) : XE X (.Attribute e f pos) env os k :=
  xe_fld c na (h.mono fun w o ⟨a, n, fs, h1, h2, y, h3, h4⟩ => ⟨a, n, fs, y, h1, h2, h3, h4⟩) hb
theorem x1_fldP (c : Cls X.K C) (na : NoAttr X.K C f) (h : XE X value env os fun y os1 => XE X o env os1 fun w os2 => ∃ (a : Addr) (n : Nat) (fs : List (Str × W)), w = .ref a ∧ os2[n]? = some (a, OO.ins C fs) ∧ fs.length < 1000 ∧ PW' f y fs fun gs => K.nx env (os2.set n (a, .ins C gs)))
    (hs : swapsWith value (some (.Attribute o f pos')) pos.line X.env = pure false := by rfl) : X1 X (.Assign [.Attribute o f pos'] value pos) env os K :=
  x1_fld c na h hs
theorem xs_os0 {sts : List Stmt} {p x : Addr × OO} {t : Os} (h : XS X sts env (x :: t) K) : XS X sts env (List.set (p :: t) 0 x) K := h
theorem xs_os1 {sts : List Stmt} {p p1 x : Addr × OO} {t : Os} (h : XS X sts env (p :: x :: t) K) : XS X sts env (List.set (p :: p1 :: t) 1 x) K := h
theorem xs_os2 {sts : List Stmt} {p p1 p2 x : Addr × OO} {t : Os} (h : XS X sts env (p :: p1 :: x :: t) K) : XS X sts env (List.set (p :: p1 :: p2 :: t) 2 x) K := h
theorem XS.perm {sts : List Stmt} (s : os.Perm os') (h : XS X sts env os' K) : XS X sts env os K := fun F V0 H σ D r => h F V0 H σ D (r.perm s)
theorem XE.perm (s : os.Perm os') (h : XE X e env os' k) : XE X e env os k := fun F V0 H σ Q r => h F V0 H σ Q (r.perm s)
theorem XG.perm {tg : Expr} {w : W} {kg : DEnv → Os → Prop} (s : os.Perm os') (h : XG X tg w env os' kg) : XG X tg w env os kg := fun F V0 H σ v Q r => h F V0 H σ v Q (r.perm s)
end
end DL
set_option Elab.async false
set_option linter.all false
set_option maxRecDepth 100000
set_option maxHeartbeats 0
namespace My
open PySem PySem.Spec PyProof.Rows L2 DL
local macro_rules | `(tactic| walk_at "cat") => `(tactic| ((with_reducible refine' xo_cat ?hx ?hy ?hl ?hq); (case hx => first | exact rfl | exact ⟨0, rfl⟩ | exact ⟨1, rfl⟩ | exact ⟨2, rfl⟩ | exact ⟨3, rfl⟩); (case hy => first | exact rfl | exact ⟨0, rfl⟩ | exact ⟨1, rfl⟩ | exact ⟨2, rfl⟩ | exact ⟨3, rfl⟩); (try (case hl => first | exact szL rfl | walk_at "lenb"))))
local macro_rules | `(tactic| walk_at "ln") => `(tactic| first | exact ln0 | exact ln1 (by decide +kernel) (ln0) | exact ln1 (by decide +kernel) (ln1 (by decide +kernel) (ln0)) | exact ln1 (by decide +kernel) (ln1 (by decide +kernel) (ln1 (by decide +kernel) (ln0))) | exact ln1 (by decide +kernel) (ln1 (by decide +kernel) (ln1 (by decide +kernel) (ln1 (by decide +kernel) (ln0)))) | exact ln1 (by decide +kernel) (ln1 (by decide +kernel) (ln1 (by decide +kernel) (ln1 (by decide +kernel) (ln1 (by decide +kernel) (ln0))))) | exact ln1 (by decide +kernel) (ln1 (by decide +kernel) (ln1 (by decide +kernel) (ln1 (by decide +kernel) (ln1 (by decide +kernel) (ln1 (by decide +kernel) (ln0)))))) | exact ln1 (by decide +kernel) (ln1 (by decide +kernel) (ln1 (by decide +kernel) (ln1 (by decide +kernel) (ln1 (by decide +kernel) (ln1 (by decide +kernel) (ln1 (by decide +kernel) (ln0))))))) | exact ln1 (by decide +kernel) (ln1 (by decide +kernel) (ln1 (by decide +kernel) (ln1 (by decide +kernel) (ln1 (by decide +kernel) (ln1 (by decide +kernel) (ln1 (by decide +kernel) (ln1 (by decide +kernel) (ln0)))))))))
local macro_rules | `(tactic| walk_at "lenb") => `(tactic| ((with_reducible first | show _ ≤ _ | show _ < _); first
  | ((try simp only [List.length_map, List.length_append, List.length_cons, List.length_nil, List.length_replicate, List.length_range, List.length_set, List.length_take, rng_len] at *); omega)
  | (refine szN ?_; (try simp only [List.length_map, List.length_append, List.length_cons, List.length_nil, List.length_replicate, List.length_range, List.length_set, List.length_take, rng_len] at *); omega)
  | (refine small1000 ?_; (try simp only [List.length_map, List.length_append, List.length_cons, List.length_nil, List.length_replicate, List.length_range, List.length_set, List.length_take, rng_len] at *); omega)))
local macro_rules | `(tactic| walk_at "unroll") => `(tactic| first
    | ((with_reducible refine' xforE ?hw ?hq); (case hw => exact rfl))
    | ((with_reducible refine xforN ?hw ?hq); (case hw => exact rfl)))
local macro_rules | `(tactic| walk_at "for") => `(tactic| fail "a loop")
local macro_rules | `(tactic| walk_at "hook") => `(tactic| fail "no hook")
local macro_rules | `(tactic| walk_at "ifs") => `(tactic| fail "an if")
/-! the steps -/
local macro_rules | `(tactic| walk_at "dx") => `(tactic| first
  | ((with_reducible show XE _ _ _ _ _); first
    | (with_reducible refine xe_int ?_)
    | (with_reducible refine xe_str ?_)
    | (with_reducible refine xe_bl ?_)
    | (with_reducible refine xe_non ?_)
    | ((with_reducible show XE _ (.BinOp (.List _ _) .Mult _ _) _ _ _); with_reducible refine xe_binL ?_)
    | (with_reducible refine xe_bin ?_)
    | ((with_reducible refine xe_cmp ?hq ?hm); (case hm => first | exact nomark _ | exact rfl))
    | (with_reducible refine xe_ifExp ?_)
    | (with_reducible refine xe_notV ?_)
    | (with_reducible refine xe_and ?_)
    | (with_reducible refine xe_or ?_)
    | (with_reducible refine xe_one ?_)
    | (with_reducible refine xe_neg ?_)
    | ((with_reducible refine xe_ix ?hq ?hs); (case hs => exact fun _ _ => rfl))
    | (with_reducible refine xe_tup ?_)
    | (with_reducible refine xe_lst ?_)
    | (with_reducible refine xe_slice ?_)
    | ((with_reducible refine xe_append ?hq ?h1 ?h2 ?h3 ?h4); (case h1 => exact rfl); (case h2 => exact rfl); (case h3 => exact rfl); (case h4 => exact rfl))
    | ((with_reducible refine xe_pop ?hq ?h1 ?h2); (case h1 => exact rfl); (case h2 => exact rfl))
    | ((with_reducible refine xe_removeP ?hr ?hq ?h1 ?h2 ?h3 ?h4); (case hr => assumption); (case h1 => exact rfl); (case h2 => exact rfl); (case h3 => exact rfl); (case h4 => exact rfl))
    | ((with_reducible refine xe_index ?hq ?h1 ?h2 ?h3 ?h4); (case h1 => exact rfl); (case h2 => exact rfl); (case h3 => exact rfl); (case h4 => exact rfl))
    | ((with_reducible refine xe_popAt ?hq ?h1 ?h2 ?h3 ?h4); (case h1 => exact rfl); (case h2 => exact rfl); (case h3 => exact rfl); (case h4 => exact rfl)))
  | ((with_reducible show XS _ _ _ (List.set _ _ _) _); first | (with_reducible refine xs_os0 ?_) | (with_reducible refine xs_os1 ?_) | (with_reducible refine xs_os2 ?_))
  | ((with_reducible show XS _ _ _ _ _); first
    | with_reducible refine xs_one ?_
    | ((with_reducible show XS _ (.If _ _ _ _ :: _) _ _ _); walk_at "ifs")
    | ((fail_if_success (with_reducible show XS _ (.If _ _ _ _ :: _) _ _ _)); with_reducible refine xs_cons ?_)
    | with_reducible refine xs_nil ?_)
  | ((with_reducible show X1 _ _ _ _ _); first
    | with_reducible refine x1_ret ?_
    | with_reducible refine x1_if ?_
    | ((with_reducible refine x1_expr ?hq ?hs); (case hs => exact rfl))
    | ((with_reducible refine x1_for ?hq ?hc ?hp ?hs); (case hc => exact rfl); (case hp => exact PassesOwn.never); (case hs => exact fun _ => rfl))
    | ((with_reducible refine x1_asg ?hq ?hs ?hw ?h1); (case hs => exact rfl); (case hw => exact rfl); (case h1 => exact rfl)))
  | ((with_reducible show XT _ _ _ _ _); first
    | ((with_reducible refine xt_cmp ?hq ?hm); (case hm => first | exact nomark _ | exact rfl))
    | (with_reducible refine xt_not ?_)
    | (with_reducible refine xt_pw (xpw_and ?_))
    | (with_reducible refine xt_pw (xpw_or ?_))
    | ((with_reducible refine xt_val ?hq ?he); (case he => exact fun _ => rfl)))
  | ((with_reducible show XPW _ _ _ _ _); first
    | (with_reducible refine xpw_and ?_)
    | (with_reducible refine xpw_or ?_)
    | (with_reducible refine xpw_and1 ?_)
    | (with_reducible refine xpw_or1 ?_))
  | ((with_reducible show XA _ _ _ _ _); first
    | ((with_reducible refine xa_cons ?hq ?hs); (case hs => exact rfl))
    | (with_reducible refine xa_nil ?_))
  | ((with_reducible show XO _ _ _ _ _ _); first
    | (with_reducible refine xo_add ?_)
    | (with_reducible refine xo_sub ?_)
    | ((with_reducible refine' xo_addS ?hl ?hq); (try (case hl => first | assumption | (simp only [sizeLine_eq]; omega))))
    | (with_reducible refine xo_mul (cmul_l (by first | omega | decide) (by first | omega | decide)) ?_)
    | (with_reducible refine xo_mul (cmul_r (by first | omega | decide) (by first | omega | decide)) ?_)
    | (with_reducible refine xo_fdiv (cdiv_s (by first | omega | decide) (by first | omega | decide)) ?_)
    | (with_reducible refine xo_fdivW (cdiv_w (by first | omega | decide) (by first | omega | decide)) ?_)
    | (with_reducible refine xo_shl (cpow_s (by first | omega | decide) (by first | omega | decide) (by first | omega | decide) (by first | omega | decide)) ?_)
    | (with_reducible refine xo_mod (by first | omega | decide) ?_)
    | (with_reducible refine xo_and ?_)
    | (with_reducible refine xo_or ?_)
    | (with_reducible refine xo_xor ?_)
    | (with_reducible refine xo_shr (by first | omega | decide) ?_)
    | (with_reducible refine xo_lt ?_)
    | (with_reducible refine xo_le ?_)
    | (with_reducible refine xo_gt ?_)
    | (with_reducible refine xo_ge ?_)
    | (with_reducible refine xo_eqI ?_)
    | (with_reducible refine xo_neI ?_)
    | (with_reducible refine xo_eqStr ?_)
    | (with_reducible refine xo_neStr ?_)
    | (with_reducible refine xo_isN ?_)
    | (with_reducible refine xo_notN ?_)
    | ((with_reducible refine' xo_neB ?hr ?hq); (case hr => assumption))
    | ((with_reducible refine' xo_eqB ?hr ?hq); (case hr => assumption))
    | ((with_reducible refine' xo_inI (ns := [_, _]) ?h ?hq); (case h => exact rfl))
    | ((with_reducible refine' xo_inI (ns := [_, _, _]) ?h ?hq); (case h => exact rfl))
    | ((with_reducible refine' xo_inI ?h ?hq); (case h => first | exact rfl | exact ⟨0, rfl⟩ | exact ⟨1, rfl⟩ | exact ⟨2, rfl⟩ | exact ⟨3, rfl⟩))
    | ((with_reducible refine' xo_notInI ?h ?hq); (case h => first | exact rfl | exact ⟨0, rfl⟩ | exact ⟨1, rfl⟩ | exact ⟨2, rfl⟩ | exact ⟨3, rfl⟩))
    | ((with_reducible refine' xo_rep (n := 0) ?ho ?h1 ?h2 ?hl ?hq); (case ho => exact rfl); (try (case h1 => first | decide | omega | walk_at "lenb")); (try (case h2 => first | decide | omega | walk_at "lenb")); (try (case hl => walk_at "lenb")))
    | walk_at "cat"
    | ((with_reducible refine' xo_eqD ?hr ?hx ?hy ?s1 ?s2 ?hq); (case hr => assumption); (case hx => first | exact rfl | exact ⟨0, _, rfl, rfl⟩ | exact ⟨1, _, rfl, rfl⟩ | exact ⟨2, _, rfl, rfl⟩ | exact ⟨3, _, rfl, rfl⟩); (case hy => first | exact rfl | exact ⟨0, _, rfl, rfl⟩ | exact ⟨1, _, rfl, rfl⟩ | exact ⟨2, _, rfl, rfl⟩ | exact ⟨3, _, rfl, rfl⟩); (try (case s1 => first | exact shp_ints _ | exact rfl)); (try (case s2 => first | exact shp_ints _ | exact rfl)))
    | ((with_reducible refine' xo_neD ?hr ?hx ?hy ?s1 ?s2 ?hq); (case hr => assumption); (case hx => first | exact rfl | exact ⟨0, _, rfl, rfl⟩ | exact ⟨1, _, rfl, rfl⟩ | exact ⟨2, _, rfl, rfl⟩ | exact ⟨3, _, rfl, rfl⟩); (case hy => first | exact rfl | exact ⟨0, _, rfl, rfl⟩ | exact ⟨1, _, rfl, rfl⟩ | exact ⟨2, _, rfl, rfl⟩ | exact ⟨3, _, rfl, rfl⟩); (try (case s1 => first | exact shp_ints _ | exact rfl)); (try (case s2 => first | exact shp_ints _ | exact rfl))))
  | ((with_reducible show XC _ _ _ _ _); first
    | (with_reducible refine xc_int ?_)
    | (with_reducible refine xc_intB ?_)
    | (with_reducible refine xc_abs ?_)
    | (with_reducible refine xc_min2 rfl ?_)
    | (with_reducible refine xc_max2 rfl ?_)
    | ((with_reducible refine' xc_len (w := .d _) ?hl ?hq); (case hl => exact rfl))
    | ((with_reducible refine' xc_len (w := .ref _) ?hl ?hq); (case hl => first | exact ⟨0, _, rfl, rfl⟩ | exact ⟨1, _, rfl, rfl⟩ | exact ⟨2, _, rfl, rfl⟩ | exact ⟨3, _, rfl, rfl⟩))
    | ((with_reducible refine' xc_sortedI ?hl ?hq); (case hl => first | exact rfl | exact ⟨0, rfl⟩ | exact ⟨1, rfl⟩ | exact ⟨2, rfl⟩ | exact ⟨3, rfl⟩))
    | ((with_reducible refine' xc_sortedP ?hl ?hq); (case hl => first | exact rfl | exact ⟨0, rfl⟩ | exact ⟨1, rfl⟩ | exact ⟨2, rfl⟩ | exact ⟨3, rfl⟩))
    | ((with_reducible refine' xc_maxI ?hc ?hl ?hn ?hq); (case hc => exact rfl); (case hl => first | exact rfl | exact ⟨0, rfl⟩ | exact ⟨1, rfl⟩ | exact ⟨2, rfl⟩ | exact ⟨3, rfl⟩))
    | ((with_reducible refine' xc_minI ?hc ?hl ?hn ?hq); (case hc => exact rfl); (case hl => first | exact rfl | exact ⟨0, rfl⟩ | exact ⟨1, rfl⟩ | exact ⟨2, rfl⟩ | exact ⟨3, rfl⟩))
    | ((with_reducible refine' xc_minP ?hr ?hc ?hl ?hn ?hq); (case hr => assumption); (case hc => exact rfl); (case hl => first | exact rfl | exact ⟨0, rfl⟩ | exact ⟨1, rfl⟩ | exact ⟨2, rfl⟩ | exact ⟨3, rfl⟩))
    | ((with_reducible refine' xc_sumI ?hc ?hl ?hq); (case hc => exact rfl); (case hl => first | exact rfl | exact ⟨0, rfl⟩ | exact ⟨1, rfl⟩ | exact ⟨2, rfl⟩ | exact ⟨3, rfl⟩))
    | ((with_reducible refine' xc_strI ?hl ?hq); (try (case hl => first | exact str_small (by first | omega | decide) (by first | omega | decide))))
    | ((with_reducible refine' xc_list ?hl ?hq); (case hl => first | exact rfl | exact ⟨0, rfl⟩ | exact ⟨1, rfl⟩ | exact ⟨2, rfl⟩))
    | ((with_reducible refine' xc_isi ?ht ?hb ?hq); (case ht => exact rfl); (case hb => first | exact kit_NoneType_bool | exact kit_NoneType_int | exact kit_NoneType_str | exact kit_NoneType_tuple | exact kit_NoneType_list | exact kit_bool_bool | exact kit_bool_int | exact kit_bool_str | exact kit_bool_tuple | exact kit_bool_list | exact kit_int_bool | exact kit_int_int | exact kit_int_str | exact kit_int_tuple | exact kit_int_list | exact kit_str_bool | exact kit_str_int | exact kit_str_str | exact kit_str_tuple | exact kit_str_list | exact kit_tuple_bool | exact kit_tuple_int | exact kit_tuple_str | exact kit_tuple_tuple | exact kit_tuple_list | exact kit_list_bool | exact kit_list_int | exact kit_list_str | exact kit_list_tuple | exact kit_list_list)))
  | ((with_reducible show XIx _ _ _ _ _); first
    | ((with_reducible refine' xix_lst ?hi ?hq); (case hi => exact rfl))
    | ((with_reducible refine' xix_tup ?hi ?hq); (case hi => exact rfl))
    | ((with_reducible refine' xix_own (n := 0) ?ho ?hi ?hq); (case ho => exact rfl); (case hi => exact rfl))
    | ((with_reducible refine' xix_own (n := 1) ?ho ?hi ?hq); (case ho => exact rfl); (case hi => exact rfl))
    | ((with_reducible refine' xix_own (n := 2) ?ho ?hi ?hq); (case ho => exact rfl); (case hi => exact rfl)))
  | ((with_reducible show SlW _ _ _ _ _); first
    | (with_reducible refine slw_lst ?_)
    | ((with_reducible refine' slw_own (n := 0) ?ho ?hq); (case ho => exact rfl))
    | ((with_reducible refine' slw_own (n := 1) ?ho ?hq); (case ho => exact rfl)))
  | ((with_reducible show FL _ _ _); first | (with_reducible refine fl0 ?_) | ((with_reducible refine' fl1 ?he ?hq); (case he => decide +kernel)))
  | ((with_reducible show PW' _ _ _ _); first | (with_reducible refine pw0 ?_) | (with_reducible refine pw1 ?_) | ((with_reducible refine' pw2 ?he ?hq); (case he => decide +kernel)))
  | ((with_reducible show XPO _ _ _ _ _); first
    | (with_reducible refine xpo_none ?_)
    | (with_reducible refine xpo_some ?_))
  | ((with_reducible show XG _ _ _ _ _ _); first
    | ((with_reducible refine xg_sub ?hq ?ha); (case ha => exact fun _ => rfl))
    | (refine xg_tup rfl ?_ rfl rfl rfl))
  | ((with_reducible show XGs _ _ _ _ _ _); first
    | ((refine xgs_cons ?hq ?hs); (case hs => exact rfl))
    | refine xgs_nil ?_)
  | ((with_reducible show XFor _ _ _ _ _ _ _); walk_at "for")
  | (with_reducible refine ⟨_, rfl, ?_⟩)
  | (with_reducible refine ⟨_, _, rfl, rfl, ?_⟩)
  | ((with_reducible refine' ⟨_, 0, _, rfl, rfl, ?hl, ?hq⟩); (case hl => walk_at "ln"))
  | ((with_reducible refine' ⟨_, 1, _, rfl, rfl, ?hl, ?hq⟩); (case hl => walk_at "ln"))
  | ((with_reducible refine' ⟨_, 2, _, rfl, rfl, ?hl, ?hq⟩); (case hl => walk_at "ln"))
  | ((with_reducible refine' ⟨_, 3, _, rfl, rfl, ?hl, ?hq⟩); (case hl => walk_at "ln"))
  | ((with_reducible refine' ⟨_, 4, _, rfl, rfl, ?hl, ?hq⟩); (case hl => walk_at "ln"))
  | ((with_reducible refine' ⟨0, _, rfl, ?hl, ?hq⟩); (case hl => walk_at "lenb"))
  | ((with_reducible refine' ⟨1, _, rfl, ?hl, ?hq⟩); (case hl => walk_at "lenb"))
  | (with_reducible refine ⟨_, 0, _, rfl, rfl, ?_⟩)
  | (with_reducible refine ⟨_, 1, _, rfl, rfl, ?_⟩)
  | (with_reducible refine ⟨_, 2, _, rfl, rfl, ?_⟩)
  | (with_reducible refine ⟨_, 3, _, rfl, rfl, ?_⟩)
  | (with_reducible refine ⟨_, 0, _, _, _, rfl, rfl, rfl, rfl, ?_⟩)
  | (with_reducible refine ⟨_, 1, _, _, _, rfl, rfl, rfl, rfl, ?_⟩)
  | (with_reducible refine ⟨_, 2, _, _, _, rfl, rfl, rfl, rfl, ?_⟩)
  | (with_reducible refine ⟨[], rfl, rfl, ?_⟩)
  | (with_reducible refine ⟨[_], rfl, rfl, ?_⟩)
  | (with_reducible refine ⟨[_, _], rfl, rfl, ?_⟩)
  | (with_reducible refine ⟨[_, _, _], rfl, rfl, ?_⟩)
  | (with_reducible refine ⟨[_, _, _, _], rfl, rfl, ?_⟩)
  | (with_reducible refine ⟨[_, _, _, _, _], rfl, rfl, ?_⟩)
  | (with_reducible refine ⟨[_, _, _, _, _, _], rfl, rfl, ?_⟩)
  | (with_reducible refine ⟨[_, _, _, _, _, _, _], rfl, rfl, ?_⟩)
  | (with_reducible refine ⟨[_, _, _, _, _, _, _, _], rfl, rfl, ?_⟩)
  | (with_reducible refine ⟨[], rfl, szL rfl, ?_⟩)
  | (with_reducible refine ⟨[_], rfl, szL rfl, ?_⟩)
  | (with_reducible refine ⟨[_, _], rfl, szL rfl, ?_⟩)
  | (with_reducible refine ⟨[_, _, _], rfl, szL rfl, ?_⟩)
  | (with_reducible refine ⟨[_, _, _, _], rfl, szL rfl, ?_⟩)
  | (with_reducible refine ⟨[_, _, _, _, _], rfl, szL rfl, ?_⟩)
  | (with_reducible refine ⟨[_, _, _, _, _, _], rfl, szL rfl, ?_⟩)
  | (with_reducible refine ⟨[_, _, _, _, _, _, _], rfl, szL rfl, ?_⟩)
  | (with_reducible refine ⟨[_, _, _, _, _, _, _, _], rfl, szL rfl, ?_⟩)
  | (with_reducible refine ⟨[_, _, _, _, _, _, _, _, _], rfl, szL rfl, ?_⟩)
  | (with_reducible refine ⟨[_, _, _, _, _, _, _, _, _, _], rfl, szL rfl, ?_⟩)
  | (with_reducible refine ⟨[_, _, _, _, _, _, _, _, _, _, _], rfl, szL rfl, ?_⟩)
  | (with_reducible refine ⟨[_, _, _, _, _, _, _, _, _, _, _, _], rfl, szL rfl, ?_⟩)
  | (with_reducible refine ⟨[_, _, _, _, _, _, _, _, _, _, _, _, _], rfl, szL rfl, ?_⟩)
  | (with_reducible refine ⟨[_, _, _, _, _, _, _, _, _, _, _, _, _, _], rfl, szL rfl, ?_⟩)
  | (with_reducible refine ⟨[_, _, _, _, _, _, _, _, _, _, _, _, _, _, _], rfl, szL rfl, ?_⟩)
  | (with_reducible refine ⟨[_, _, _, _, _, _, _, _, _, _, _, _, _, _, _, _], rfl, szL rfl, ?_⟩)
  | (with_reducible refine ⟨[_, _, _, _, _, _, _, _, _, _, _, _, _, _, _, _, _], rfl, szL rfl, ?_⟩)
  | (with_reducible refine ⟨[_, _, _, _, _, _, _, _, _, _, _, _, _, _, _, _, _, _], rfl, szL rfl, ?_⟩)
  | (with_reducible refine ⟨[_, _, _, _, _, _, _, _, _, _, _, _, _, _, _, _, _, _, _], rfl, szL rfl, ?_⟩)
  | (with_reducible refine ⟨[_, _, _, _, _, _, _, _, _, _, _, _, _, _, _, _, _, _, _, _], rfl, szL rfl, ?_⟩)
  | (with_reducible refine ⟨[_, _, _, _, _, _, _, _, _, _, _, _, _, _, _, _, _, _, _, _, _], rfl, szL rfl, ?_⟩)
  | (with_reducible refine ⟨[_, _, _, _, _, _, _, _, _, _, _, _, _, _, _, _, _, _, _, _, _, _], rfl, szL rfl, ?_⟩)
  | (with_reducible refine imp2T ?_)
  | (with_reducible refine imp2F ?_)
  | (with_reducible refine imp2dT (by first | rfl | assumption | decide +kernel | omega | exact nn) ?_)
  | (with_reducible refine imp2dF (by first | assumption | decide +kernel | omega | exact nn) ?_)
  | (with_reducible refine imp2d (fun _ => ?_) (fun _ => ?_))
  | (with_reducible refine or2T ?_)
  | (with_reducible refine or2F ?_)
  | (with_reducible refine or2dT (by first | rfl | assumption | decide +kernel | omega | exact nn) ?_)
  | (with_reducible refine or2dF (by first | assumption | decide +kernel | omega | exact nn) ?_)
  | (with_reducible refine or2d (fun _ => ?_) (fun _ => ?_))
  | (refine imp2T ?_)
  | (refine imp2F ?_)
  | (refine or2T ?_)
  | (refine or2F ?_)
  | (with_reducible refine ⟨szL rfl, ?_⟩)
  | (with_reducible refine And.intro (by first | omega | assumption | with_reducible rfl) ?_)
  | (with_reducible refine And.intro (by walk_at "lenb") ?_)
  | (with_reducible intro _)
  | ((with_reducible show RetD (W.d _) _ _); (dsimp only [RetD]))
  | assumption
  | (with_reducible rfl)
  | (refine ⟨_, rfl, ?_⟩)
  | (refine ⟨_, _, rfl, ?_⟩)
  | (refine ⟨_, _, _, rfl, ?_⟩)
  | (refine ⟨_, _, _, _, rfl, ?_⟩)
  | (refine ⟨_, _, _, _, _, rfl, ?_⟩)
  | (refine ⟨_, _, _, _, _, _, rfl, ?_⟩)
  | (refine ⟨_, _, _, _, _, _, _, rfl, ?_⟩)
  | (refine ⟨rfl, ?_⟩))
/-! the text by places -/
def top (i : Nat) : Stmt := PySem.Challenge.pw_deadbeat_k42_numbers_of_tasks.main.body.getD i (.Pass ⟨0, 0, 0, 0⟩)
structure Txt (K : PySem.W.Frag) (mg : Str → Option Value) : Prop where
  b_sorted : mg "sorted" = none
  b_range : mg "range" = none
  b_len : mg "len" = none
  b_int : mg "int" = none
  b_abs : mg "abs" = none
  b_str : mg "str" = none
  b_list : mg "list" = none
  b_isinstance : mg "isinstance" = none
  b_bool : mg "bool" = none
abbrev s_numbers : Stmt := top 1
abbrev N_numbers : List Str := ["program", "tasks", "ranks", "found", "rank", "at"]
theorem sc_numbers : FnScope N_numbers ["program"] (defScope s_numbers) := ⟨rfl, rfl, rfl, by decide +kernel, rfl, by decide +kernel, by decide +kernel⟩
theorem v_numbers_program : Loc (defScope s_numbers) "program" := by first | exact .inl rfl | exact .inr rfl
theorem v_numbers_tasks : Loc (defScope s_numbers) "tasks" := by first | exact .inl rfl | exact .inr rfl
theorem v_numbers_ranks : Loc (defScope s_numbers) "ranks" := by first | exact .inl rfl | exact .inr rfl
theorem v_numbers_found : Loc (defScope s_numbers) "found" := by first | exact .inl rfl | exact .inr rfl
theorem v_numbers_rank : Loc (defScope s_numbers) "rank" := by first | exact .inl rfl | exact .inr rfl
theorem g_numbers_sorted : (defScope s_numbers).names.lookup ("sorted" : Str) = some .globalImplicit := rfl
theorem g_numbers_range : (defScope s_numbers).names.lookup ("range" : Str) = some .globalImplicit := rfl
theorem g_numbers_len : (defScope s_numbers).names.lookup ("len" : Str) = some .globalImplicit := rfl
theorem nd_numbers_program : (("program" : Str) == ("__debug__" : Str)) = false ∧ (("program" : Str) == ("__classdict__" : Str)) = false := by decide +kernel
theorem nd_numbers_tasks : (("tasks" : Str) == ("__debug__" : Str)) = false ∧ (("tasks" : Str) == ("__classdict__" : Str)) = false := by decide +kernel
theorem nd_numbers_ranks : (("ranks" : Str) == ("__debug__" : Str)) = false ∧ (("ranks" : Str) == ("__classdict__" : Str)) = false := by decide +kernel
theorem nd_numbers_found : (("found" : Str) == ("__debug__" : Str)) = false ∧ (("found" : Str) == ("__classdict__" : Str)) = false := by decide +kernel
theorem nd_numbers_rank : (("rank" : Str) == ("__debug__" : Str)) = false ∧ (("rank" : Str) == ("__classdict__" : Str)) = false := by decide +kernel
theorem nd_numbers_at : (("at" : Str) == ("__debug__" : Str)) = false ∧ (("at" : Str) == ("__classdict__" : Str)) = false := by decide +kernel
local macro_rules | `(tactic| walk_at "go1 numbers") => `(tactic| first
  | ((with_reducible refine' xs_set (env' := [?e0, ?e1, ?e2, ?e3, ?e4, ?e5]) ?hh ?qq); (case hh => exact rfl))
  | ((with_reducible refine' xs_start (env' := [?e0, ?e1, ?e2, ?e3, ?e4, ?e5]) ?hh ?qq); (case hh => exact rfl))
  | ((with_reducible show X1 _ (.Assign [.Name _ _] (.List _ _) _) _ _ _); first
    | ((with_reducible refine' x1_set (x := "found") (i := 3) (e := .List _ _) ?hN ?hi ?hx (xe_lstO ?hq) ?hs ?hf); (case hN => exact sc_numbers.nd); (case hi => exact rfl); (case hx => exact v_numbers_found); (case hs => exact rfl); (case hf => exact .inl rfl)))
  | ((with_reducible show XE _ (.ListComp _ _ _ _) _ _ _); first
    | ((with_reducible refine' xe_lc (x := "at") (own := [("at", 5)]) (i := 5) ?hc ?hN ?ok ?hi ?hm ?hx ?hq ?hs); (case hc => exact rfl); (case hN => exact sc_numbers.nd); (case ok => exact blkOk_by (N := N_numbers) (sc := defScope s_numbers) (by decide +kernel)); (case hi => exact rfl); (case hm => decide); (case hx => exact fun _ _ => rfl); (case hs => exact fun _ => rfl)))
  | ((with_reducible show X1 _ (.Assign [.Name _ _] (.ListComp _ _ _ _) _) _ _ _); first
    | ((with_reducible refine' x1_setLc (x := "at") (own := [("at", 5)]) (i := 5) (y := "program") (iy := 0) ?hc ?hN ?ok ?hi ?hm ?hx ?hy ?hyl ?hsw ?hq ?hs); (case hc => exact rfl); (case hN => exact sc_numbers.nd); (case ok => exact blkOk_by (N := N_numbers) (sc := defScope s_numbers) (by decide +kernel)); (case hi => exact rfl); (case hm => decide); (case hx => exact fun _ _ => rfl); (case hy => exact rfl); (case hyl => exact rfl); (case hsw => exact sw_true rfl rfl rfl (by decide +kernel)); (case hs => exact fun _ => rfl))
    | ((with_reducible refine' x1_setLc (x := "at") (own := [("at", 5)]) (i := 5) (y := "tasks") (iy := 1) ?hc ?hN ?ok ?hi ?hm ?hx ?hy ?hyl ?hsw ?hq ?hs); (case hc => exact rfl); (case hN => exact sc_numbers.nd); (case ok => exact blkOk_by (N := N_numbers) (sc := defScope s_numbers) (by decide +kernel)); (case hi => exact rfl); (case hm => decide); (case hx => exact fun _ _ => rfl); (case hy => exact rfl); (case hyl => exact rfl); (case hsw => exact sw_true rfl rfl rfl (by decide +kernel)); (case hs => exact fun _ => rfl))
    | ((with_reducible refine' x1_setLc (x := "at") (own := [("at", 5)]) (i := 5) (y := "ranks") (iy := 2) ?hc ?hN ?ok ?hi ?hm ?hx ?hy ?hyl ?hsw ?hq ?hs); (case hc => exact rfl); (case hN => exact sc_numbers.nd); (case ok => exact blkOk_by (N := N_numbers) (sc := defScope s_numbers) (by decide +kernel)); (case hi => exact rfl); (case hm => decide); (case hx => exact fun _ _ => rfl); (case hy => exact rfl); (case hyl => exact rfl); (case hsw => exact sw_true rfl rfl rfl (by decide +kernel)); (case hs => exact fun _ => rfl))
    | ((with_reducible refine' x1_setLc (x := "at") (own := [("at", 5)]) (i := 5) (y := "found") (iy := 3) ?hc ?hN ?ok ?hi ?hm ?hx ?hy ?hyl ?hsw ?hq ?hs); (case hc => exact rfl); (case hN => exact sc_numbers.nd); (case ok => exact blkOk_by (N := N_numbers) (sc := defScope s_numbers) (by decide +kernel)); (case hi => exact rfl); (case hm => decide); (case hx => exact fun _ _ => rfl); (case hy => exact rfl); (case hyl => exact rfl); (case hsw => exact sw_true rfl rfl rfl (by decide +kernel)); (case hs => exact fun _ => rfl))
    | ((with_reducible refine' x1_setLc (x := "at") (own := [("at", 5)]) (i := 5) (y := "rank") (iy := 4) ?hc ?hN ?ok ?hi ?hm ?hx ?hy ?hyl ?hsw ?hq ?hs); (case hc => exact rfl); (case hN => exact sc_numbers.nd); (case ok => exact blkOk_by (N := N_numbers) (sc := defScope s_numbers) (by decide +kernel)); (case hi => exact rfl); (case hm => decide); (case hx => exact fun _ _ => rfl); (case hy => exact rfl); (case hyl => exact rfl); (case hsw => exact sw_true rfl rfl rfl (by decide +kernel)); (case hs => exact fun _ => rfl)))
  | ((with_reducible show XE _ (.Name _ _) _ _ _); first
    | ((with_reducible refine' xe_name (x := "program") (i := 0) ?hN ?hv ?he ?hq ?hd ?hcd); (case hN => exact rfl); (case hv => first | exact Loc.vis v_numbers_program | exact Or.inl rfl | exact Or.inr (Or.inl rfl) | exact Or.inr (Or.inr rfl)); (case he => exact rfl); (case hd => exact nd_numbers_program.1); (case hcd => exact nd_numbers_program.2))
    | ((with_reducible refine' xe_name (x := "tasks") (i := 1) ?hN ?hv ?he ?hq ?hd ?hcd); (case hN => exact rfl); (case hv => first | exact Loc.vis v_numbers_tasks | exact Or.inl rfl | exact Or.inr (Or.inl rfl) | exact Or.inr (Or.inr rfl)); (case he => exact rfl); (case hd => exact nd_numbers_tasks.1); (case hcd => exact nd_numbers_tasks.2))
    | ((with_reducible refine' xe_name (x := "ranks") (i := 2) ?hN ?hv ?he ?hq ?hd ?hcd); (case hN => exact rfl); (case hv => first | exact Loc.vis v_numbers_ranks | exact Or.inl rfl | exact Or.inr (Or.inl rfl) | exact Or.inr (Or.inr rfl)); (case he => exact rfl); (case hd => exact nd_numbers_ranks.1); (case hcd => exact nd_numbers_ranks.2))
    | ((with_reducible refine' xe_name (x := "found") (i := 3) ?hN ?hv ?he ?hq ?hd ?hcd); (case hN => exact rfl); (case hv => first | exact Loc.vis v_numbers_found | exact Or.inl rfl | exact Or.inr (Or.inl rfl) | exact Or.inr (Or.inr rfl)); (case he => exact rfl); (case hd => exact nd_numbers_found.1); (case hcd => exact nd_numbers_found.2))
    | ((with_reducible refine' xe_name (x := "rank") (i := 4) ?hN ?hv ?he ?hq ?hd ?hcd); (case hN => exact rfl); (case hv => first | exact Loc.vis v_numbers_rank | exact Or.inl rfl | exact Or.inr (Or.inl rfl) | exact Or.inr (Or.inr rfl)); (case he => exact rfl); (case hd => exact nd_numbers_rank.1); (case hcd => exact nd_numbers_rank.2))
    | ((with_reducible refine' xe_name (x := "at") (i := 5) ?hN ?hv ?he ?hq ?hd ?hcd); (case hN => exact rfl); (case hv => first | exact Or.inl rfl | exact Or.inr (Or.inl rfl) | exact Or.inr (Or.inr rfl)); (case he => exact rfl); (case hd => exact nd_numbers_at.1); (case hcd => exact nd_numbers_at.2)))
  | ((with_reducible show XE _ (.Call (.Name _ _) _ _ _) _ _ _); first
    | ((with_reducible refine' xe_callB (x := "sorted") (id := "sorted") ?hv ?hm ?hg ?hq ?hn ?hd ?he ?hp); (case hv => decide +kernel); (case hm => exact Txt.b_sorted (by assumption)); (case hg => first | exact g_numbers_sorted | exact rfl); (case hn => decide +kernel); (case hd => decide +kernel); (case he => exact rfl); (case hp => exact rfl))
    | ((with_reducible refine' xe_callB (x := "len") (id := "len") ?hv ?hm ?hg ?hq ?hn ?hd ?he ?hp); (case hv => decide +kernel); (case hm => exact Txt.b_len (by assumption)); (case hg => first | exact g_numbers_len | exact rfl); (case hn => decide +kernel); (case hd => decide +kernel); (case he => exact rfl); (case hp => exact rfl)))
  | ((with_reducible show X1 _ (.Assign [.Name _ _] _ _) _ _ _); first
    | ((with_reducible refine' x1_set (x := "program") (i := 0) ?hN ?hi ?hx ?hq ?hs ?hf); (case hN => exact sc_numbers.nd); (case hi => exact rfl); (case hx => exact v_numbers_program); (case hs => exact rfl); (case hf => exact .inl rfl))
    | ((with_reducible refine' x1_set (x := "tasks") (i := 1) ?hN ?hi ?hx ?hq ?hs ?hf); (case hN => exact sc_numbers.nd); (case hi => exact rfl); (case hx => exact v_numbers_tasks); (case hs => exact rfl); (case hf => exact .inl rfl))
    | ((with_reducible refine' x1_set (x := "ranks") (i := 2) ?hN ?hi ?hx ?hq ?hs ?hf); (case hN => exact sc_numbers.nd); (case hi => exact rfl); (case hx => exact v_numbers_ranks); (case hs => exact rfl); (case hf => exact .inl rfl))
    | ((with_reducible refine' x1_set (x := "found") (i := 3) ?hN ?hi ?hx ?hq ?hs ?hf); (case hN => exact sc_numbers.nd); (case hi => exact rfl); (case hx => exact v_numbers_found); (case hs => exact rfl); (case hf => exact .inl rfl))
    | ((with_reducible refine' x1_set (x := "rank") (i := 4) ?hN ?hi ?hx ?hq ?hs ?hf); (case hN => exact sc_numbers.nd); (case hi => exact rfl); (case hx => exact v_numbers_rank); (case hs => exact rfl); (case hf => exact .inl rfl)))
  | ((with_reducible show XG _ (.Name _ _) _ _ _ _); first
    | ((with_reducible refine' xg_name (x := "program") (i := 0) ?hN ?hi ?hx ?hq ?hf); (case hN => exact sc_numbers.nd); (case hi => exact rfl); (case hx => exact v_numbers_program); (case hf => exact .inl rfl))
    | ((with_reducible refine' xg_name (x := "tasks") (i := 1) ?hN ?hi ?hx ?hq ?hf); (case hN => exact sc_numbers.nd); (case hi => exact rfl); (case hx => exact v_numbers_tasks); (case hf => exact .inl rfl))
    | ((with_reducible refine' xg_name (x := "ranks") (i := 2) ?hN ?hi ?hx ?hq ?hf); (case hN => exact sc_numbers.nd); (case hi => exact rfl); (case hx => exact v_numbers_ranks); (case hf => exact .inl rfl))
    | ((with_reducible refine' xg_name (x := "found") (i := 3) ?hN ?hi ?hx ?hq ?hf); (case hN => exact sc_numbers.nd); (case hi => exact rfl); (case hx => exact v_numbers_found); (case hf => exact .inl rfl))
    | ((with_reducible refine' xg_name (x := "rank") (i := 4) ?hN ?hi ?hx ?hq ?hf); (case hN => exact sc_numbers.nd); (case hi => exact rfl); (case hx => exact v_numbers_rank); (case hf => exact .inl rfl)))
  | ((with_reducible show XI _ _ _ _ _ _); first
    | ((with_reducible refine' xi_range1 ?hg ?hm ?hq ?hs); (case hg => first | exact g_numbers_range | exact rfl); (case hm => exact Txt.b_range (by assumption)); (case hs => exact rfl))
    | ((with_reducible refine' xi_range2 ?hg ?hm ?hq ?hs ?hs2); (case hg => first | exact g_numbers_range | exact rfl); (case hm => exact Txt.b_range (by assumption)); (case hs => exact rfl); (case hs2 => exact rfl))
    | with_reducible refine xi_list ?_)
  | walk_at "dx"
  | walk_at "hook")
local macro_rules | `(tactic| walk_at "lcO numbers") => `(tactic| first
    | ((with_reducible refine' xe_lcO (x := "at") (own := [("at", 5)]) (i := 5) ?hc ?hN ?ok ?hi ?hm ?hx ?hq ?hs); (case hc => exact rfl); (case hN => exact sc_numbers.nd); (case ok => exact blkOk_by (N := N_numbers) (sc := defScope s_numbers) (by decide +kernel)); (case hi => exact rfl); (case hm => decide); (case hx => exact fun _ _ => rfl); (case hs => exact fun _ => rfl))
    | ((with_reducible refine' x1_setLcO (x := "at") (own := [("at", 5)]) (i := 5) (y := "program") (iy := 0) ?hc ?hN ?ok ?hi ?hm ?hx ?hy ?hyl ?hsw ?hq ?hs); (case hc => exact rfl); (case hN => exact sc_numbers.nd); (case ok => exact blkOk_by (N := N_numbers) (sc := defScope s_numbers) (by decide +kernel)); (case hi => exact rfl); (case hm => decide); (case hx => exact fun _ _ => rfl); (case hy => exact rfl); (case hyl => exact rfl); (case hsw => exact sw_true rfl rfl rfl (by decide +kernel)); (case hs => exact fun _ => rfl))
    | ((with_reducible refine' x1_setLcO (x := "at") (own := [("at", 5)]) (i := 5) (y := "tasks") (iy := 1) ?hc ?hN ?ok ?hi ?hm ?hx ?hy ?hyl ?hsw ?hq ?hs); (case hc => exact rfl); (case hN => exact sc_numbers.nd); (case ok => exact blkOk_by (N := N_numbers) (sc := defScope s_numbers) (by decide +kernel)); (case hi => exact rfl); (case hm => decide); (case hx => exact fun _ _ => rfl); (case hy => exact rfl); (case hyl => exact rfl); (case hsw => exact sw_true rfl rfl rfl (by decide +kernel)); (case hs => exact fun _ => rfl))
    | ((with_reducible refine' x1_setLcO (x := "at") (own := [("at", 5)]) (i := 5) (y := "ranks") (iy := 2) ?hc ?hN ?ok ?hi ?hm ?hx ?hy ?hyl ?hsw ?hq ?hs); (case hc => exact rfl); (case hN => exact sc_numbers.nd); (case ok => exact blkOk_by (N := N_numbers) (sc := defScope s_numbers) (by decide +kernel)); (case hi => exact rfl); (case hm => decide); (case hx => exact fun _ _ => rfl); (case hy => exact rfl); (case hyl => exact rfl); (case hsw => exact sw_true rfl rfl rfl (by decide +kernel)); (case hs => exact fun _ => rfl))
    | ((with_reducible refine' x1_setLcO (x := "at") (own := [("at", 5)]) (i := 5) (y := "found") (iy := 3) ?hc ?hN ?ok ?hi ?hm ?hx ?hy ?hyl ?hsw ?hq ?hs); (case hc => exact rfl); (case hN => exact sc_numbers.nd); (case ok => exact blkOk_by (N := N_numbers) (sc := defScope s_numbers) (by decide +kernel)); (case hi => exact rfl); (case hm => decide); (case hx => exact fun _ _ => rfl); (case hy => exact rfl); (case hyl => exact rfl); (case hsw => exact sw_true rfl rfl rfl (by decide +kernel)); (case hs => exact fun _ => rfl))
    | ((with_reducible refine' x1_setLcO (x := "at") (own := [("at", 5)]) (i := 5) (y := "rank") (iy := 4) ?hc ?hN ?ok ?hi ?hm ?hx ?hy ?hyl ?hsw ?hq ?hs); (case hc => exact rfl); (case hN => exact sc_numbers.nd); (case ok => exact blkOk_by (N := N_numbers) (sc := defScope s_numbers) (by decide +kernel)); (case hi => exact rfl); (case hm => decide); (case hx => exact fun _ _ => rfl); (case hy => exact rfl); (case hyl => exact rfl); (case hsw => exact sw_true rfl rfl rfl (by decide +kernel)); (case hs => exact fun _ => rfl)))
local macro_rules | `(tactic| walk_at "go numbers") => `(tactic| first | ((walk_at "go1 numbers"); (all_goals walk_at "go numbers")) | skip)
abbrev s_owner : Stmt := top 2
abbrev N_owner : List Str := ["program", "number", "levels", "many", "at"]
theorem sc_owner : FnScope N_owner ["program", "number"] (defScope s_owner) := ⟨rfl, rfl, rfl, by decide +kernel, rfl, by decide +kernel, by decide +kernel⟩
theorem v_owner_program : Loc (defScope s_owner) "program" := by first | exact .inl rfl | exact .inr rfl
theorem v_owner_number : Loc (defScope s_owner) "number" := by first | exact .inl rfl | exact .inr rfl
theorem v_owner_levels : Loc (defScope s_owner) "levels" := by first | exact .inl rfl | exact .inr rfl
theorem v_owner_many : Loc (defScope s_owner) "many" := by first | exact .inl rfl | exact .inr rfl
theorem v_owner_at : Loc (defScope s_owner) "at" := by first | exact .inl rfl | exact .inr rfl
theorem g_owner_numbers : (defScope s_owner).names.lookup ("numbers" : Str) = some .globalImplicit := rfl
theorem g_owner_len : (defScope s_owner).names.lookup ("len" : Str) = some .globalImplicit := rfl
theorem g_owner_range : (defScope s_owner).names.lookup ("range" : Str) = some .globalImplicit := rfl
theorem nd_owner_program : (("program" : Str) == ("__debug__" : Str)) = false ∧ (("program" : Str) == ("__classdict__" : Str)) = false := by decide +kernel
theorem nd_owner_number : (("number" : Str) == ("__debug__" : Str)) = false ∧ (("number" : Str) == ("__classdict__" : Str)) = false := by decide +kernel
theorem nd_owner_levels : (("levels" : Str) == ("__debug__" : Str)) = false ∧ (("levels" : Str) == ("__classdict__" : Str)) = false := by decide +kernel
theorem nd_owner_many : (("many" : Str) == ("__debug__" : Str)) = false ∧ (("many" : Str) == ("__classdict__" : Str)) = false := by decide +kernel
theorem nd_owner_at : (("at" : Str) == ("__debug__" : Str)) = false ∧ (("at" : Str) == ("__classdict__" : Str)) = false := by decide +kernel
local macro_rules | `(tactic| walk_at "go1 owner") => `(tactic| first
  | ((with_reducible refine' xs_set (env' := [?e0, ?e1, ?e2, ?e3, ?e4]) ?hh ?qq); (case hh => exact rfl))
  | ((with_reducible refine' xs_start (env' := [?e0, ?e1, ?e2, ?e3, ?e4]) ?hh ?qq); (case hh => exact rfl))
  | ((with_reducible show XE _ (.Name _ _) _ _ _); first
    | ((with_reducible refine' xe_name (x := "program") (i := 0) ?hN ?hv ?he ?hq ?hd ?hcd); (case hN => exact rfl); (case hv => first | exact Loc.vis v_owner_program | exact Or.inl rfl | exact Or.inr (Or.inl rfl) | exact Or.inr (Or.inr rfl)); (case he => exact rfl); (case hd => exact nd_owner_program.1); (case hcd => exact nd_owner_program.2))
    | ((with_reducible refine' xe_name (x := "number") (i := 1) ?hN ?hv ?he ?hq ?hd ?hcd); (case hN => exact rfl); (case hv => first | exact Loc.vis v_owner_number | exact Or.inl rfl | exact Or.inr (Or.inl rfl) | exact Or.inr (Or.inr rfl)); (case he => exact rfl); (case hd => exact nd_owner_number.1); (case hcd => exact nd_owner_number.2))
    | ((with_reducible refine' xe_name (x := "levels") (i := 2) ?hN ?hv ?he ?hq ?hd ?hcd); (case hN => exact rfl); (case hv => first | exact Loc.vis v_owner_levels | exact Or.inl rfl | exact Or.inr (Or.inl rfl) | exact Or.inr (Or.inr rfl)); (case he => exact rfl); (case hd => exact nd_owner_levels.1); (case hcd => exact nd_owner_levels.2))
    | ((with_reducible refine' xe_name (x := "many") (i := 3) ?hN ?hv ?he ?hq ?hd ?hcd); (case hN => exact rfl); (case hv => first | exact Loc.vis v_owner_many | exact Or.inl rfl | exact Or.inr (Or.inl rfl) | exact Or.inr (Or.inr rfl)); (case he => exact rfl); (case hd => exact nd_owner_many.1); (case hcd => exact nd_owner_many.2))
    | ((with_reducible refine' xe_name (x := "at") (i := 4) ?hN ?hv ?he ?hq ?hd ?hcd); (case hN => exact rfl); (case hv => first | exact Loc.vis v_owner_at | exact Or.inl rfl | exact Or.inr (Or.inl rfl) | exact Or.inr (Or.inr rfl)); (case he => exact rfl); (case hd => exact nd_owner_at.1); (case hcd => exact nd_owner_at.2)))
  | ((with_reducible show XE _ (.Call (.Name _ _) _ _ _) _ _ _); first
    | ((with_reducible refine' xe_callP (x := "numbers") ?hC ?hr ?hg ?hq ?hd ?he ?hp); (case hC => assumption); (case hr => exact Room.mono (by assumption) (by decide)); (case hg => first | exact g_owner_numbers | exact rfl); (case hd => decide +kernel); (case he => exact rfl); (case hp => exact rfl))
    | ((with_reducible refine' xe_callB (x := "len") (id := "len") ?hv ?hm ?hg ?hq ?hn ?hd ?he ?hp); (case hv => decide +kernel); (case hm => exact Txt.b_len (by assumption)); (case hg => first | exact g_owner_len | exact rfl); (case hn => decide +kernel); (case hd => decide +kernel); (case he => exact rfl); (case hp => exact rfl)))
  | ((with_reducible show X1 _ (.Assign [.Name _ _] _ _) _ _ _); first
    | ((with_reducible refine' x1_set (x := "program") (i := 0) ?hN ?hi ?hx ?hq ?hs ?hf); (case hN => exact sc_owner.nd); (case hi => exact rfl); (case hx => exact v_owner_program); (case hs => exact rfl); (case hf => exact .inl rfl))
    | ((with_reducible refine' x1_set (x := "number") (i := 1) ?hN ?hi ?hx ?hq ?hs ?hf); (case hN => exact sc_owner.nd); (case hi => exact rfl); (case hx => exact v_owner_number); (case hs => exact rfl); (case hf => exact .inl rfl))
    | ((with_reducible refine' x1_set (x := "levels") (i := 2) ?hN ?hi ?hx ?hq ?hs ?hf); (case hN => exact sc_owner.nd); (case hi => exact rfl); (case hx => exact v_owner_levels); (case hs => exact rfl); (case hf => exact .inl rfl))
    | ((with_reducible refine' x1_set (x := "many") (i := 3) ?hN ?hi ?hx ?hq ?hs ?hf); (case hN => exact sc_owner.nd); (case hi => exact rfl); (case hx => exact v_owner_many); (case hs => exact rfl); (case hf => exact .inl rfl))
    | ((with_reducible refine' x1_set (x := "at") (i := 4) ?hN ?hi ?hx ?hq ?hs ?hf); (case hN => exact sc_owner.nd); (case hi => exact rfl); (case hx => exact v_owner_at); (case hs => exact rfl); (case hf => exact .inl rfl)))
  | ((with_reducible show XG _ (.Name _ _) _ _ _ _); first
    | ((with_reducible refine' xg_name (x := "program") (i := 0) ?hN ?hi ?hx ?hq ?hf); (case hN => exact sc_owner.nd); (case hi => exact rfl); (case hx => exact v_owner_program); (case hf => exact .inl rfl))
    | ((with_reducible refine' xg_name (x := "number") (i := 1) ?hN ?hi ?hx ?hq ?hf); (case hN => exact sc_owner.nd); (case hi => exact rfl); (case hx => exact v_owner_number); (case hf => exact .inl rfl))
    | ((with_reducible refine' xg_name (x := "levels") (i := 2) ?hN ?hi ?hx ?hq ?hf); (case hN => exact sc_owner.nd); (case hi => exact rfl); (case hx => exact v_owner_levels); (case hf => exact .inl rfl))
    | ((with_reducible refine' xg_name (x := "many") (i := 3) ?hN ?hi ?hx ?hq ?hf); (case hN => exact sc_owner.nd); (case hi => exact rfl); (case hx => exact v_owner_many); (case hf => exact .inl rfl))
    | ((with_reducible refine' xg_name (x := "at") (i := 4) ?hN ?hi ?hx ?hq ?hf); (case hN => exact sc_owner.nd); (case hi => exact rfl); (case hx => exact v_owner_at); (case hf => exact .inl rfl)))
  | ((with_reducible show XI _ _ _ _ _ _); first
    | ((with_reducible refine' xi_range1 ?hg ?hm ?hq ?hs); (case hg => first | exact g_owner_range | exact rfl); (case hm => exact Txt.b_range (by assumption)); (case hs => exact rfl))
    | ((with_reducible refine' xi_range2 ?hg ?hm ?hq ?hs ?hs2); (case hg => first | exact g_owner_range | exact rfl); (case hm => exact Txt.b_range (by assumption)); (case hs => exact rfl); (case hs2 => exact rfl))
    | with_reducible refine xi_list ?_)
  | walk_at "dx"
  | walk_at "hook")
local macro_rules | `(tactic| walk_at "go owner") => `(tactic| first | ((walk_at "go1 owner"); (all_goals walk_at "go owner")) | skip)
abbrev s__law_state : Stmt := top 4
abbrev N__law_state : List Str := ["_law_script", "_law_seed", "_law_cell"]
theorem sc__law_state : FnScope N__law_state ["_law_script"] (defScope s__law_state) := ⟨rfl, rfl, rfl, by decide +kernel, rfl, by decide +kernel, by decide +kernel⟩
theorem v__law_state__law_script : Loc (defScope s__law_state) "_law_script" := by first | exact .inl rfl | exact .inr rfl
theorem v__law_state__law_seed : Loc (defScope s__law_state) "_law_seed" := by first | exact .inl rfl | exact .inr rfl
theorem v__law_state__law_cell : Loc (defScope s__law_state) "_law_cell" := by first | exact .inl rfl | exact .inr rfl
theorem g__law_state_int : (defScope s__law_state).names.lookup ("int" : Str) = some .globalImplicit := rfl
theorem nd__law_state__law_script : (("_law_script" : Str) == ("__debug__" : Str)) = false ∧ (("_law_script" : Str) == ("__classdict__" : Str)) = false := by decide +kernel
theorem nd__law_state__law_seed : (("_law_seed" : Str) == ("__debug__" : Str)) = false ∧ (("_law_seed" : Str) == ("__classdict__" : Str)) = false := by decide +kernel
theorem nd__law_state__law_cell : (("_law_cell" : Str) == ("__debug__" : Str)) = false ∧ (("_law_cell" : Str) == ("__classdict__" : Str)) = false := by decide +kernel
local macro_rules | `(tactic| walk_at "go1 _law_state") => `(tactic| first
  | ((with_reducible refine' xs_set (env' := [?e0, ?e1, ?e2]) ?hh ?qq); (case hh => exact rfl))
  | ((with_reducible refine' xs_start (env' := [?e0, ?e1, ?e2]) ?hh ?qq); (case hh => exact rfl))
  | ((with_reducible show XE _ (.ListComp _ _ _ _) _ _ _); first
    | ((with_reducible refine' xe_lc (x := "_law_cell") (own := [("_law_cell", 2)]) (i := 2) ?hc ?hN ?ok ?hi ?hm ?hx ?hq ?hs); (case hc => exact rfl); (case hN => exact sc__law_state.nd); (case ok => exact blkOk_by (N := N__law_state) (sc := defScope s__law_state) (by decide +kernel)); (case hi => exact rfl); (case hm => decide); (case hx => exact fun _ _ => rfl); (case hs => exact fun _ => rfl)))
  | ((with_reducible show X1 _ (.Assign [.Name _ _] (.ListComp _ _ _ _) _) _ _ _); first
    | ((with_reducible refine' x1_setLc (x := "_law_cell") (own := [("_law_cell", 2)]) (i := 2) (y := "_law_script") (iy := 0) ?hc ?hN ?ok ?hi ?hm ?hx ?hy ?hyl ?hsw ?hq ?hs); (case hc => exact rfl); (case hN => exact sc__law_state.nd); (case ok => exact blkOk_by (N := N__law_state) (sc := defScope s__law_state) (by decide +kernel)); (case hi => exact rfl); (case hm => decide); (case hx => exact fun _ _ => rfl); (case hy => exact rfl); (case hyl => exact rfl); (case hsw => exact sw_true rfl rfl rfl (by decide +kernel)); (case hs => exact fun _ => rfl))
    | ((with_reducible refine' x1_setLc (x := "_law_cell") (own := [("_law_cell", 2)]) (i := 2) (y := "_law_seed") (iy := 1) ?hc ?hN ?ok ?hi ?hm ?hx ?hy ?hyl ?hsw ?hq ?hs); (case hc => exact rfl); (case hN => exact sc__law_state.nd); (case ok => exact blkOk_by (N := N__law_state) (sc := defScope s__law_state) (by decide +kernel)); (case hi => exact rfl); (case hm => decide); (case hx => exact fun _ _ => rfl); (case hy => exact rfl); (case hyl => exact rfl); (case hsw => exact sw_true rfl rfl rfl (by decide +kernel)); (case hs => exact fun _ => rfl))
    | ((with_reducible refine' x1_setLc (x := "_law_cell") (own := [("_law_cell", 2)]) (i := 2) (y := "_law_cell") (iy := 2) ?hc ?hN ?ok ?hi ?hm ?hx ?hy ?hyl ?hsw ?hq ?hs); (case hc => exact rfl); (case hN => exact sc__law_state.nd); (case ok => exact blkOk_by (N := N__law_state) (sc := defScope s__law_state) (by decide +kernel)); (case hi => exact rfl); (case hm => decide); (case hx => exact fun _ _ => rfl); (case hy => exact rfl); (case hyl => exact rfl); (case hsw => exact sw_true rfl rfl rfl (by decide +kernel)); (case hs => exact fun _ => rfl)))
  | ((with_reducible show XE _ (.Name _ _) _ _ _); first
    | ((with_reducible refine' xe_name (x := "_law_script") (i := 0) ?hN ?hv ?he ?hq ?hd ?hcd); (case hN => exact rfl); (case hv => first | exact Loc.vis v__law_state__law_script | exact Or.inl rfl | exact Or.inr (Or.inl rfl) | exact Or.inr (Or.inr rfl)); (case he => exact rfl); (case hd => exact nd__law_state__law_script.1); (case hcd => exact nd__law_state__law_script.2))
    | ((with_reducible refine' xe_name (x := "_law_seed") (i := 1) ?hN ?hv ?he ?hq ?hd ?hcd); (case hN => exact rfl); (case hv => first | exact Loc.vis v__law_state__law_seed | exact Or.inl rfl | exact Or.inr (Or.inl rfl) | exact Or.inr (Or.inr rfl)); (case he => exact rfl); (case hd => exact nd__law_state__law_seed.1); (case hcd => exact nd__law_state__law_seed.2))
    | ((with_reducible refine' xe_name (x := "_law_cell") (i := 2) ?hN ?hv ?he ?hq ?hd ?hcd); (case hN => exact rfl); (case hv => first | exact Loc.vis v__law_state__law_cell | exact Or.inl rfl | exact Or.inr (Or.inl rfl) | exact Or.inr (Or.inr rfl)); (case he => exact rfl); (case hd => exact nd__law_state__law_cell.1); (case hcd => exact nd__law_state__law_cell.2))
    | ((with_reducible refine' xe_ty (x := "int") (n := "int") ?hv ?hm ?hg ?hq ?hn ?hd); (case hv => decide +kernel); (case hm => exact Txt.b_int (by assumption)); (case hg => first | exact g__law_state_int | exact rfl); (case hn => decide +kernel); (case hd => decide +kernel)))
  | ((with_reducible show XE _ (.Call (.Name _ _) _ _ _) _ _ _); first
    | ((with_reducible refine' xe_callTy (x := "int") (id := "int") ?hv ?hm ?hg ?hq ?hn ?hd ?he ?hp); (case hv => decide +kernel); (case hm => exact Txt.b_int (by assumption)); (case hg => first | exact g__law_state_int | exact rfl); (case hn => decide +kernel); (case hd => decide +kernel); (case he => exact rfl); (case hp => exact rfl))
    | ((with_reducible refine' xe_callB (x := "abs") (id := "abs") ?hv ?hm ?hg ?hq ?hn ?hd ?he ?hp); (case hv => decide +kernel); (case hm => exact Txt.b_abs (by assumption)); (case hg => exact rfl); (case hn => decide +kernel); (case hd => decide +kernel); (case he => exact rfl); (case hp => exact rfl)))
  | ((with_reducible show X1 _ (.Assign [.Name _ _] _ _) _ _ _); first
    | ((with_reducible refine' x1_set (x := "_law_script") (i := 0) ?hN ?hi ?hx ?hq ?hs ?hf); (case hN => exact sc__law_state.nd); (case hi => exact rfl); (case hx => exact v__law_state__law_script); (case hs => exact rfl); (case hf => exact .inl rfl))
    | ((with_reducible refine' x1_set (x := "_law_seed") (i := 1) ?hN ?hi ?hx ?hq ?hs ?hf); (case hN => exact sc__law_state.nd); (case hi => exact rfl); (case hx => exact v__law_state__law_seed); (case hs => exact rfl); (case hf => exact .inl rfl))
    | ((with_reducible refine' x1_set (x := "_law_cell") (i := 2) ?hN ?hi ?hx ?hq ?hs ?hf); (case hN => exact sc__law_state.nd); (case hi => exact rfl); (case hx => exact v__law_state__law_cell); (case hs => exact rfl); (case hf => exact .inl rfl)))
  | ((with_reducible show XG _ (.Name _ _) _ _ _ _); first
    | ((with_reducible refine' xg_name (x := "_law_script") (i := 0) ?hN ?hi ?hx ?hq ?hf); (case hN => exact sc__law_state.nd); (case hi => exact rfl); (case hx => exact v__law_state__law_script); (case hf => exact .inl rfl))
    | ((with_reducible refine' xg_name (x := "_law_seed") (i := 1) ?hN ?hi ?hx ?hq ?hf); (case hN => exact sc__law_state.nd); (case hi => exact rfl); (case hx => exact v__law_state__law_seed); (case hf => exact .inl rfl))
    | ((with_reducible refine' xg_name (x := "_law_cell") (i := 2) ?hN ?hi ?hx ?hq ?hf); (case hN => exact sc__law_state.nd); (case hi => exact rfl); (case hx => exact v__law_state__law_cell); (case hf => exact .inl rfl)))
  | ((with_reducible show XI _ _ _ _ _ _); first
    | with_reducible refine xi_list ?_)
  | walk_at "dx"
  | walk_at "hook")
local macro_rules | `(tactic| walk_at "lcO _law_state") => `(tactic| first
    | ((with_reducible refine' xe_lcO (x := "_law_cell") (own := [("_law_cell", 2)]) (i := 2) ?hc ?hN ?ok ?hi ?hm ?hx ?hq ?hs); (case hc => exact rfl); (case hN => exact sc__law_state.nd); (case ok => exact blkOk_by (N := N__law_state) (sc := defScope s__law_state) (by decide +kernel)); (case hi => exact rfl); (case hm => decide); (case hx => exact fun _ _ => rfl); (case hs => exact fun _ => rfl))
    | ((with_reducible refine' x1_setLcO (x := "_law_cell") (own := [("_law_cell", 2)]) (i := 2) (y := "_law_script") (iy := 0) ?hc ?hN ?ok ?hi ?hm ?hx ?hy ?hyl ?hsw ?hq ?hs); (case hc => exact rfl); (case hN => exact sc__law_state.nd); (case ok => exact blkOk_by (N := N__law_state) (sc := defScope s__law_state) (by decide +kernel)); (case hi => exact rfl); (case hm => decide); (case hx => exact fun _ _ => rfl); (case hy => exact rfl); (case hyl => exact rfl); (case hsw => exact sw_true rfl rfl rfl (by decide +kernel)); (case hs => exact fun _ => rfl))
    | ((with_reducible refine' x1_setLcO (x := "_law_cell") (own := [("_law_cell", 2)]) (i := 2) (y := "_law_seed") (iy := 1) ?hc ?hN ?ok ?hi ?hm ?hx ?hy ?hyl ?hsw ?hq ?hs); (case hc => exact rfl); (case hN => exact sc__law_state.nd); (case ok => exact blkOk_by (N := N__law_state) (sc := defScope s__law_state) (by decide +kernel)); (case hi => exact rfl); (case hm => decide); (case hx => exact fun _ _ => rfl); (case hy => exact rfl); (case hyl => exact rfl); (case hsw => exact sw_true rfl rfl rfl (by decide +kernel)); (case hs => exact fun _ => rfl))
    | ((with_reducible refine' x1_setLcO (x := "_law_cell") (own := [("_law_cell", 2)]) (i := 2) (y := "_law_cell") (iy := 2) ?hc ?hN ?ok ?hi ?hm ?hx ?hy ?hyl ?hsw ?hq ?hs); (case hc => exact rfl); (case hN => exact sc__law_state.nd); (case ok => exact blkOk_by (N := N__law_state) (sc := defScope s__law_state) (by decide +kernel)); (case hi => exact rfl); (case hm => decide); (case hx => exact fun _ _ => rfl); (case hy => exact rfl); (case hyl => exact rfl); (case hsw => exact sw_true rfl rfl rfl (by decide +kernel)); (case hs => exact fun _ => rfl)))
local macro_rules | `(tactic| walk_at "go _law_state") => `(tactic| first | ((walk_at "go1 _law_state"); (all_goals walk_at "go _law_state")) | skip)
abbrev s__law_draw : Stmt := top 5
abbrev N__law_draw : List Str := ["_law_state_here", "_law_many", "_law_cells", "_law_value", "_law_mixed"]
theorem sc__law_draw : FnScope N__law_draw ["_law_state_here", "_law_many"] (defScope s__law_draw) := ⟨rfl, rfl, rfl, by decide +kernel, rfl, by decide +kernel, by decide +kernel⟩
theorem v__law_draw__law_state_here : Loc (defScope s__law_draw) "_law_state_here" := by first | exact .inl rfl | exact .inr rfl
theorem v__law_draw__law_many : Loc (defScope s__law_draw) "_law_many" := by first | exact .inl rfl | exact .inr rfl
theorem v__law_draw__law_cells : Loc (defScope s__law_draw) "_law_cells" := by first | exact .inl rfl | exact .inr rfl
theorem v__law_draw__law_value : Loc (defScope s__law_draw) "_law_value" := by first | exact .inl rfl | exact .inr rfl
theorem v__law_draw__law_mixed : Loc (defScope s__law_draw) "_law_mixed" := by first | exact .inl rfl | exact .inr rfl
theorem g__law_draw_len : (defScope s__law_draw).names.lookup ("len" : Str) = some .globalImplicit := rfl
theorem g__law_draw_int : (defScope s__law_draw).names.lookup ("int" : Str) = some .globalImplicit := rfl
theorem nd__law_draw__law_state_here : (("_law_state_here" : Str) == ("__debug__" : Str)) = false ∧ (("_law_state_here" : Str) == ("__classdict__" : Str)) = false := by decide +kernel
theorem nd__law_draw__law_many : (("_law_many" : Str) == ("__debug__" : Str)) = false ∧ (("_law_many" : Str) == ("__classdict__" : Str)) = false := by decide +kernel
theorem nd__law_draw__law_cells : (("_law_cells" : Str) == ("__debug__" : Str)) = false ∧ (("_law_cells" : Str) == ("__classdict__" : Str)) = false := by decide +kernel
theorem nd__law_draw__law_value : (("_law_value" : Str) == ("__debug__" : Str)) = false ∧ (("_law_value" : Str) == ("__classdict__" : Str)) = false := by decide +kernel
theorem nd__law_draw__law_mixed : (("_law_mixed" : Str) == ("__debug__" : Str)) = false ∧ (("_law_mixed" : Str) == ("__classdict__" : Str)) = false := by decide +kernel
local macro_rules | `(tactic| walk_at "go1 _law_draw") => `(tactic| first
  | ((with_reducible refine' xs_set (env' := [?e0, ?e1, ?e2, ?e3, ?e4]) ?hh ?qq); (case hh => exact rfl))
  | ((with_reducible refine' xs_start (env' := [?e0, ?e1, ?e2, ?e3, ?e4]) ?hh ?qq); (case hh => exact rfl))
  | ((with_reducible show X1 _ (.Assign [.Name _ _] (.List _ _) _) _ _ _); first
    | ((with_reducible refine' x1_set (x := "_law_state_here") (i := 0) (e := .List _ _) ?hN ?hi ?hx (xe_lstO ?hq) ?hs ?hf); (case hN => exact sc__law_draw.nd); (case hi => exact rfl); (case hx => exact v__law_draw__law_state_here); (case hs => exact rfl); (case hf => exact .inl rfl))
    | ((with_reducible refine' x1_set (x := "_law_cells") (i := 2) (e := .List _ _) ?hN ?hi ?hx (xe_lstO ?hq) ?hs ?hf); (case hN => exact sc__law_draw.nd); (case hi => exact rfl); (case hx => exact v__law_draw__law_cells); (case hs => exact rfl); (case hf => exact .inl rfl)))
  | ((with_reducible show XE _ (.Name _ _) _ _ _); first
    | ((with_reducible refine' xe_name (x := "_law_state_here") (i := 0) ?hN ?hv ?he ?hq ?hd ?hcd); (case hN => exact rfl); (case hv => first | exact Loc.vis v__law_draw__law_state_here | exact Or.inl rfl | exact Or.inr (Or.inl rfl) | exact Or.inr (Or.inr rfl)); (case he => exact rfl); (case hd => exact nd__law_draw__law_state_here.1); (case hcd => exact nd__law_draw__law_state_here.2))
    | ((with_reducible refine' xe_name (x := "_law_many") (i := 1) ?hN ?hv ?he ?hq ?hd ?hcd); (case hN => exact rfl); (case hv => first | exact Loc.vis v__law_draw__law_many | exact Or.inl rfl | exact Or.inr (Or.inl rfl) | exact Or.inr (Or.inr rfl)); (case he => exact rfl); (case hd => exact nd__law_draw__law_many.1); (case hcd => exact nd__law_draw__law_many.2))
    | ((with_reducible refine' xe_name (x := "_law_cells") (i := 2) ?hN ?hv ?he ?hq ?hd ?hcd); (case hN => exact rfl); (case hv => first | exact Loc.vis v__law_draw__law_cells | exact Or.inl rfl | exact Or.inr (Or.inl rfl) | exact Or.inr (Or.inr rfl)); (case he => exact rfl); (case hd => exact nd__law_draw__law_cells.1); (case hcd => exact nd__law_draw__law_cells.2))
    | ((with_reducible refine' xe_name (x := "_law_value") (i := 3) ?hN ?hv ?he ?hq ?hd ?hcd); (case hN => exact rfl); (case hv => first | exact Loc.vis v__law_draw__law_value | exact Or.inl rfl | exact Or.inr (Or.inl rfl) | exact Or.inr (Or.inr rfl)); (case he => exact rfl); (case hd => exact nd__law_draw__law_value.1); (case hcd => exact nd__law_draw__law_value.2))
    | ((with_reducible refine' xe_name (x := "_law_mixed") (i := 4) ?hN ?hv ?he ?hq ?hd ?hcd); (case hN => exact rfl); (case hv => first | exact Loc.vis v__law_draw__law_mixed | exact Or.inl rfl | exact Or.inr (Or.inl rfl) | exact Or.inr (Or.inr rfl)); (case he => exact rfl); (case hd => exact nd__law_draw__law_mixed.1); (case hcd => exact nd__law_draw__law_mixed.2))
    | ((with_reducible refine' xe_ty (x := "int") (n := "int") ?hv ?hm ?hg ?hq ?hn ?hd); (case hv => decide +kernel); (case hm => exact Txt.b_int (by assumption)); (case hg => first | exact g__law_draw_int | exact rfl); (case hn => decide +kernel); (case hd => decide +kernel)))
  | ((with_reducible show XE _ (.Call (.Name _ _) _ _ _) _ _ _); first
    | ((with_reducible refine' xe_callB (x := "len") (id := "len") ?hv ?hm ?hg ?hq ?hn ?hd ?he ?hp); (case hv => decide +kernel); (case hm => exact Txt.b_len (by assumption)); (case hg => first | exact g__law_draw_len | exact rfl); (case hn => decide +kernel); (case hd => decide +kernel); (case he => exact rfl); (case hp => exact rfl))
    | ((with_reducible refine' xe_callTy (x := "int") (id := "int") ?hv ?hm ?hg ?hq ?hn ?hd ?he ?hp); (case hv => decide +kernel); (case hm => exact Txt.b_int (by assumption)); (case hg => first | exact g__law_draw_int | exact rfl); (case hn => decide +kernel); (case hd => decide +kernel); (case he => exact rfl); (case hp => exact rfl)))
  | ((with_reducible show X1 _ (.Assign [.Name _ _] _ _) _ _ _); first
    | ((with_reducible refine' x1_set (x := "_law_state_here") (i := 0) ?hN ?hi ?hx ?hq ?hs ?hf); (case hN => exact sc__law_draw.nd); (case hi => exact rfl); (case hx => exact v__law_draw__law_state_here); (case hs => exact rfl); (case hf => exact .inl rfl))
    | ((with_reducible refine' x1_set (x := "_law_many") (i := 1) ?hN ?hi ?hx ?hq ?hs ?hf); (case hN => exact sc__law_draw.nd); (case hi => exact rfl); (case hx => exact v__law_draw__law_many); (case hs => exact rfl); (case hf => exact .inl rfl))
    | ((with_reducible refine' x1_set (x := "_law_cells") (i := 2) ?hN ?hi ?hx ?hq ?hs ?hf); (case hN => exact sc__law_draw.nd); (case hi => exact rfl); (case hx => exact v__law_draw__law_cells); (case hs => exact rfl); (case hf => exact .inl rfl))
    | ((with_reducible refine' x1_set (x := "_law_value") (i := 3) ?hN ?hi ?hx ?hq ?hs ?hf); (case hN => exact sc__law_draw.nd); (case hi => exact rfl); (case hx => exact v__law_draw__law_value); (case hs => exact rfl); (case hf => exact .inl rfl))
    | ((with_reducible refine' x1_set (x := "_law_mixed") (i := 4) ?hN ?hi ?hx ?hq ?hs ?hf); (case hN => exact sc__law_draw.nd); (case hi => exact rfl); (case hx => exact v__law_draw__law_mixed); (case hs => exact rfl); (case hf => exact .inl rfl)))
  | ((with_reducible show XG _ (.Name _ _) _ _ _ _); first
    | ((with_reducible refine' xg_name (x := "_law_state_here") (i := 0) ?hN ?hi ?hx ?hq ?hf); (case hN => exact sc__law_draw.nd); (case hi => exact rfl); (case hx => exact v__law_draw__law_state_here); (case hf => exact .inl rfl))
    | ((with_reducible refine' xg_name (x := "_law_many") (i := 1) ?hN ?hi ?hx ?hq ?hf); (case hN => exact sc__law_draw.nd); (case hi => exact rfl); (case hx => exact v__law_draw__law_many); (case hf => exact .inl rfl))
    | ((with_reducible refine' xg_name (x := "_law_cells") (i := 2) ?hN ?hi ?hx ?hq ?hf); (case hN => exact sc__law_draw.nd); (case hi => exact rfl); (case hx => exact v__law_draw__law_cells); (case hf => exact .inl rfl))
    | ((with_reducible refine' xg_name (x := "_law_value") (i := 3) ?hN ?hi ?hx ?hq ?hf); (case hN => exact sc__law_draw.nd); (case hi => exact rfl); (case hx => exact v__law_draw__law_value); (case hf => exact .inl rfl))
    | ((with_reducible refine' xg_name (x := "_law_mixed") (i := 4) ?hN ?hi ?hx ?hq ?hf); (case hN => exact sc__law_draw.nd); (case hi => exact rfl); (case hx => exact v__law_draw__law_mixed); (case hf => exact .inl rfl)))
  | ((with_reducible show XI _ _ _ _ _ _); first
    | with_reducible refine xi_list ?_)
  | walk_at "dx"
  | walk_at "hook")
local macro_rules | `(tactic| walk_at "go _law_draw") => `(tactic| first | ((walk_at "go1 _law_draw"); (all_goals walk_at "go _law_draw")) | skip)
abbrev s__law_tasks : Stmt := top 6
abbrev N__law_tasks : List Str := ["_law_state_here", "_law_tasks_here", "_law_short", "_law_k", "_law_within", "_law_every"]
theorem sc__law_tasks : FnScope N__law_tasks ["_law_state_here"] (defScope s__law_tasks) := ⟨rfl, rfl, rfl, by decide +kernel, rfl, by decide +kernel, by decide +kernel⟩
theorem v__law_tasks__law_state_here : Loc (defScope s__law_tasks) "_law_state_here" := by first | exact .inl rfl | exact .inr rfl
theorem v__law_tasks__law_tasks_here : Loc (defScope s__law_tasks) "_law_tasks_here" := by first | exact .inl rfl | exact .inr rfl
theorem v__law_tasks__law_short : Loc (defScope s__law_tasks) "_law_short" := by first | exact .inl rfl | exact .inr rfl
theorem v__law_tasks__law_k : Loc (defScope s__law_tasks) "_law_k" := by first | exact .inl rfl | exact .inr rfl
theorem v__law_tasks__law_within : Loc (defScope s__law_tasks) "_law_within" := by first | exact .inl rfl | exact .inr rfl
theorem v__law_tasks__law_every : Loc (defScope s__law_tasks) "_law_every" := by first | exact .inl rfl | exact .inr rfl
theorem g__law_tasks__law_draw : (defScope s__law_tasks).names.lookup ("_law_draw" : Str) = some .globalImplicit := rfl
theorem g__law_tasks_range : (defScope s__law_tasks).names.lookup ("range" : Str) = some .globalImplicit := rfl
theorem g__law_tasks_str : (defScope s__law_tasks).names.lookup ("str" : Str) = some .globalImplicit := rfl
theorem nd__law_tasks__law_state_here : (("_law_state_here" : Str) == ("__debug__" : Str)) = false ∧ (("_law_state_here" : Str) == ("__classdict__" : Str)) = false := by decide +kernel
theorem nd__law_tasks__law_tasks_here : (("_law_tasks_here" : Str) == ("__debug__" : Str)) = false ∧ (("_law_tasks_here" : Str) == ("__classdict__" : Str)) = false := by decide +kernel
theorem nd__law_tasks__law_short : (("_law_short" : Str) == ("__debug__" : Str)) = false ∧ (("_law_short" : Str) == ("__classdict__" : Str)) = false := by decide +kernel
theorem nd__law_tasks__law_k : (("_law_k" : Str) == ("__debug__" : Str)) = false ∧ (("_law_k" : Str) == ("__classdict__" : Str)) = false := by decide +kernel
theorem nd__law_tasks__law_within : (("_law_within" : Str) == ("__debug__" : Str)) = false ∧ (("_law_within" : Str) == ("__classdict__" : Str)) = false := by decide +kernel
theorem nd__law_tasks__law_every : (("_law_every" : Str) == ("__debug__" : Str)) = false ∧ (("_law_every" : Str) == ("__classdict__" : Str)) = false := by decide +kernel
local macro_rules | `(tactic| walk_at "go1 _law_tasks") => `(tactic| first
  | ((with_reducible refine' xs_set (env' := [?e0, ?e1, ?e2, ?e3, ?e4, ?e5]) ?hh ?qq); (case hh => exact rfl))
  | ((with_reducible refine' xs_start (env' := [?e0, ?e1, ?e2, ?e3, ?e4, ?e5]) ?hh ?qq); (case hh => exact rfl))
  | ((with_reducible show X1 _ (.Assign [.Name _ _] (.List _ _) _) _ _ _); first
    | ((with_reducible refine' x1_set (x := "_law_tasks_here") (i := 1) (e := .List _ _) ?hN ?hi ?hx (xe_lstO ?hq) ?hs ?hf); (case hN => exact sc__law_tasks.nd); (case hi => exact rfl); (case hx => exact v__law_tasks__law_tasks_here); (case hs => exact rfl); (case hf => exact .inl rfl)))
  | ((with_reducible show XE _ (.Name _ _) _ _ _); first
    | ((with_reducible refine' xe_name (x := "_law_state_here") (i := 0) ?hN ?hv ?he ?hq ?hd ?hcd); (case hN => exact rfl); (case hv => first | exact Loc.vis v__law_tasks__law_state_here | exact Or.inl rfl | exact Or.inr (Or.inl rfl) | exact Or.inr (Or.inr rfl)); (case he => exact rfl); (case hd => exact nd__law_tasks__law_state_here.1); (case hcd => exact nd__law_tasks__law_state_here.2))
    | ((with_reducible refine' xe_name (x := "_law_tasks_here") (i := 1) ?hN ?hv ?he ?hq ?hd ?hcd); (case hN => exact rfl); (case hv => first | exact Loc.vis v__law_tasks__law_tasks_here | exact Or.inl rfl | exact Or.inr (Or.inl rfl) | exact Or.inr (Or.inr rfl)); (case he => exact rfl); (case hd => exact nd__law_tasks__law_tasks_here.1); (case hcd => exact nd__law_tasks__law_tasks_here.2))
    | ((with_reducible refine' xe_name (x := "_law_short") (i := 2) ?hN ?hv ?he ?hq ?hd ?hcd); (case hN => exact rfl); (case hv => first | exact Loc.vis v__law_tasks__law_short | exact Or.inl rfl | exact Or.inr (Or.inl rfl) | exact Or.inr (Or.inr rfl)); (case he => exact rfl); (case hd => exact nd__law_tasks__law_short.1); (case hcd => exact nd__law_tasks__law_short.2))
    | ((with_reducible refine' xe_name (x := "_law_k") (i := 3) ?hN ?hv ?he ?hq ?hd ?hcd); (case hN => exact rfl); (case hv => first | exact Loc.vis v__law_tasks__law_k | exact Or.inl rfl | exact Or.inr (Or.inl rfl) | exact Or.inr (Or.inr rfl)); (case he => exact rfl); (case hd => exact nd__law_tasks__law_k.1); (case hcd => exact nd__law_tasks__law_k.2))
    | ((with_reducible refine' xe_name (x := "_law_within") (i := 4) ?hN ?hv ?he ?hq ?hd ?hcd); (case hN => exact rfl); (case hv => first | exact Loc.vis v__law_tasks__law_within | exact Or.inl rfl | exact Or.inr (Or.inl rfl) | exact Or.inr (Or.inr rfl)); (case he => exact rfl); (case hd => exact nd__law_tasks__law_within.1); (case hcd => exact nd__law_tasks__law_within.2))
    | ((with_reducible refine' xe_name (x := "_law_every") (i := 5) ?hN ?hv ?he ?hq ?hd ?hcd); (case hN => exact rfl); (case hv => first | exact Loc.vis v__law_tasks__law_every | exact Or.inl rfl | exact Or.inr (Or.inl rfl) | exact Or.inr (Or.inr rfl)); (case he => exact rfl); (case hd => exact nd__law_tasks__law_every.1); (case hcd => exact nd__law_tasks__law_every.2))
    | ((with_reducible refine' xe_ty (x := "str") (n := "str") ?hv ?hm ?hg ?hq ?hn ?hd); (case hv => decide +kernel); (case hm => exact Txt.b_str (by assumption)); (case hg => first | exact g__law_tasks_str | exact rfl); (case hn => decide +kernel); (case hd => decide +kernel)))
  | ((with_reducible show XE _ (.Call (.Name _ _) _ _ _) _ _ _); first
    | ((with_reducible refine' xe_callS (x := "_law_draw") ?hC ?hr ?hg ?hq ?hd ?he ?hp); (case hC => assumption); (case hr => exact Room.mono (by assumption) (by decide)); (case hg => first | exact g__law_tasks__law_draw | exact rfl); (case hd => decide +kernel); (case he => exact rfl); (case hp => exact rfl))
    | ((with_reducible refine' xe_callTy (x := "str") (id := "str") ?hv ?hm ?hg ?hq ?hn ?hd ?he ?hp); (case hv => decide +kernel); (case hm => exact Txt.b_str (by assumption)); (case hg => first | exact g__law_tasks_str | exact rfl); (case hn => decide +kernel); (case hd => decide +kernel); (case he => exact rfl); (case hp => exact rfl)))
  | ((with_reducible show X1 _ (.Assign [.Name _ _] _ _) _ _ _); first
    | ((with_reducible refine' x1_set (x := "_law_state_here") (i := 0) ?hN ?hi ?hx ?hq ?hs ?hf); (case hN => exact sc__law_tasks.nd); (case hi => exact rfl); (case hx => exact v__law_tasks__law_state_here); (case hs => exact rfl); (case hf => exact .inl rfl))
    | ((with_reducible refine' x1_set (x := "_law_tasks_here") (i := 1) ?hN ?hi ?hx ?hq ?hs ?hf); (case hN => exact sc__law_tasks.nd); (case hi => exact rfl); (case hx => exact v__law_tasks__law_tasks_here); (case hs => exact rfl); (case hf => exact .inl rfl))
    | ((with_reducible refine' x1_set (x := "_law_short") (i := 2) ?hN ?hi ?hx ?hq ?hs ?hf); (case hN => exact sc__law_tasks.nd); (case hi => exact rfl); (case hx => exact v__law_tasks__law_short); (case hs => exact rfl); (case hf => exact .inl rfl))
    | ((with_reducible refine' x1_set (x := "_law_k") (i := 3) ?hN ?hi ?hx ?hq ?hs ?hf); (case hN => exact sc__law_tasks.nd); (case hi => exact rfl); (case hx => exact v__law_tasks__law_k); (case hs => exact rfl); (case hf => exact .inl rfl))
    | ((with_reducible refine' x1_set (x := "_law_within") (i := 4) ?hN ?hi ?hx ?hq ?hs ?hf); (case hN => exact sc__law_tasks.nd); (case hi => exact rfl); (case hx => exact v__law_tasks__law_within); (case hs => exact rfl); (case hf => exact .inl rfl))
    | ((with_reducible refine' x1_set (x := "_law_every") (i := 5) ?hN ?hi ?hx ?hq ?hs ?hf); (case hN => exact sc__law_tasks.nd); (case hi => exact rfl); (case hx => exact v__law_tasks__law_every); (case hs => exact rfl); (case hf => exact .inl rfl)))
  | ((with_reducible show XG _ (.Name _ _) _ _ _ _); first
    | ((with_reducible refine' xg_name (x := "_law_state_here") (i := 0) ?hN ?hi ?hx ?hq ?hf); (case hN => exact sc__law_tasks.nd); (case hi => exact rfl); (case hx => exact v__law_tasks__law_state_here); (case hf => exact .inl rfl))
    | ((with_reducible refine' xg_name (x := "_law_tasks_here") (i := 1) ?hN ?hi ?hx ?hq ?hf); (case hN => exact sc__law_tasks.nd); (case hi => exact rfl); (case hx => exact v__law_tasks__law_tasks_here); (case hf => exact .inl rfl))
    | ((with_reducible refine' xg_name (x := "_law_short") (i := 2) ?hN ?hi ?hx ?hq ?hf); (case hN => exact sc__law_tasks.nd); (case hi => exact rfl); (case hx => exact v__law_tasks__law_short); (case hf => exact .inl rfl))
    | ((with_reducible refine' xg_name (x := "_law_k") (i := 3) ?hN ?hi ?hx ?hq ?hf); (case hN => exact sc__law_tasks.nd); (case hi => exact rfl); (case hx => exact v__law_tasks__law_k); (case hf => exact .inl rfl))
    | ((with_reducible refine' xg_name (x := "_law_within") (i := 4) ?hN ?hi ?hx ?hq ?hf); (case hN => exact sc__law_tasks.nd); (case hi => exact rfl); (case hx => exact v__law_tasks__law_within); (case hf => exact .inl rfl))
    | ((with_reducible refine' xg_name (x := "_law_every") (i := 5) ?hN ?hi ?hx ?hq ?hf); (case hN => exact sc__law_tasks.nd); (case hi => exact rfl); (case hx => exact v__law_tasks__law_every); (case hf => exact .inl rfl)))
  | ((with_reducible show XI _ _ _ _ _ _); first
    | ((with_reducible refine' xi_range1 ?hg ?hm ?hq ?hs); (case hg => first | exact g__law_tasks_range | exact rfl); (case hm => exact Txt.b_range (by assumption)); (case hs => exact rfl))
    | ((with_reducible refine' xi_range2 ?hg ?hm ?hq ?hs ?hs2); (case hg => first | exact g__law_tasks_range | exact rfl); (case hm => exact Txt.b_range (by assumption)); (case hs => exact rfl); (case hs2 => exact rfl))
    | with_reducible refine xi_list ?_)
  | walk_at "dx"
  | first | ((with_reducible refine' ⟨_, [], _, [_], ?hD, rfl, rfl, rfl, ?hq2⟩); (case hD => assumption)) | ((with_reducible refine' ⟨_, [_], _, [_], ?hD, rfl, rfl, rfl, ?hq2⟩); (case hD => assumption)) | ((with_reducible refine' ⟨_, [_, _], _, [_], ?hD, rfl, rfl, rfl, ?hq2⟩); (case hD => assumption)) | ((with_reducible refine' ⟨_, [_, _, _], _, [_], ?hD, rfl, rfl, rfl, ?hq2⟩); (case hD => assumption)) | ((with_reducible refine' ⟨_, [_, _, _, _], _, [_], ?hD, rfl, rfl, rfl, ?hq2⟩); (case hD => assumption))
  | walk_at "hook")
local macro_rules | `(tactic| walk_at "go _law_tasks") => `(tactic| first | ((walk_at "go1 _law_tasks"); (all_goals walk_at "go _law_tasks")) | skip)
abbrev s__law_interrupts : Stmt := top 7
abbrev N__law_interrupts : List Str := ["_law_state_here", "_law_interrupts_here", "_law_k", "_law_within"]
theorem sc__law_interrupts : FnScope N__law_interrupts ["_law_state_here"] (defScope s__law_interrupts) := ⟨rfl, rfl, rfl, by decide +kernel, rfl, by decide +kernel, by decide +kernel⟩
theorem v__law_interrupts__law_state_here : Loc (defScope s__law_interrupts) "_law_state_here" := by first | exact .inl rfl | exact .inr rfl
theorem v__law_interrupts__law_interrupts_here : Loc (defScope s__law_interrupts) "_law_interrupts_here" := by first | exact .inl rfl | exact .inr rfl
theorem v__law_interrupts__law_k : Loc (defScope s__law_interrupts) "_law_k" := by first | exact .inl rfl | exact .inr rfl
theorem v__law_interrupts__law_within : Loc (defScope s__law_interrupts) "_law_within" := by first | exact .inl rfl | exact .inr rfl
theorem g__law_interrupts_range : (defScope s__law_interrupts).names.lookup ("range" : Str) = some .globalImplicit := rfl
theorem g__law_interrupts__law_draw : (defScope s__law_interrupts).names.lookup ("_law_draw" : Str) = some .globalImplicit := rfl
theorem g__law_interrupts_str : (defScope s__law_interrupts).names.lookup ("str" : Str) = some .globalImplicit := rfl
theorem nd__law_interrupts__law_state_here : (("_law_state_here" : Str) == ("__debug__" : Str)) = false ∧ (("_law_state_here" : Str) == ("__classdict__" : Str)) = false := by decide +kernel
theorem nd__law_interrupts__law_interrupts_here : (("_law_interrupts_here" : Str) == ("__debug__" : Str)) = false ∧ (("_law_interrupts_here" : Str) == ("__classdict__" : Str)) = false := by decide +kernel
theorem nd__law_interrupts__law_k : (("_law_k" : Str) == ("__debug__" : Str)) = false ∧ (("_law_k" : Str) == ("__classdict__" : Str)) = false := by decide +kernel
theorem nd__law_interrupts__law_within : (("_law_within" : Str) == ("__debug__" : Str)) = false ∧ (("_law_within" : Str) == ("__classdict__" : Str)) = false := by decide +kernel
local macro_rules | `(tactic| walk_at "go1 _law_interrupts") => `(tactic| first
  | ((with_reducible refine' xs_set (env' := [?e0, ?e1, ?e2, ?e3]) ?hh ?qq); (case hh => exact rfl))
  | ((with_reducible refine' xs_start (env' := [?e0, ?e1, ?e2, ?e3]) ?hh ?qq); (case hh => exact rfl))
  | ((with_reducible show X1 _ (.Assign [.Name _ _] (.List _ _) _) _ _ _); first
    | ((with_reducible refine' x1_set (x := "_law_interrupts_here") (i := 1) (e := .List _ _) ?hN ?hi ?hx (xe_lstO ?hq) ?hs ?hf); (case hN => exact sc__law_interrupts.nd); (case hi => exact rfl); (case hx => exact v__law_interrupts__law_interrupts_here); (case hs => exact rfl); (case hf => exact .inl rfl)))
  | ((with_reducible show XE _ (.Name _ _) _ _ _); first
    | ((with_reducible refine' xe_name (x := "_law_state_here") (i := 0) ?hN ?hv ?he ?hq ?hd ?hcd); (case hN => exact rfl); (case hv => first | exact Loc.vis v__law_interrupts__law_state_here | exact Or.inl rfl | exact Or.inr (Or.inl rfl) | exact Or.inr (Or.inr rfl)); (case he => exact rfl); (case hd => exact nd__law_interrupts__law_state_here.1); (case hcd => exact nd__law_interrupts__law_state_here.2))
    | ((with_reducible refine' xe_name (x := "_law_interrupts_here") (i := 1) ?hN ?hv ?he ?hq ?hd ?hcd); (case hN => exact rfl); (case hv => first | exact Loc.vis v__law_interrupts__law_interrupts_here | exact Or.inl rfl | exact Or.inr (Or.inl rfl) | exact Or.inr (Or.inr rfl)); (case he => exact rfl); (case hd => exact nd__law_interrupts__law_interrupts_here.1); (case hcd => exact nd__law_interrupts__law_interrupts_here.2))
    | ((with_reducible refine' xe_name (x := "_law_k") (i := 2) ?hN ?hv ?he ?hq ?hd ?hcd); (case hN => exact rfl); (case hv => first | exact Loc.vis v__law_interrupts__law_k | exact Or.inl rfl | exact Or.inr (Or.inl rfl) | exact Or.inr (Or.inr rfl)); (case he => exact rfl); (case hd => exact nd__law_interrupts__law_k.1); (case hcd => exact nd__law_interrupts__law_k.2))
    | ((with_reducible refine' xe_name (x := "_law_within") (i := 3) ?hN ?hv ?he ?hq ?hd ?hcd); (case hN => exact rfl); (case hv => first | exact Loc.vis v__law_interrupts__law_within | exact Or.inl rfl | exact Or.inr (Or.inl rfl) | exact Or.inr (Or.inr rfl)); (case he => exact rfl); (case hd => exact nd__law_interrupts__law_within.1); (case hcd => exact nd__law_interrupts__law_within.2))
    | ((with_reducible refine' xe_ty (x := "str") (n := "str") ?hv ?hm ?hg ?hq ?hn ?hd); (case hv => decide +kernel); (case hm => exact Txt.b_str (by assumption)); (case hg => first | exact g__law_interrupts_str | exact rfl); (case hn => decide +kernel); (case hd => decide +kernel)))
  | ((with_reducible show XE _ (.Call (.Name _ _) _ _ _) _ _ _); first
    | ((with_reducible refine' xe_callS (x := "_law_draw") ?hC ?hr ?hg ?hq ?hd ?he ?hp); (case hC => assumption); (case hr => exact Room.mono (by assumption) (by decide)); (case hg => first | exact g__law_interrupts__law_draw | exact rfl); (case hd => decide +kernel); (case he => exact rfl); (case hp => exact rfl))
    | ((with_reducible refine' xe_callTy (x := "str") (id := "str") ?hv ?hm ?hg ?hq ?hn ?hd ?he ?hp); (case hv => decide +kernel); (case hm => exact Txt.b_str (by assumption)); (case hg => first | exact g__law_interrupts_str | exact rfl); (case hn => decide +kernel); (case hd => decide +kernel); (case he => exact rfl); (case hp => exact rfl)))
  | ((with_reducible show X1 _ (.Assign [.Name _ _] _ _) _ _ _); first
    | ((with_reducible refine' x1_set (x := "_law_state_here") (i := 0) ?hN ?hi ?hx ?hq ?hs ?hf); (case hN => exact sc__law_interrupts.nd); (case hi => exact rfl); (case hx => exact v__law_interrupts__law_state_here); (case hs => exact rfl); (case hf => exact .inl rfl))
    | ((with_reducible refine' x1_set (x := "_law_interrupts_here") (i := 1) ?hN ?hi ?hx ?hq ?hs ?hf); (case hN => exact sc__law_interrupts.nd); (case hi => exact rfl); (case hx => exact v__law_interrupts__law_interrupts_here); (case hs => exact rfl); (case hf => exact .inl rfl))
    | ((with_reducible refine' x1_set (x := "_law_k") (i := 2) ?hN ?hi ?hx ?hq ?hs ?hf); (case hN => exact sc__law_interrupts.nd); (case hi => exact rfl); (case hx => exact v__law_interrupts__law_k); (case hs => exact rfl); (case hf => exact .inl rfl))
    | ((with_reducible refine' x1_set (x := "_law_within") (i := 3) ?hN ?hi ?hx ?hq ?hs ?hf); (case hN => exact sc__law_interrupts.nd); (case hi => exact rfl); (case hx => exact v__law_interrupts__law_within); (case hs => exact rfl); (case hf => exact .inl rfl)))
  | ((with_reducible show XG _ (.Name _ _) _ _ _ _); first
    | ((with_reducible refine' xg_name (x := "_law_state_here") (i := 0) ?hN ?hi ?hx ?hq ?hf); (case hN => exact sc__law_interrupts.nd); (case hi => exact rfl); (case hx => exact v__law_interrupts__law_state_here); (case hf => exact .inl rfl))
    | ((with_reducible refine' xg_name (x := "_law_interrupts_here") (i := 1) ?hN ?hi ?hx ?hq ?hf); (case hN => exact sc__law_interrupts.nd); (case hi => exact rfl); (case hx => exact v__law_interrupts__law_interrupts_here); (case hf => exact .inl rfl))
    | ((with_reducible refine' xg_name (x := "_law_k") (i := 2) ?hN ?hi ?hx ?hq ?hf); (case hN => exact sc__law_interrupts.nd); (case hi => exact rfl); (case hx => exact v__law_interrupts__law_k); (case hf => exact .inl rfl))
    | ((with_reducible refine' xg_name (x := "_law_within") (i := 3) ?hN ?hi ?hx ?hq ?hf); (case hN => exact sc__law_interrupts.nd); (case hi => exact rfl); (case hx => exact v__law_interrupts__law_within); (case hf => exact .inl rfl)))
  | ((with_reducible show XI _ _ _ _ _ _); first
    | ((with_reducible refine' xi_range1 ?hg ?hm ?hq ?hs); (case hg => first | exact g__law_interrupts_range | exact rfl); (case hm => exact Txt.b_range (by assumption)); (case hs => exact rfl))
    | ((with_reducible refine' xi_range2 ?hg ?hm ?hq ?hs ?hs2); (case hg => first | exact g__law_interrupts_range | exact rfl); (case hm => exact Txt.b_range (by assumption)); (case hs => exact rfl); (case hs2 => exact rfl))
    | with_reducible refine xi_list ?_)
  | walk_at "dx"
  | first | ((with_reducible refine' ⟨_, [], _, [_], ?hD, rfl, rfl, rfl, ?hq2⟩); (case hD => assumption)) | ((with_reducible refine' ⟨_, [_], _, [_], ?hD, rfl, rfl, rfl, ?hq2⟩); (case hD => assumption)) | ((with_reducible refine' ⟨_, [_, _], _, [_], ?hD, rfl, rfl, rfl, ?hq2⟩); (case hD => assumption)) | ((with_reducible refine' ⟨_, [_, _, _], _, [_], ?hD, rfl, rfl, rfl, ?hq2⟩); (case hD => assumption)) | ((with_reducible refine' ⟨_, [_, _, _, _], _, [_], ?hD, rfl, rfl, rfl, ?hq2⟩); (case hD => assumption))
  | walk_at "hook")
local macro_rules | `(tactic| walk_at "go _law_interrupts") => `(tactic| first | ((walk_at "go1 _law_interrupts"); (all_goals walk_at "go _law_interrupts")) | skip)
abbrev s_law : Stmt := top 8
abbrev N_law : List Str := ["_law_script", "_law_state_here", "_law_tasks_here", "_law_interrupts_here", "_law_operation", "_law_program", "_law_actual", "_law_level", "_law_many", "_law_k", "_law_j", "_law_later_is_lower", "_law_routines", "_law_due"]
theorem sc_law : FnScope N_law ["_law_script"] (defScope s_law) := ⟨rfl, rfl, rfl, by decide +kernel, rfl, by decide +kernel, by decide +kernel⟩
theorem v_law__law_script : Loc (defScope s_law) "_law_script" := by first | exact .inl rfl | exact .inr rfl
theorem v_law__law_state_here : Loc (defScope s_law) "_law_state_here" := by first | exact .inl rfl | exact .inr rfl
theorem v_law__law_tasks_here : Loc (defScope s_law) "_law_tasks_here" := by first | exact .inl rfl | exact .inr rfl
theorem v_law__law_interrupts_here : Loc (defScope s_law) "_law_interrupts_here" := by first | exact .inl rfl | exact .inr rfl
theorem v_law__law_operation : Loc (defScope s_law) "_law_operation" := by first | exact .inl rfl | exact .inr rfl
theorem v_law__law_program : Loc (defScope s_law) "_law_program" := by first | exact .inl rfl | exact .inr rfl
theorem v_law__law_actual : Loc (defScope s_law) "_law_actual" := by first | exact .inl rfl | exact .inr rfl
theorem v_law__law_level : Loc (defScope s_law) "_law_level" := by first | exact .inl rfl | exact .inr rfl
theorem v_law__law_many : Loc (defScope s_law) "_law_many" := by first | exact .inl rfl | exact .inr rfl
theorem v_law__law_k : Loc (defScope s_law) "_law_k" := by first | exact .inl rfl | exact .inr rfl
theorem v_law__law_j : Loc (defScope s_law) "_law_j" := by first | exact .inl rfl | exact .inr rfl
theorem v_law__law_later_is_lower : Loc (defScope s_law) "_law_later_is_lower" := by first | exact .inl rfl | exact .inr rfl
theorem v_law__law_routines : Loc (defScope s_law) "_law_routines" := by first | exact .inl rfl | exact .inr rfl
theorem v_law__law_due : Loc (defScope s_law) "_law_due" := by first | exact .inl rfl | exact .inr rfl
theorem g_law__law_state : (defScope s_law).names.lookup ("_law_state" : Str) = some .globalImplicit := rfl
theorem g_law__law_tasks : (defScope s_law).names.lookup ("_law_tasks" : Str) = some .globalImplicit := rfl
theorem g_law__law_interrupts : (defScope s_law).names.lookup ("_law_interrupts" : Str) = some .globalImplicit := rfl
theorem g_law_list : (defScope s_law).names.lookup ("list" : Str) = some .globalImplicit := rfl
theorem g_law_numbers : (defScope s_law).names.lookup ("numbers" : Str) = some .globalImplicit := rfl
theorem g_law_isinstance : (defScope s_law).names.lookup ("isinstance" : Str) = some .globalImplicit := rfl
theorem g_law_len : (defScope s_law).names.lookup ("len" : Str) = some .globalImplicit := rfl
theorem g_law_int : (defScope s_law).names.lookup ("int" : Str) = some .globalImplicit := rfl
theorem g_law_bool : (defScope s_law).names.lookup ("bool" : Str) = some .globalImplicit := rfl
theorem g_law_sorted : (defScope s_law).names.lookup ("sorted" : Str) = some .globalImplicit := rfl
theorem g_law_range : (defScope s_law).names.lookup ("range" : Str) = some .globalImplicit := rfl
theorem g_law_owner : (defScope s_law).names.lookup ("owner" : Str) = some .globalImplicit := rfl
theorem nd_law__law_script : (("_law_script" : Str) == ("__debug__" : Str)) = false ∧ (("_law_script" : Str) == ("__classdict__" : Str)) = false := by decide +kernel
theorem nd_law__law_state_here : (("_law_state_here" : Str) == ("__debug__" : Str)) = false ∧ (("_law_state_here" : Str) == ("__classdict__" : Str)) = false := by decide +kernel
theorem nd_law__law_tasks_here : (("_law_tasks_here" : Str) == ("__debug__" : Str)) = false ∧ (("_law_tasks_here" : Str) == ("__classdict__" : Str)) = false := by decide +kernel
theorem nd_law__law_interrupts_here : (("_law_interrupts_here" : Str) == ("__debug__" : Str)) = false ∧ (("_law_interrupts_here" : Str) == ("__classdict__" : Str)) = false := by decide +kernel
theorem nd_law__law_operation : (("_law_operation" : Str) == ("__debug__" : Str)) = false ∧ (("_law_operation" : Str) == ("__classdict__" : Str)) = false := by decide +kernel
theorem nd_law__law_program : (("_law_program" : Str) == ("__debug__" : Str)) = false ∧ (("_law_program" : Str) == ("__classdict__" : Str)) = false := by decide +kernel
theorem nd_law__law_actual : (("_law_actual" : Str) == ("__debug__" : Str)) = false ∧ (("_law_actual" : Str) == ("__classdict__" : Str)) = false := by decide +kernel
theorem nd_law__law_level : (("_law_level" : Str) == ("__debug__" : Str)) = false ∧ (("_law_level" : Str) == ("__classdict__" : Str)) = false := by decide +kernel
theorem nd_law__law_many : (("_law_many" : Str) == ("__debug__" : Str)) = false ∧ (("_law_many" : Str) == ("__classdict__" : Str)) = false := by decide +kernel
theorem nd_law__law_k : (("_law_k" : Str) == ("__debug__" : Str)) = false ∧ (("_law_k" : Str) == ("__classdict__" : Str)) = false := by decide +kernel
theorem nd_law__law_j : (("_law_j" : Str) == ("__debug__" : Str)) = false ∧ (("_law_j" : Str) == ("__classdict__" : Str)) = false := by decide +kernel
theorem nd_law__law_later_is_lower : (("_law_later_is_lower" : Str) == ("__debug__" : Str)) = false ∧ (("_law_later_is_lower" : Str) == ("__classdict__" : Str)) = false := by decide +kernel
theorem nd_law__law_routines : (("_law_routines" : Str) == ("__debug__" : Str)) = false ∧ (("_law_routines" : Str) == ("__classdict__" : Str)) = false := by decide +kernel
theorem nd_law__law_due : (("_law_due" : Str) == ("__debug__" : Str)) = false ∧ (("_law_due" : Str) == ("__classdict__" : Str)) = false := by decide +kernel
local macro_rules | `(tactic| walk_at "go1 law") => `(tactic| first
  | ((with_reducible refine' xs_set (env' := [?e0, ?e1, ?e2, ?e3, ?e4, ?e5, ?e6, ?e7, ?e8, ?e9, ?e10, ?e11, ?e12, ?e13]) ?hh ?qq); (case hh => exact rfl))
  | ((with_reducible refine' xs_start (env' := [?e0, ?e1, ?e2, ?e3, ?e4, ?e5, ?e6, ?e7, ?e8, ?e9, ?e10, ?e11, ?e12, ?e13]) ?hh ?qq); (case hh => exact rfl))
  | ((with_reducible show XE _ (.ListComp _ _ _ _) _ _ _); first
    | ((with_reducible refine' xe_lc (x := "_law_k") (own := [("_law_k", 9)]) (i := 9) ?hc ?hN ?ok ?hi ?hm ?hx ?hq ?hs); (case hc => exact rfl); (case hN => exact sc_law.nd); (case ok => exact blkOk_by (N := N_law) (sc := defScope s_law) (by decide +kernel)); (case hi => exact rfl); (case hm => decide); (case hx => exact fun _ _ => rfl); (case hs => exact fun _ => rfl)))
  | ((with_reducible show X1 _ (.Assign [.Name _ _] (.ListComp _ _ _ _) _) _ _ _); first
    | ((with_reducible refine' x1_setLc (x := "_law_k") (own := [("_law_k", 9)]) (i := 9) (y := "_law_script") (iy := 0) ?hc ?hN ?ok ?hi ?hm ?hx ?hy ?hyl ?hsw ?hq ?hs); (case hc => exact rfl); (case hN => exact sc_law.nd); (case ok => exact blkOk_by (N := N_law) (sc := defScope s_law) (by decide +kernel)); (case hi => exact rfl); (case hm => decide); (case hx => exact fun _ _ => rfl); (case hy => exact rfl); (case hyl => exact rfl); (case hsw => exact sw_true rfl rfl rfl (by decide +kernel)); (case hs => exact fun _ => rfl))
    | ((with_reducible refine' x1_setLc (x := "_law_k") (own := [("_law_k", 9)]) (i := 9) (y := "_law_state_here") (iy := 1) ?hc ?hN ?ok ?hi ?hm ?hx ?hy ?hyl ?hsw ?hq ?hs); (case hc => exact rfl); (case hN => exact sc_law.nd); (case ok => exact blkOk_by (N := N_law) (sc := defScope s_law) (by decide +kernel)); (case hi => exact rfl); (case hm => decide); (case hx => exact fun _ _ => rfl); (case hy => exact rfl); (case hyl => exact rfl); (case hsw => exact sw_true rfl rfl rfl (by decide +kernel)); (case hs => exact fun _ => rfl))
    | ((with_reducible refine' x1_setLc (x := "_law_k") (own := [("_law_k", 9)]) (i := 9) (y := "_law_tasks_here") (iy := 2) ?hc ?hN ?ok ?hi ?hm ?hx ?hy ?hyl ?hsw ?hq ?hs); (case hc => exact rfl); (case hN => exact sc_law.nd); (case ok => exact blkOk_by (N := N_law) (sc := defScope s_law) (by decide +kernel)); (case hi => exact rfl); (case hm => decide); (case hx => exact fun _ _ => rfl); (case hy => exact rfl); (case hyl => exact rfl); (case hsw => exact sw_true rfl rfl rfl (by decide +kernel)); (case hs => exact fun _ => rfl))
    | ((with_reducible refine' x1_setLc (x := "_law_k") (own := [("_law_k", 9)]) (i := 9) (y := "_law_interrupts_here") (iy := 3) ?hc ?hN ?ok ?hi ?hm ?hx ?hy ?hyl ?hsw ?hq ?hs); (case hc => exact rfl); (case hN => exact sc_law.nd); (case ok => exact blkOk_by (N := N_law) (sc := defScope s_law) (by decide +kernel)); (case hi => exact rfl); (case hm => decide); (case hx => exact fun _ _ => rfl); (case hy => exact rfl); (case hyl => exact rfl); (case hsw => exact sw_true rfl rfl rfl (by decide +kernel)); (case hs => exact fun _ => rfl))
    | ((with_reducible refine' x1_setLc (x := "_law_k") (own := [("_law_k", 9)]) (i := 9) (y := "_law_operation") (iy := 4) ?hc ?hN ?ok ?hi ?hm ?hx ?hy ?hyl ?hsw ?hq ?hs); (case hc => exact rfl); (case hN => exact sc_law.nd); (case ok => exact blkOk_by (N := N_law) (sc := defScope s_law) (by decide +kernel)); (case hi => exact rfl); (case hm => decide); (case hx => exact fun _ _ => rfl); (case hy => exact rfl); (case hyl => exact rfl); (case hsw => exact sw_true rfl rfl rfl (by decide +kernel)); (case hs => exact fun _ => rfl))
    | ((with_reducible refine' x1_setLc (x := "_law_k") (own := [("_law_k", 9)]) (i := 9) (y := "_law_program") (iy := 5) ?hc ?hN ?ok ?hi ?hm ?hx ?hy ?hyl ?hsw ?hq ?hs); (case hc => exact rfl); (case hN => exact sc_law.nd); (case ok => exact blkOk_by (N := N_law) (sc := defScope s_law) (by decide +kernel)); (case hi => exact rfl); (case hm => decide); (case hx => exact fun _ _ => rfl); (case hy => exact rfl); (case hyl => exact rfl); (case hsw => exact sw_true rfl rfl rfl (by decide +kernel)); (case hs => exact fun _ => rfl))
    | ((with_reducible refine' x1_setLc (x := "_law_k") (own := [("_law_k", 9)]) (i := 9) (y := "_law_actual") (iy := 6) ?hc ?hN ?ok ?hi ?hm ?hx ?hy ?hyl ?hsw ?hq ?hs); (case hc => exact rfl); (case hN => exact sc_law.nd); (case ok => exact blkOk_by (N := N_law) (sc := defScope s_law) (by decide +kernel)); (case hi => exact rfl); (case hm => decide); (case hx => exact fun _ _ => rfl); (case hy => exact rfl); (case hyl => exact rfl); (case hsw => exact sw_true rfl rfl rfl (by decide +kernel)); (case hs => exact fun _ => rfl))
    | ((with_reducible refine' x1_setLc (x := "_law_k") (own := [("_law_k", 9)]) (i := 9) (y := "_law_level") (iy := 7) ?hc ?hN ?ok ?hi ?hm ?hx ?hy ?hyl ?hsw ?hq ?hs); (case hc => exact rfl); (case hN => exact sc_law.nd); (case ok => exact blkOk_by (N := N_law) (sc := defScope s_law) (by decide +kernel)); (case hi => exact rfl); (case hm => decide); (case hx => exact fun _ _ => rfl); (case hy => exact rfl); (case hyl => exact rfl); (case hsw => exact sw_true rfl rfl rfl (by decide +kernel)); (case hs => exact fun _ => rfl))
    | ((with_reducible refine' x1_setLc (x := "_law_k") (own := [("_law_k", 9)]) (i := 9) (y := "_law_many") (iy := 8) ?hc ?hN ?ok ?hi ?hm ?hx ?hy ?hyl ?hsw ?hq ?hs); (case hc => exact rfl); (case hN => exact sc_law.nd); (case ok => exact blkOk_by (N := N_law) (sc := defScope s_law) (by decide +kernel)); (case hi => exact rfl); (case hm => decide); (case hx => exact fun _ _ => rfl); (case hy => exact rfl); (case hyl => exact rfl); (case hsw => exact sw_true rfl rfl rfl (by decide +kernel)); (case hs => exact fun _ => rfl))
    | ((with_reducible refine' x1_setLc (x := "_law_k") (own := [("_law_k", 9)]) (i := 9) (y := "_law_k") (iy := 9) ?hc ?hN ?ok ?hi ?hm ?hx ?hy ?hyl ?hsw ?hq ?hs); (case hc => exact rfl); (case hN => exact sc_law.nd); (case ok => exact blkOk_by (N := N_law) (sc := defScope s_law) (by decide +kernel)); (case hi => exact rfl); (case hm => decide); (case hx => exact fun _ _ => rfl); (case hy => exact rfl); (case hyl => exact rfl); (case hsw => exact sw_true rfl rfl rfl (by decide +kernel)); (case hs => exact fun _ => rfl))
    | ((with_reducible refine' x1_setLc (x := "_law_k") (own := [("_law_k", 9)]) (i := 9) (y := "_law_j") (iy := 10) ?hc ?hN ?ok ?hi ?hm ?hx ?hy ?hyl ?hsw ?hq ?hs); (case hc => exact rfl); (case hN => exact sc_law.nd); (case ok => exact blkOk_by (N := N_law) (sc := defScope s_law) (by decide +kernel)); (case hi => exact rfl); (case hm => decide); (case hx => exact fun _ _ => rfl); (case hy => exact rfl); (case hyl => exact rfl); (case hsw => exact sw_true rfl rfl rfl (by decide +kernel)); (case hs => exact fun _ => rfl))
    | ((with_reducible refine' x1_setLc (x := "_law_k") (own := [("_law_k", 9)]) (i := 9) (y := "_law_later_is_lower") (iy := 11) ?hc ?hN ?ok ?hi ?hm ?hx ?hy ?hyl ?hsw ?hq ?hs); (case hc => exact rfl); (case hN => exact sc_law.nd); (case ok => exact blkOk_by (N := N_law) (sc := defScope s_law) (by decide +kernel)); (case hi => exact rfl); (case hm => decide); (case hx => exact fun _ _ => rfl); (case hy => exact rfl); (case hyl => exact rfl); (case hsw => exact sw_true rfl rfl rfl (by decide +kernel)); (case hs => exact fun _ => rfl))
    | ((with_reducible refine' x1_setLc (x := "_law_k") (own := [("_law_k", 9)]) (i := 9) (y := "_law_routines") (iy := 12) ?hc ?hN ?ok ?hi ?hm ?hx ?hy ?hyl ?hsw ?hq ?hs); (case hc => exact rfl); (case hN => exact sc_law.nd); (case ok => exact blkOk_by (N := N_law) (sc := defScope s_law) (by decide +kernel)); (case hi => exact rfl); (case hm => decide); (case hx => exact fun _ _ => rfl); (case hy => exact rfl); (case hyl => exact rfl); (case hsw => exact sw_true rfl rfl rfl (by decide +kernel)); (case hs => exact fun _ => rfl))
    | ((with_reducible refine' x1_setLc (x := "_law_k") (own := [("_law_k", 9)]) (i := 9) (y := "_law_due") (iy := 13) ?hc ?hN ?ok ?hi ?hm ?hx ?hy ?hyl ?hsw ?hq ?hs); (case hc => exact rfl); (case hN => exact sc_law.nd); (case ok => exact blkOk_by (N := N_law) (sc := defScope s_law) (by decide +kernel)); (case hi => exact rfl); (case hm => decide); (case hx => exact fun _ _ => rfl); (case hy => exact rfl); (case hyl => exact rfl); (case hsw => exact sw_true rfl rfl rfl (by decide +kernel)); (case hs => exact fun _ => rfl)))
  | ((with_reducible show XE _ (.Name _ _) _ _ _); first
    | ((with_reducible refine' xe_name (x := "_law_script") (i := 0) ?hN ?hv ?he ?hq ?hd ?hcd); (case hN => exact rfl); (case hv => first | exact Loc.vis v_law__law_script | exact Or.inl rfl | exact Or.inr (Or.inl rfl) | exact Or.inr (Or.inr rfl)); (case he => exact rfl); (case hd => exact nd_law__law_script.1); (case hcd => exact nd_law__law_script.2))
    | ((with_reducible refine' xe_name (x := "_law_state_here") (i := 1) ?hN ?hv ?he ?hq ?hd ?hcd); (case hN => exact rfl); (case hv => first | exact Loc.vis v_law__law_state_here | exact Or.inl rfl | exact Or.inr (Or.inl rfl) | exact Or.inr (Or.inr rfl)); (case he => exact rfl); (case hd => exact nd_law__law_state_here.1); (case hcd => exact nd_law__law_state_here.2))
    | ((with_reducible refine' xe_name (x := "_law_tasks_here") (i := 2) ?hN ?hv ?he ?hq ?hd ?hcd); (case hN => exact rfl); (case hv => first | exact Loc.vis v_law__law_tasks_here | exact Or.inl rfl | exact Or.inr (Or.inl rfl) | exact Or.inr (Or.inr rfl)); (case he => exact rfl); (case hd => exact nd_law__law_tasks_here.1); (case hcd => exact nd_law__law_tasks_here.2))
    | ((with_reducible refine' xe_name (x := "_law_interrupts_here") (i := 3) ?hN ?hv ?he ?hq ?hd ?hcd); (case hN => exact rfl); (case hv => first | exact Loc.vis v_law__law_interrupts_here | exact Or.inl rfl | exact Or.inr (Or.inl rfl) | exact Or.inr (Or.inr rfl)); (case he => exact rfl); (case hd => exact nd_law__law_interrupts_here.1); (case hcd => exact nd_law__law_interrupts_here.2))
    | ((with_reducible refine' xe_name (x := "_law_operation") (i := 4) ?hN ?hv ?he ?hq ?hd ?hcd); (case hN => exact rfl); (case hv => first | exact Loc.vis v_law__law_operation | exact Or.inl rfl | exact Or.inr (Or.inl rfl) | exact Or.inr (Or.inr rfl)); (case he => exact rfl); (case hd => exact nd_law__law_operation.1); (case hcd => exact nd_law__law_operation.2))
    | ((with_reducible refine' xe_name (x := "_law_program") (i := 5) ?hN ?hv ?he ?hq ?hd ?hcd); (case hN => exact rfl); (case hv => first | exact Loc.vis v_law__law_program | exact Or.inl rfl | exact Or.inr (Or.inl rfl) | exact Or.inr (Or.inr rfl)); (case he => exact rfl); (case hd => exact nd_law__law_program.1); (case hcd => exact nd_law__law_program.2))
    | ((with_reducible refine' xe_name (x := "_law_actual") (i := 6) ?hN ?hv ?he ?hq ?hd ?hcd); (case hN => exact rfl); (case hv => first | exact Loc.vis v_law__law_actual | exact Or.inl rfl | exact Or.inr (Or.inl rfl) | exact Or.inr (Or.inr rfl)); (case he => exact rfl); (case hd => exact nd_law__law_actual.1); (case hcd => exact nd_law__law_actual.2))
    | ((with_reducible refine' xe_name (x := "_law_level") (i := 7) ?hN ?hv ?he ?hq ?hd ?hcd); (case hN => exact rfl); (case hv => first | exact Loc.vis v_law__law_level | exact Or.inl rfl | exact Or.inr (Or.inl rfl) | exact Or.inr (Or.inr rfl)); (case he => exact rfl); (case hd => exact nd_law__law_level.1); (case hcd => exact nd_law__law_level.2))
    | ((with_reducible refine' xe_name (x := "_law_many") (i := 8) ?hN ?hv ?he ?hq ?hd ?hcd); (case hN => exact rfl); (case hv => first | exact Loc.vis v_law__law_many | exact Or.inl rfl | exact Or.inr (Or.inl rfl) | exact Or.inr (Or.inr rfl)); (case he => exact rfl); (case hd => exact nd_law__law_many.1); (case hcd => exact nd_law__law_many.2))
    | ((with_reducible refine' xe_name (x := "_law_k") (i := 9) ?hN ?hv ?he ?hq ?hd ?hcd); (case hN => exact rfl); (case hv => first | exact Loc.vis v_law__law_k | exact Or.inl rfl | exact Or.inr (Or.inl rfl) | exact Or.inr (Or.inr rfl)); (case he => exact rfl); (case hd => exact nd_law__law_k.1); (case hcd => exact nd_law__law_k.2))
    | ((with_reducible refine' xe_name (x := "_law_j") (i := 10) ?hN ?hv ?he ?hq ?hd ?hcd); (case hN => exact rfl); (case hv => first | exact Loc.vis v_law__law_j | exact Or.inl rfl | exact Or.inr (Or.inl rfl) | exact Or.inr (Or.inr rfl)); (case he => exact rfl); (case hd => exact nd_law__law_j.1); (case hcd => exact nd_law__law_j.2))
    | ((with_reducible refine' xe_name (x := "_law_later_is_lower") (i := 11) ?hN ?hv ?he ?hq ?hd ?hcd); (case hN => exact rfl); (case hv => first | exact Loc.vis v_law__law_later_is_lower | exact Or.inl rfl | exact Or.inr (Or.inl rfl) | exact Or.inr (Or.inr rfl)); (case he => exact rfl); (case hd => exact nd_law__law_later_is_lower.1); (case hcd => exact nd_law__law_later_is_lower.2))
    | ((with_reducible refine' xe_name (x := "_law_routines") (i := 12) ?hN ?hv ?he ?hq ?hd ?hcd); (case hN => exact rfl); (case hv => first | exact Loc.vis v_law__law_routines | exact Or.inl rfl | exact Or.inr (Or.inl rfl) | exact Or.inr (Or.inr rfl)); (case he => exact rfl); (case hd => exact nd_law__law_routines.1); (case hcd => exact nd_law__law_routines.2))
    | ((with_reducible refine' xe_name (x := "_law_due") (i := 13) ?hN ?hv ?he ?hq ?hd ?hcd); (case hN => exact rfl); (case hv => first | exact Loc.vis v_law__law_due | exact Or.inl rfl | exact Or.inr (Or.inl rfl) | exact Or.inr (Or.inr rfl)); (case he => exact rfl); (case hd => exact nd_law__law_due.1); (case hcd => exact nd_law__law_due.2))
    | ((with_reducible refine' xe_ty (x := "list") (n := "list") ?hv ?hm ?hg ?hq ?hn ?hd); (case hv => decide +kernel); (case hm => exact Txt.b_list (by assumption)); (case hg => first | exact g_law_list | exact rfl); (case hn => decide +kernel); (case hd => decide +kernel))
    | ((with_reducible refine' xe_ty (x := "int") (n := "int") ?hv ?hm ?hg ?hq ?hn ?hd); (case hv => decide +kernel); (case hm => exact Txt.b_int (by assumption)); (case hg => first | exact g_law_int | exact rfl); (case hn => decide +kernel); (case hd => decide +kernel))
    | ((with_reducible refine' xe_ty (x := "bool") (n := "bool") ?hv ?hm ?hg ?hq ?hn ?hd); (case hv => decide +kernel); (case hm => exact Txt.b_bool (by assumption)); (case hg => first | exact g_law_bool | exact rfl); (case hn => decide +kernel); (case hd => decide +kernel)))
  | ((with_reducible show XE _ (.Call (.Name _ _) _ _ _) _ _ _); first
    | ((with_reducible refine' xe_callF0 (x := "_law_state") ?hC ?hr ?hg ?hq ?hd ?he ?hp); (case hC => assumption); (case hr => exact Room.mono (by assumption) (by decide)); (case hg => first | exact g_law__law_state | exact rfl); (case hd => decide +kernel); (case he => exact rfl); (case hp => exact rfl))
    | ((with_reducible refine' xe_callS (x := "_law_tasks") ?hC ?hr ?hg ?hq ?hd ?he ?hp); (case hC => assumption); (case hr => exact Room.mono (by assumption) (by decide)); (case hg => first | exact g_law__law_tasks | exact rfl); (case hd => decide +kernel); (case he => exact rfl); (case hp => exact rfl))
    | ((with_reducible refine' xe_callS (x := "_law_interrupts") ?hC ?hr ?hg ?hq ?hd ?he ?hp); (case hC => assumption); (case hr => exact Room.mono (by assumption) (by decide)); (case hg => first | exact g_law__law_interrupts | exact rfl); (case hd => decide +kernel); (case he => exact rfl); (case hp => exact rfl))
    | ((with_reducible refine' xe_callTy (x := "list") (id := "list") ?hv ?hm ?hg ?hq ?hn ?hd ?he ?hp); (case hv => decide +kernel); (case hm => exact Txt.b_list (by assumption)); (case hg => first | exact g_law_list | exact rfl); (case hn => decide +kernel); (case hd => decide +kernel); (case he => exact rfl); (case hp => exact rfl))
    | ((with_reducible refine' xe_callP (x := "numbers") ?hC ?hr ?hg ?hq ?hd ?he ?hp); (case hC => assumption); (case hr => exact Room.mono (by assumption) (by decide)); (case hg => first | exact g_law_numbers | exact rfl); (case hd => decide +kernel); (case he => exact rfl); (case hp => exact rfl))
    | ((with_reducible refine' xe_callB (x := "isinstance") (id := "isinstance") ?hv ?hm ?hg ?hq ?hn ?hd ?he ?hp); (case hv => decide +kernel); (case hm => exact Txt.b_isinstance (by assumption)); (case hg => first | exact g_law_isinstance | exact rfl); (case hn => decide +kernel); (case hd => decide +kernel); (case he => exact rfl); (case hp => exact rfl))
    | ((with_reducible refine' xe_callB (x := "len") (id := "len") ?hv ?hm ?hg ?hq ?hn ?hd ?he ?hp); (case hv => decide +kernel); (case hm => exact Txt.b_len (by assumption)); (case hg => first | exact g_law_len | exact rfl); (case hn => decide +kernel); (case hd => decide +kernel); (case he => exact rfl); (case hp => exact rfl))
    | ((with_reducible refine' xe_callTy (x := "int") (id := "int") ?hv ?hm ?hg ?hq ?hn ?hd ?he ?hp); (case hv => decide +kernel); (case hm => exact Txt.b_int (by assumption)); (case hg => first | exact g_law_int | exact rfl); (case hn => decide +kernel); (case hd => decide +kernel); (case he => exact rfl); (case hp => exact rfl))
    | ((with_reducible refine' xe_callTy (x := "bool") (id := "bool") ?hv ?hm ?hg ?hq ?hn ?hd ?he ?hp); (case hv => decide +kernel); (case hm => exact Txt.b_bool (by assumption)); (case hg => first | exact g_law_bool | exact rfl); (case hn => decide +kernel); (case hd => decide +kernel); (case he => exact rfl); (case hp => exact rfl))
    | ((with_reducible refine' xe_callB (x := "sorted") (id := "sorted") ?hv ?hm ?hg ?hq ?hn ?hd ?he ?hp); (case hv => decide +kernel); (case hm => exact Txt.b_sorted (by assumption)); (case hg => first | exact g_law_sorted | exact rfl); (case hn => decide +kernel); (case hd => decide +kernel); (case he => exact rfl); (case hp => exact rfl))
    | ((with_reducible refine' xe_callP (x := "owner") ?hC ?hr ?hg ?hq ?hd ?he ?hp); (case hC => assumption); (case hr => exact Room.mono (by assumption) (by decide)); (case hg => first | exact g_law_owner | exact rfl); (case hd => decide +kernel); (case he => exact rfl); (case hp => exact rfl)))
  | ((with_reducible show X1 _ (.Assign [.Name _ _] _ _) _ _ _); first
    | ((with_reducible refine' x1_set (x := "_law_script") (i := 0) ?hN ?hi ?hx ?hq ?hs ?hf); (case hN => exact sc_law.nd); (case hi => exact rfl); (case hx => exact v_law__law_script); (case hs => exact rfl); (case hf => exact .inl rfl))
    | ((with_reducible refine' x1_set (x := "_law_state_here") (i := 1) ?hN ?hi ?hx ?hq ?hs ?hf); (case hN => exact sc_law.nd); (case hi => exact rfl); (case hx => exact v_law__law_state_here); (case hs => exact rfl); (case hf => exact .inl rfl))
    | ((with_reducible refine' x1_set (x := "_law_tasks_here") (i := 2) ?hN ?hi ?hx ?hq ?hs ?hf); (case hN => exact sc_law.nd); (case hi => exact rfl); (case hx => exact v_law__law_tasks_here); (case hs => exact rfl); (case hf => exact .inl rfl))
    | ((with_reducible refine' x1_set (x := "_law_interrupts_here") (i := 3) ?hN ?hi ?hx ?hq ?hs ?hf); (case hN => exact sc_law.nd); (case hi => exact rfl); (case hx => exact v_law__law_interrupts_here); (case hs => exact rfl); (case hf => exact .inl rfl))
    | ((with_reducible refine' x1_set (x := "_law_operation") (i := 4) ?hN ?hi ?hx ?hq ?hs ?hf); (case hN => exact sc_law.nd); (case hi => exact rfl); (case hx => exact v_law__law_operation); (case hs => exact rfl); (case hf => exact .inl rfl))
    | ((with_reducible refine' x1_set (x := "_law_program") (i := 5) ?hN ?hi ?hx ?hq ?hs ?hf); (case hN => exact sc_law.nd); (case hi => exact rfl); (case hx => exact v_law__law_program); (case hs => exact rfl); (case hf => exact .inl rfl))
    | ((with_reducible refine' x1_set (x := "_law_actual") (i := 6) ?hN ?hi ?hx ?hq ?hs ?hf); (case hN => exact sc_law.nd); (case hi => exact rfl); (case hx => exact v_law__law_actual); (case hs => exact rfl); (case hf => exact .inl rfl))
    | ((with_reducible refine' x1_set (x := "_law_level") (i := 7) ?hN ?hi ?hx ?hq ?hs ?hf); (case hN => exact sc_law.nd); (case hi => exact rfl); (case hx => exact v_law__law_level); (case hs => exact rfl); (case hf => exact .inl rfl))
    | ((with_reducible refine' x1_set (x := "_law_many") (i := 8) ?hN ?hi ?hx ?hq ?hs ?hf); (case hN => exact sc_law.nd); (case hi => exact rfl); (case hx => exact v_law__law_many); (case hs => exact rfl); (case hf => exact .inl rfl))
    | ((with_reducible refine' x1_set (x := "_law_k") (i := 9) ?hN ?hi ?hx ?hq ?hs ?hf); (case hN => exact sc_law.nd); (case hi => exact rfl); (case hx => exact v_law__law_k); (case hs => exact rfl); (case hf => exact .inl rfl))
    | ((with_reducible refine' x1_set (x := "_law_j") (i := 10) ?hN ?hi ?hx ?hq ?hs ?hf); (case hN => exact sc_law.nd); (case hi => exact rfl); (case hx => exact v_law__law_j); (case hs => exact rfl); (case hf => exact .inl rfl))
    | ((with_reducible refine' x1_set (x := "_law_later_is_lower") (i := 11) ?hN ?hi ?hx ?hq ?hs ?hf); (case hN => exact sc_law.nd); (case hi => exact rfl); (case hx => exact v_law__law_later_is_lower); (case hs => exact rfl); (case hf => exact .inl rfl))
    | ((with_reducible refine' x1_set (x := "_law_routines") (i := 12) ?hN ?hi ?hx ?hq ?hs ?hf); (case hN => exact sc_law.nd); (case hi => exact rfl); (case hx => exact v_law__law_routines); (case hs => exact rfl); (case hf => exact .inl rfl))
    | ((with_reducible refine' x1_set (x := "_law_due") (i := 13) ?hN ?hi ?hx ?hq ?hs ?hf); (case hN => exact sc_law.nd); (case hi => exact rfl); (case hx => exact v_law__law_due); (case hs => exact rfl); (case hf => exact .inl rfl)))
  | ((with_reducible show XG _ (.Name _ _) _ _ _ _); first
    | ((with_reducible refine' xg_name (x := "_law_script") (i := 0) ?hN ?hi ?hx ?hq ?hf); (case hN => exact sc_law.nd); (case hi => exact rfl); (case hx => exact v_law__law_script); (case hf => exact .inl rfl))
    | ((with_reducible refine' xg_name (x := "_law_state_here") (i := 1) ?hN ?hi ?hx ?hq ?hf); (case hN => exact sc_law.nd); (case hi => exact rfl); (case hx => exact v_law__law_state_here); (case hf => exact .inl rfl))
    | ((with_reducible refine' xg_name (x := "_law_tasks_here") (i := 2) ?hN ?hi ?hx ?hq ?hf); (case hN => exact sc_law.nd); (case hi => exact rfl); (case hx => exact v_law__law_tasks_here); (case hf => exact .inl rfl))
    | ((with_reducible refine' xg_name (x := "_law_interrupts_here") (i := 3) ?hN ?hi ?hx ?hq ?hf); (case hN => exact sc_law.nd); (case hi => exact rfl); (case hx => exact v_law__law_interrupts_here); (case hf => exact .inl rfl))
    | ((with_reducible refine' xg_name (x := "_law_operation") (i := 4) ?hN ?hi ?hx ?hq ?hf); (case hN => exact sc_law.nd); (case hi => exact rfl); (case hx => exact v_law__law_operation); (case hf => exact .inl rfl))
    | ((with_reducible refine' xg_name (x := "_law_program") (i := 5) ?hN ?hi ?hx ?hq ?hf); (case hN => exact sc_law.nd); (case hi => exact rfl); (case hx => exact v_law__law_program); (case hf => exact .inl rfl))
    | ((with_reducible refine' xg_name (x := "_law_actual") (i := 6) ?hN ?hi ?hx ?hq ?hf); (case hN => exact sc_law.nd); (case hi => exact rfl); (case hx => exact v_law__law_actual); (case hf => exact .inl rfl))
    | ((with_reducible refine' xg_name (x := "_law_level") (i := 7) ?hN ?hi ?hx ?hq ?hf); (case hN => exact sc_law.nd); (case hi => exact rfl); (case hx => exact v_law__law_level); (case hf => exact .inl rfl))
    | ((with_reducible refine' xg_name (x := "_law_many") (i := 8) ?hN ?hi ?hx ?hq ?hf); (case hN => exact sc_law.nd); (case hi => exact rfl); (case hx => exact v_law__law_many); (case hf => exact .inl rfl))
    | ((with_reducible refine' xg_name (x := "_law_k") (i := 9) ?hN ?hi ?hx ?hq ?hf); (case hN => exact sc_law.nd); (case hi => exact rfl); (case hx => exact v_law__law_k); (case hf => exact .inl rfl))
    | ((with_reducible refine' xg_name (x := "_law_j") (i := 10) ?hN ?hi ?hx ?hq ?hf); (case hN => exact sc_law.nd); (case hi => exact rfl); (case hx => exact v_law__law_j); (case hf => exact .inl rfl))
    | ((with_reducible refine' xg_name (x := "_law_later_is_lower") (i := 11) ?hN ?hi ?hx ?hq ?hf); (case hN => exact sc_law.nd); (case hi => exact rfl); (case hx => exact v_law__law_later_is_lower); (case hf => exact .inl rfl))
    | ((with_reducible refine' xg_name (x := "_law_routines") (i := 12) ?hN ?hi ?hx ?hq ?hf); (case hN => exact sc_law.nd); (case hi => exact rfl); (case hx => exact v_law__law_routines); (case hf => exact .inl rfl))
    | ((with_reducible refine' xg_name (x := "_law_due") (i := 13) ?hN ?hi ?hx ?hq ?hf); (case hN => exact sc_law.nd); (case hi => exact rfl); (case hx => exact v_law__law_due); (case hf => exact .inl rfl)))
  | ((with_reducible show XI _ _ _ _ _ _); first
    | ((with_reducible refine' xi_range1 ?hg ?hm ?hq ?hs); (case hg => first | exact g_law_range | exact rfl); (case hm => exact Txt.b_range (by assumption)); (case hs => exact rfl))
    | ((with_reducible refine' xi_range2 ?hg ?hm ?hq ?hs ?hs2); (case hg => first | exact g_law_range | exact rfl); (case hm => exact Txt.b_range (by assumption)); (case hs => exact rfl); (case hs2 => exact rfl))
    | with_reducible refine xi_list ?_)
  | walk_at "dx"
  | ((with_reducible refine' ⟨?ha, ?hb, ?hq2⟩); (case ha => exact rfl); (case hb => exact rfl))
  | first | ((with_reducible refine' ⟨_, [], _, [], ?hD, rfl, rfl, rfl, ?hq2⟩); (case hD => assumption)) | ((with_reducible refine' ⟨_, [_], _, [], ?hD, rfl, rfl, rfl, ?hq2⟩); (case hD => assumption)) | ((with_reducible refine' ⟨_, [_, _], _, [], ?hD, rfl, rfl, rfl, ?hq2⟩); (case hD => assumption)) | ((with_reducible refine' ⟨_, [_, _, _], _, [], ?hD, rfl, rfl, rfl, ?hq2⟩); (case hD => assumption)) | ((with_reducible refine' ⟨_, [_, _, _, _], _, [], ?hD, rfl, rfl, rfl, ?hq2⟩); (case hD => assumption))
  | walk_at "hook")
local macro_rules | `(tactic| walk_at "lcO law") => `(tactic| first
    | ((with_reducible refine' xe_lcO (x := "_law_k") (own := [("_law_k", 9)]) (i := 9) ?hc ?hN ?ok ?hi ?hm ?hx ?hq ?hs); (case hc => exact rfl); (case hN => exact sc_law.nd); (case ok => exact blkOk_by (N := N_law) (sc := defScope s_law) (by decide +kernel)); (case hi => exact rfl); (case hm => decide); (case hx => exact fun _ _ => rfl); (case hs => exact fun _ => rfl))
    | ((with_reducible refine' x1_setLcO (x := "_law_k") (own := [("_law_k", 9)]) (i := 9) (y := "_law_script") (iy := 0) ?hc ?hN ?ok ?hi ?hm ?hx ?hy ?hyl ?hsw ?hq ?hs); (case hc => exact rfl); (case hN => exact sc_law.nd); (case ok => exact blkOk_by (N := N_law) (sc := defScope s_law) (by decide +kernel)); (case hi => exact rfl); (case hm => decide); (case hx => exact fun _ _ => rfl); (case hy => exact rfl); (case hyl => exact rfl); (case hsw => exact sw_true rfl rfl rfl (by decide +kernel)); (case hs => exact fun _ => rfl))
    | ((with_reducible refine' x1_setLcO (x := "_law_k") (own := [("_law_k", 9)]) (i := 9) (y := "_law_state_here") (iy := 1) ?hc ?hN ?ok ?hi ?hm ?hx ?hy ?hyl ?hsw ?hq ?hs); (case hc => exact rfl); (case hN => exact sc_law.nd); (case ok => exact blkOk_by (N := N_law) (sc := defScope s_law) (by decide +kernel)); (case hi => exact rfl); (case hm => decide); (case hx => exact fun _ _ => rfl); (case hy => exact rfl); (case hyl => exact rfl); (case hsw => exact sw_true rfl rfl rfl (by decide +kernel)); (case hs => exact fun _ => rfl))
    | ((with_reducible refine' x1_setLcO (x := "_law_k") (own := [("_law_k", 9)]) (i := 9) (y := "_law_tasks_here") (iy := 2) ?hc ?hN ?ok ?hi ?hm ?hx ?hy ?hyl ?hsw ?hq ?hs); (case hc => exact rfl); (case hN => exact sc_law.nd); (case ok => exact blkOk_by (N := N_law) (sc := defScope s_law) (by decide +kernel)); (case hi => exact rfl); (case hm => decide); (case hx => exact fun _ _ => rfl); (case hy => exact rfl); (case hyl => exact rfl); (case hsw => exact sw_true rfl rfl rfl (by decide +kernel)); (case hs => exact fun _ => rfl))
    | ((with_reducible refine' x1_setLcO (x := "_law_k") (own := [("_law_k", 9)]) (i := 9) (y := "_law_interrupts_here") (iy := 3) ?hc ?hN ?ok ?hi ?hm ?hx ?hy ?hyl ?hsw ?hq ?hs); (case hc => exact rfl); (case hN => exact sc_law.nd); (case ok => exact blkOk_by (N := N_law) (sc := defScope s_law) (by decide +kernel)); (case hi => exact rfl); (case hm => decide); (case hx => exact fun _ _ => rfl); (case hy => exact rfl); (case hyl => exact rfl); (case hsw => exact sw_true rfl rfl rfl (by decide +kernel)); (case hs => exact fun _ => rfl))
    | ((with_reducible refine' x1_setLcO (x := "_law_k") (own := [("_law_k", 9)]) (i := 9) (y := "_law_operation") (iy := 4) ?hc ?hN ?ok ?hi ?hm ?hx ?hy ?hyl ?hsw ?hq ?hs); (case hc => exact rfl); (case hN => exact sc_law.nd); (case ok => exact blkOk_by (N := N_law) (sc := defScope s_law) (by decide +kernel)); (case hi => exact rfl); (case hm => decide); (case hx => exact fun _ _ => rfl); (case hy => exact rfl); (case hyl => exact rfl); (case hsw => exact sw_true rfl rfl rfl (by decide +kernel)); (case hs => exact fun _ => rfl))
    | ((with_reducible refine' x1_setLcO (x := "_law_k") (own := [("_law_k", 9)]) (i := 9) (y := "_law_program") (iy := 5) ?hc ?hN ?ok ?hi ?hm ?hx ?hy ?hyl ?hsw ?hq ?hs); (case hc => exact rfl); (case hN => exact sc_law.nd); (case ok => exact blkOk_by (N := N_law) (sc := defScope s_law) (by decide +kernel)); (case hi => exact rfl); (case hm => decide); (case hx => exact fun _ _ => rfl); (case hy => exact rfl); (case hyl => exact rfl); (case hsw => exact sw_true rfl rfl rfl (by decide +kernel)); (case hs => exact fun _ => rfl))
    | ((with_reducible refine' x1_setLcO (x := "_law_k") (own := [("_law_k", 9)]) (i := 9) (y := "_law_actual") (iy := 6) ?hc ?hN ?ok ?hi ?hm ?hx ?hy ?hyl ?hsw ?hq ?hs); (case hc => exact rfl); (case hN => exact sc_law.nd); (case ok => exact blkOk_by (N := N_law) (sc := defScope s_law) (by decide +kernel)); (case hi => exact rfl); (case hm => decide); (case hx => exact fun _ _ => rfl); (case hy => exact rfl); (case hyl => exact rfl); (case hsw => exact sw_true rfl rfl rfl (by decide +kernel)); (case hs => exact fun _ => rfl))
    | ((with_reducible refine' x1_setLcO (x := "_law_k") (own := [("_law_k", 9)]) (i := 9) (y := "_law_level") (iy := 7) ?hc ?hN ?ok ?hi ?hm ?hx ?hy ?hyl ?hsw ?hq ?hs); (case hc => exact rfl); (case hN => exact sc_law.nd); (case ok => exact blkOk_by (N := N_law) (sc := defScope s_law) (by decide +kernel)); (case hi => exact rfl); (case hm => decide); (case hx => exact fun _ _ => rfl); (case hy => exact rfl); (case hyl => exact rfl); (case hsw => exact sw_true rfl rfl rfl (by decide +kernel)); (case hs => exact fun _ => rfl))
    | ((with_reducible refine' x1_setLcO (x := "_law_k") (own := [("_law_k", 9)]) (i := 9) (y := "_law_many") (iy := 8) ?hc ?hN ?ok ?hi ?hm ?hx ?hy ?hyl ?hsw ?hq ?hs); (case hc => exact rfl); (case hN => exact sc_law.nd); (case ok => exact blkOk_by (N := N_law) (sc := defScope s_law) (by decide +kernel)); (case hi => exact rfl); (case hm => decide); (case hx => exact fun _ _ => rfl); (case hy => exact rfl); (case hyl => exact rfl); (case hsw => exact sw_true rfl rfl rfl (by decide +kernel)); (case hs => exact fun _ => rfl))
    | ((with_reducible refine' x1_setLcO (x := "_law_k") (own := [("_law_k", 9)]) (i := 9) (y := "_law_k") (iy := 9) ?hc ?hN ?ok ?hi ?hm ?hx ?hy ?hyl ?hsw ?hq ?hs); (case hc => exact rfl); (case hN => exact sc_law.nd); (case ok => exact blkOk_by (N := N_law) (sc := defScope s_law) (by decide +kernel)); (case hi => exact rfl); (case hm => decide); (case hx => exact fun _ _ => rfl); (case hy => exact rfl); (case hyl => exact rfl); (case hsw => exact sw_true rfl rfl rfl (by decide +kernel)); (case hs => exact fun _ => rfl))
    | ((with_reducible refine' x1_setLcO (x := "_law_k") (own := [("_law_k", 9)]) (i := 9) (y := "_law_j") (iy := 10) ?hc ?hN ?ok ?hi ?hm ?hx ?hy ?hyl ?hsw ?hq ?hs); (case hc => exact rfl); (case hN => exact sc_law.nd); (case ok => exact blkOk_by (N := N_law) (sc := defScope s_law) (by decide +kernel)); (case hi => exact rfl); (case hm => decide); (case hx => exact fun _ _ => rfl); (case hy => exact rfl); (case hyl => exact rfl); (case hsw => exact sw_true rfl rfl rfl (by decide +kernel)); (case hs => exact fun _ => rfl))
    | ((with_reducible refine' x1_setLcO (x := "_law_k") (own := [("_law_k", 9)]) (i := 9) (y := "_law_later_is_lower") (iy := 11) ?hc ?hN ?ok ?hi ?hm ?hx ?hy ?hyl ?hsw ?hq ?hs); (case hc => exact rfl); (case hN => exact sc_law.nd); (case ok => exact blkOk_by (N := N_law) (sc := defScope s_law) (by decide +kernel)); (case hi => exact rfl); (case hm => decide); (case hx => exact fun _ _ => rfl); (case hy => exact rfl); (case hyl => exact rfl); (case hsw => exact sw_true rfl rfl rfl (by decide +kernel)); (case hs => exact fun _ => rfl))
    | ((with_reducible refine' x1_setLcO (x := "_law_k") (own := [("_law_k", 9)]) (i := 9) (y := "_law_routines") (iy := 12) ?hc ?hN ?ok ?hi ?hm ?hx ?hy ?hyl ?hsw ?hq ?hs); (case hc => exact rfl); (case hN => exact sc_law.nd); (case ok => exact blkOk_by (N := N_law) (sc := defScope s_law) (by decide +kernel)); (case hi => exact rfl); (case hm => decide); (case hx => exact fun _ _ => rfl); (case hy => exact rfl); (case hyl => exact rfl); (case hsw => exact sw_true rfl rfl rfl (by decide +kernel)); (case hs => exact fun _ => rfl))
    | ((with_reducible refine' x1_setLcO (x := "_law_k") (own := [("_law_k", 9)]) (i := 9) (y := "_law_due") (iy := 13) ?hc ?hN ?ok ?hi ?hm ?hx ?hy ?hyl ?hsw ?hq ?hs); (case hc => exact rfl); (case hN => exact sc_law.nd); (case ok => exact blkOk_by (N := N_law) (sc := defScope s_law) (by decide +kernel)); (case hi => exact rfl); (case hm => decide); (case hx => exact fun _ _ => rfl); (case hy => exact rfl); (case hyl => exact rfl); (case hsw => exact sw_true rfl rfl rfl (by decide +kernel)); (case hs => exact fun _ => rfl)))
local macro_rules | `(tactic| walk_at "go law") => `(tactic| first | ((walk_at "go1 law"); (all_goals walk_at "go law")) | skip)
section
variable {P : Program} {w : World} {K : PySem.W.Frag} {mg : Str → Option Value} {base : Heap}
section IfsOn
local macro_rules | `(tactic| walk_at "ifs") => `(tactic| with_reducible refine xs_cons ?_)
/-! the drawing state: a list of cells in a list -/
def DSa : Addr → Os → Prop := fun p os => ∃ (c : Addr) (sd : Int) (ns : List Int), os = [(p, OO.lst [.ref c, wI sd]), (c, OO.lst (ns.map wI))]
def S_state : List W → Os → (W → Os → Prop) → Prop := fun ws os k => ∃ ns : List Int, ws = [wL (ns.map D.int)] ∧ os = [] ∧ ns.length ≤ 63 ∧ ∀ p of, DSa p of → k (.ref p) of
def B_draw : List D → (D → Prop) → Prop := fun ds k => ∃ m, ds = [.int m] ∧ (0 < m ∧ m < 1000000000000000000) ∧ ∀ v, 0 ≤ v → v < m → k (.int v)
theorem ok__law_state {f : Addr} {fd : FuncData} (F : Fun K "_law_state" "_law_state" s__law_state f fd) (T : Txt K mg) : FnOk P w K mg base CX0 1 f fd ["_law_script"] (spF K 1 S_state) := by
  refine okF F sc__law_state rfl fun cdv A outer s H E hr ws os k0 hl hp env he => ?_
  obtain ⟨ns, rfl, rfl, hlen, hk⟩ := hp
  subst he
  refine xs_cons ?_
  walk_at "go _law_state"
  refine xfor_inv (fun i en o => ∃ (sd : Int) (x : Option W), en = [some (wL (ns.map D.int)), some (wI sd), x] ∧ o = []) ⟨7, none, rfl, rfl⟩ ?_ ?_
  · rintro i w en o hi ⟨sd, x, rfl, rfl⟩
    obtain ⟨n, rfl⟩ : ∃ n : Int, w = wI n := ints_at hi
    walk_at "go _law_state"
  · rintro en o ⟨sd, x, rfl, rfl⟩
    refine xs_one (x1_ret (xe_lstO (xa_cons ?_)))
    walk_at "lcO _law_state"
    walk_at "go _law_state"
    try refine ⟨by rw [List.length_map, List.length_map]; exact Nat.le_of_lt (small1000 (by omega)), ?_⟩
    refine xlc_inv (fun i acc o => o = [] ∧ ∃ ms : List Int, acc = ms.map D.int) ⟨rfl, [], rfl⟩ ?_ ?_
    · rintro j w acc os hj ⟨rfl, ms, rfl⟩ s1 H1 C cl fp
      obtain ⟨n, rfl⟩ : ∃ n : Int, w = wI n := ints_at hj
      refine xts_nil ⟨fun _ s1 H1 C cl fp => ?_, fun h => by cases h⟩
      walk_at "go _law_state"
      exact ⟨ms ++ [if n < 0 then -n else n], by simp⟩
    · rintro acc os ⟨rfl, ms, rfl⟩ q
      walk_at "go _law_state"
      refine .inl ⟨_, List.Sublist.refl _, hk _ _ ⟨q, sd + 1, ms, ?_⟩⟩
      rw [List.map_map]
      rfl
theorem ok__law_draw {f : Addr} {fd : FuncData} (F : Fun K "_law_draw" "_law_draw" s__law_draw f fd) (T : Txt K mg) : FnOk P w K mg base CX0 1 f fd ["_law_state_here", "_law_many"] (spS K 2 DSa B_draw) := by
  refine okS F sc__law_draw rfl fun cdv A outer s H E hr p of ds k0 hl hD hp env he => ?_
  obtain ⟨c, sd, cs, rfl⟩ := hD
  obtain ⟨m, rfl, ⟨hm0, hm1⟩, hk⟩ := hp
  subst he
  refine xs_cons ?_
  walk_at "go _law_draw"
  refine x1_while (fun n en o => ∃ cs : List Int, n = cs.length ∧ en = [some (.ref p), some (wI m), some (.ref c), none, none] ∧ o = [(p, OO.lst [.ref c, wI sd]), (c, OO.lst (cs.map wI))]) cs.length ⟨cs, rfl, rfl, rfl⟩ ?_ PassesOwn.never
  rintro n en o ⟨cs, rfl, rfl, rfl⟩
  walk_at "go _law_draw"
  · rcases cs with _ | ⟨c0, cs⟩
    · rename_i h; simp at h
    refine xix_own (n := 1) rfl (atI_nat (j := 0) rfl) ?_
    walk_at "go _law_draw"
    · have e : seqIndex? 0 (List.map wI (c0 :: cs)).length = some 0 := by simp [seqIndex?]
      refine ⟨1, _, 0, 0, _, rfl, rfl, by decide, by decide, e, rfl, ?_⟩
      exact ⟨cs.length, by simp, cs, rfl, rfl, rfl⟩
    · refine xix_own (n := 1) rfl (atI_nat (j := 0) rfl) ?_
      walk_at "go _law_draw"
      refine ⟨_, 1, _, 0, 0, rfl, rfl, rfl, by simp [ixN], ?_⟩
      walk_at "go _law_draw"
      exact .inl ⟨_, _, rfl, List.Sublist.refl _, hk _ (Int.emod_nonneg _ (by omega)) (Int.emod_lt_of_pos _ (by omega)) _ ⟨c, _, (c0 / m) :: cs, rfl⟩⟩
  · exact .inl ⟨_, _, rfl, List.Sublist.refl _, hk _ (Int.emod_nonneg _ (by omega)) (Int.emod_lt_of_pos _ (by omega)) _ ⟨c, _, cs, rfl⟩⟩

/-! the pure law of k42: ranks by falling deadline, later ones first -/
abbrev TK := Str × Int × Int
def keyT (t : TK) (i : Nat) : Int × Int := (-t.2.2, -(i : Int))
def keysF : List TK → Nat → List (Int × Int)
  | [], _ => []
  | t :: ts, i => keyT t i :: keysF ts (i + 1)
def ltPr (p q : Int × Int) : Bool := decide (p.1 < q.1 ∨ (p.1 = q.1 ∧ p.2 < q.2))
def rkF (ps : List (Int × Int)) (p : Int × Int) : Int := 1 + (ps.countP fun q => ltPr q p : Nat)
def numF (ts : List TK) : List Int := (keysF ts 0).map (rkF (keysF ts 0))
theorem keysF_len : ∀ (ts : List TK) (i : Nat), (keysF ts i).length = ts.length
  | [], _ => rfl
  | _ :: ts, i => congrArg (· + 1) (keysF_len ts (i + 1))
theorem keysF_get : ∀ (ts : List TK) (i j : Nat), (keysF ts i)[j]? = (ts[j]?).map fun t => keyT t (i + j)
  | [], _, _ => rfl
  | t :: ts, i, 0 => rfl
  | t :: ts, i, j + 1 => by
    show (keysF ts (i + 1))[j]? = (ts[j]?).map fun t => keyT t (i + (j + 1))
    rw [keysF_get ts (i + 1) j]
    have e : i + 1 + j = i + (j + 1) := by omega
    rw [e]
theorem keysF_app : ∀ (ts us : List TK) (i : Nat), keysF (ts ++ us) i = keysF ts i ++ keysF us (i + ts.length)
  | [], us, i => rfl
  | t :: ts, us, i => by
    show keyT t i :: keysF (ts ++ us) (i + 1) = keyT t i :: (keysF ts (i + 1) ++ keysF us (i + (ts.length + 1)))
    rw [keysF_app ts us (i + 1)]
    have e : i + 1 + ts.length = i + (ts.length + 1) := by omega
    rw [e]
theorem keysF_ge {ts : List TK} {i : Nat} {p : Int × Int} (h : p ∈ keysF ts i) : p.2 ≤ -(i : Int) := by
  obtain ⟨j, hj⟩ := List.getElem?_of_mem h
  rw [keysF_get] at hj
  obtain ⟨t, _, rfl⟩ := Option.map_eq_some_iff.mp hj
  show -((i + j : Nat) : Int) ≤ _
  omega
theorem keysF_nodup : ∀ (ts : List TK) (i : Nat), (keysF ts i).Nodup
  | [], _ => List.nodup_nil
  | t :: ts, i => by
    refine List.nodup_cons.mpr ⟨fun h => ?_, keysF_nodup ts (i + 1)⟩
    have := keysF_ge h
    have e : (keyT t i).2 = -(i : Int) := rfl
    omega
theorem numF_len (ts : List TK) : (numF ts).length = ts.length := by rw [numF, List.length_map, keysF_len]
theorem count_all {qs : List (Int × Int)} {p : Int × Int} (h : ∀ q ∈ qs, ltPr q p = true) : qs.countP (fun q => ltPr q p) = qs.length := List.countP_eq_length.mpr h
theorem count_none {qs : List (Int × Int)} {p : Int × Int} (h : ∀ q ∈ qs, ltPr q p = false) : qs.countP (fun q => ltPr q p) = 0 := List.countP_eq_zero.mpr fun q hq e => by rw [h q hq] at e; cases e
theorem ltPr_irr (p : Int × Int) : ltPr p p = false := by unfold ltPr; simp
theorem ltPr_asym {p q : Int × Int} (h : ltPr p q = true) : ltPr q p = false := by
  unfold ltPr at h ⊢
  rw [decide_eq_true_iff] at h
  rw [decide_eq_false_iff_not]
  omega
theorem strict_count {l : List (Int × Int)} : l.Pairwise (fun p q => ltPr p q = true) → ∀ {r : Nat} {p : Int × Int}, l[r]? = some p → l.countP (fun q => ltPr q p) = r := by
  induction l with
  | nil => intro _ r p h; simp at h
  | cons a l ih =>
    intro hp r p h
    obtain ⟨h1, h2⟩ := List.pairwise_cons.mp hp
    cases r with
    | zero =>
      simp at h
      subst h
      refine count_none fun q hq => ?_
      rcases List.mem_cons.mp hq with rfl | hq
      · exact ltPr_irr _
      · exact ltPr_asym (h1 q hq)
    | succ r =>
      simp at h
      rw [List.countP_cons_of_pos (p := fun q => ltPr q p) (h1 p (List.mem_of_getElem? h)), ih h2 h]
structure Srtd (ts : List TK) (qs : List (Int × Int)) : Prop where
  perm : qs.Perm (keysF ts 0)
  srt : qs.Pairwise lePair
theorem Srtd.strict {ts : List TK} {qs : List (Int × Int)} (h : Srtd ts qs) : qs.Pairwise fun p q => ltPr p q = true := by
  have nd : qs.Nodup := h.perm.nodup_iff.mpr (keysF_nodup ts 0)
  refine List.Pairwise.imp₂ (fun p q h1 h2 => ?_) h.srt nd
  unfold ltPr
  rw [decide_eq_true_iff]
  rcases h1 with h1 | ⟨h1, h3⟩
  · exact .inl h1
  · refine .inr ⟨h1, ?_⟩
    have : p.2 ≠ q.2 := fun e => h2 (Prod.ext h1 e)
    omega
theorem Srtd.rk {ts : List TK} {qs : List (Int × Int)} (h : Srtd ts qs) {r : Nat} {p : Int × Int} (hp : qs[r]? = some p) : rkF (keysF ts 0) p = (r : Int) + 1 := by
  unfold rkF
  rw [← h.perm.countP_eq, strict_count h.strict hp]
  omega
theorem Srtd.len {ts : List TK} {qs : List (Int × Int)} (h : Srtd ts qs) : qs.length = ts.length := by rw [h.perm.length_eq, keysF_len]
def oneTo (n : Nat) : List Int := (List.range n).map fun i : Nat => (i : Int) + 1
structure NumOk (ts : List TK) : Prop where
  perm : (numF ts).Perm (oneTo ts.length)
  ord : ∀ (i j : Nat) (a b : Int) (t u : TK), j < i → (numF ts)[i]? = some a → (numF ts)[j]? = some b → ts[i]? = some t → ts[j]? = some u → (a < b ↔ u.2.2 ≤ t.2.2)
theorem numF_get {ts : List TK} {i : Nat} {t : TK} (h : ts[i]? = some t) : (numF ts)[i]? = some (rkF (keysF ts 0) (keyT t i)) := by
  rw [numF, List.getElem?_map, keysF_get, h]
  simp
theorem Srtd.at_ {ts : List TK} {qs : List (Int × Int)} (h : Srtd ts qs) {i : Nat} {t : TK} (hi : ts[i]? = some t) : ∃ r : Nat, qs[r]? = some (keyT t i) := by
  refine List.getElem?_of_mem (h.perm.mem_iff.mpr (List.mem_of_getElem? (i := i) ?_))
  rw [keysF_get, hi]
  simp
theorem Srtd.ok {ts : List TK} {qs : List (Int × Int)} (h : Srtd ts qs) : NumOk ts := by
  refine ⟨?_, fun i j a b t u hji ha hb ht hu => ?_⟩
  · have p1 : (numF ts).Perm (qs.map (rkF (keysF ts 0))) := (h.perm.map _).symm
    refine p1.trans (List.Perm.of_eq (List.ext_getElem? fun r => ?_))
    rw [List.getElem?_map, oneTo, List.getElem?_map]
    by_cases hr : r < qs.length
    · have e := List.getElem?_eq_getElem hr
      rw [e, List.getElem?_range (by rw [← h.len]; exact hr)]
      show some _ = some _
      rw [h.rk e]
    · rw [List.getElem?_eq_none (by omega), List.getElem?_eq_none (by rw [List.length_range, ← h.len]; omega)]
      rfl
  · rw [numF_get ht] at ha
    rw [numF_get hu] at hb
    cases ha
    cases hb
    obtain ⟨r, hr⟩ := h.at_ ht
    obtain ⟨s, hs⟩ := h.at_ hu
    rw [h.rk hr, h.rk hs]
    have st := List.pairwise_iff_getElem.mp h.strict
    have e1 := (List.getElem?_eq_some_iff.mp hr)
    have e2 := (List.getElem?_eq_some_iff.mp hs)
    obtain ⟨l1, e1⟩ := e1
    obtain ⟨l2, e2⟩ := e2
    have k1 : (keyT t i).1 = -t.2.2 := rfl
    have k2 : (keyT t i).2 = -(i : Int) := rfl
    have k3 : (keyT u j).1 = -u.2.2 := rfl
    have k4 : (keyT u j).2 = -(j : Int) := rfl
    rcases Nat.lt_trichotomy r s with hlt | heq | hgt
    · have := st r s l1 l2 hlt
      rw [e1, e2] at this
      unfold ltPr at this
      rw [decide_eq_true_iff] at this
      omega
    · subst heq
      rw [hr] at hs
      have := congrArg Prod.snd (Option.some.inj hs)
      rw [k2, k4] at this
      omega
    · have := st s r l2 l1 hgt
      rw [e1, e2] at this
      unfold ltPr at this
      rw [decide_eq_true_iff] at this
      omega
theorem sorted_oneTo {ms : List Int} {n : Nat} (h : ms.Perm (oneTo n)) (hs : ms.Pairwise (· ≤ ·)) : ms = oneTo n := by
  refine h.eq_of_pairwise (le := fun a b : Int => a ≤ b) (fun a b _ _ h1 h2 => Int.le_antisymm h1 h2) hs ?_
  unfold oneTo
  rw [List.pairwise_map]
  exact List.Pairwise.imp (fun {a b} h => by omega) List.pairwise_lt_range
/-- the store loop fills in the ranks -/
def Filled (ts : List TK) (qs : List (Int × Int)) (i : Nat) (fs : List Int) : Prop := fs.length = ts.length ∧ ∀ (r : Nat) (p : Int × Int), r < i → qs[r]? = some p → fs[(-p.2).toNat]? = some ((r : Int) + 1)
theorem Srtd.key {ts : List TK} {qs : List (Int × Int)} (h : Srtd ts qs) {r : Nat} {p : Int × Int} (hp : qs[r]? = some p) : ∃ (j : Nat) (t : TK), ts[j]? = some t ∧ p = keyT t j ∧ j < ts.length := by
  have := h.perm.mem_iff.mp (List.mem_of_getElem? hp)
  obtain ⟨j, hj⟩ := List.getElem?_of_mem this
  rw [keysF_get] at hj
  obtain ⟨t, ht, rfl⟩ := Option.map_eq_some_iff.mp hj
  rw [Nat.zero_add]
  exact ⟨j, t, ht, rfl, (List.getElem?_eq_some_iff.mp ht).1⟩
theorem Filled.next {ts : List TK} {qs : List (Int × Int)} {i : Nat} {fs : List Int} (f : Filled ts qs i fs) (h : Srtd ts qs) {p : Int × Int} (hp : qs[i]? = some p) : Filled ts qs (i + 1) (fs.set (-p.2).toNat ((i : Int) + 1)) := by
  refine ⟨by rw [List.length_set]; exact f.1, fun r q hr hq => ?_⟩
  obtain ⟨j, t, hj, rfl, hjl⟩ := h.key hp
  have e1 : (-(keyT t j).2).toNat = j := by show (-(-(j : Int))).toNat = j; omega
  rw [e1]
  by_cases e : r = i
  · subst e
    rw [hp] at hq
    cases hq
    rw [e1, List.getElem?_set_self (by rw [f.1]; exact hjl)]
  · obtain ⟨j', t', hj', rfl, _⟩ := h.key hq
    have e2 : (-(keyT t' j').2).toNat = j' := by show (-(-(j' : Int))).toNat = j'; omega
    have ne : j ≠ j' := fun z => by
      subst z
      rw [hj] at hj'
      cases hj'
      have nd : qs.Nodup := h.perm.nodup_iff.mpr (keysF_nodup ts 0)
      exact e (nd_ix nd hq hp)
    have := f.2 r _ (by omega) hq
    rw [e2] at this ⊢
    rw [List.getElem?_set_ne ne]
    exact this
theorem Filled.all {ts : List TK} {qs : List (Int × Int)} {fs : List Int} (h : Srtd ts qs) (f : Filled ts qs qs.length fs) : fs = numF ts := by
  refine List.ext_getElem? fun j => ?_
  by_cases hj : j < ts.length
  · have ht := List.getElem?_eq_getElem hj
    obtain ⟨r, hr⟩ := h.at_ ht
    have := f.2 r _ (List.getElem?_eq_some_iff.mp hr).1 hr
    have e1 : (-(keyT ts[j] j).2).toNat = j := by show (-(-(j : Int))).toNat = j; omega
    rw [e1] at this
    rw [this, numF_get ht, h.rk hr]
  · rw [List.getElem?_eq_none (by rw [f.1]; omega), List.getElem?_eq_none (by rw [numF_len]; omega)]

abbrev tD (t : TK) : D := .tup [.str "task", .str t.1, .int t.2.1, .int t.2.2, .lst [], .lst []]
abbrev IK := Str × Int × Int
abbrev iD (t : IK) : D := .tup [.str "interrupt", .str t.1, .int t.2.1, .int t.2.2, .str "o", .str "f", .lst []]
def allF (ts : List TK) (m : Nat) : List Int := numF ts ++ (List.range m).map fun i : Nat => 9 + (i : Int)
def S_numbers : List D → (D → Prop) → Prop := fun ds k => ∃ (a b c d : D) (ts : List TK) (is : List IK), ds = [.tup [a, b, c, d, .lst (ts.map tD), .lst (is.map iD)]] ∧ ts.length ≤ 8 ∧ is.length ≤ 2 ∧ (NumOk ts → k (.lst ((allF ts is.length).map D.int)))
theorem rep_flat {α : Type} (x : α) : ∀ n : Nat, (List.replicate n [x]).flatten = List.replicate n x
  | 0 => rfl
  | n + 1 => by rw [List.replicate_succ, List.flatten_cons, rep_flat x n]; rfl
theorem rep_ints (n : Nat) : (List.replicate n [wI 0]).flatten = ((List.replicate n (0 : Int)).map D.int).map W.d := by
  rw [rep_flat, List.map_replicate, List.map_replicate]
theorem ok_numbers {f : Addr} {fd : FuncData} (F : Fun K "numbers" "numbers" s_numbers f fd) (T : Txt K mg) : FnOk P w K mg base CX0 1 f fd ["program"] (spP K 1 S_numbers) := by
  refine okP F sc_numbers rfl fun cdv A outer s H E hr ds k0 hl hp env he => ?_
  obtain ⟨a, b, c, d, ts, is, rfl, hts, his, hk⟩ := hp
  subst he
  refine xs_cons ?_
  walk_at "go numbers"
  refine xlc_inv (fun i acc o => o = [] ∧ acc = ((keysF (ts.take i) 0).map dP)) ⟨rfl, rfl⟩ ?_ ?_
  · rintro j w acc os hj ⟨rfl, rfl⟩ s1 H1 C cl fp
    obtain ⟨rfl, hj2⟩ := rng_at hj
    have hj3 : j < ts.length := by simpa using hj2
    have ht := List.getElem?_eq_getElem hj3
    refine xts_nil ⟨fun _ s1 H1 C cl fp => ?_, fun h => by cases h⟩
    walk_at "go numbers"
    refine xix_lst (d := tD ts[j]) (atI_natP (by omega) (by rw [List.getElem?_map, show (0 + (j : Int)).toNat = j by omega, ht]; rfl)) ?_
    walk_at "go numbers"
    try refine ⟨rfl, ?_⟩
    rw [take_next ht, keysF_app, List.map_append, Nat.zero_add, List.length_take_of_le (by omega)]
    simp [keysF, keyT]
  · rintro acc os ⟨rfl, rfl⟩
    rw [rng_len, List.length_map, Int.toNat_natCast, List.take_length]
    walk_at "go numbers"
    rename_i qs hq1 hq2 _ _
    have hS : Srtd ts qs := ⟨hq1, hq2⟩
    have hql := hS.len
    walk_at "go numbers"
    refine xfor_inv (fun i en o => ∃ (q : Addr) (fs : List Int) (x4 : Option W), en = [some (W.d (D.tup [a, b, c, d, D.lst (List.map tD ts), D.lst (List.map iD is)])), some (W.d (D.lst (List.map tD ts))), some (wL (qs.map dP)), some (.ref q), x4, none] ∧ o = [(q, OO.lst ((fs.map D.int).map W.d))] ∧ Filled ts qs i fs) ⟨_, List.replicate ts.length 0, none, rfl, ?_, ?_⟩ ?_ ?_
    · rw [← rep_ints]; simp
    · exact ⟨by rw [List.length_replicate], fun r p h => absurd h (Nat.not_lt_zero _)⟩
    · rintro i w en o hi ⟨q, fs, x4, rfl, rfl, hF⟩
      obtain ⟨rfl, hi2⟩ := rng_at hi
      have hi3 : i < qs.length := by simpa using hi2
      have hq := List.getElem?_eq_getElem hi3
      obtain ⟨j, t, hj, hk2, hjl⟩ := hS.key hq
      walk_at "go numbers"
      refine xix_lst (d := dP qs[i]) (atI_natP (by omega) (by rw [List.getElem?_map, show (0 + (i : Int)).toNat = i by omega, hq]; rfl)) ?_
      walk_at "go numbers"
      refine ⟨_, 0, _, _, (-(qs[i]).2).toNat, rfl, rfl, rfl, ?_, ?_⟩
      · rw [hk2]
        simp only [ixN, keyT, List.length_map, hF.1]
        rw [if_pos (by omega), if_pos (by omega)]
      · refine ⟨q, fs.set (-(qs[i]).2).toNat ((i : Int) + 1), _, rfl, ?_, hF.next hS hq⟩
        rw [List.map_set, List.map_set]
        simp
    · rintro en o ⟨q, fs, x4, rfl, rfl, hF⟩
      rw [rng_len, List.length_map, Int.toNat_natCast] at hF
      have hfs := hF.all hS
      subst hfs
      have hnl := numF_len ts
      walk_at "go numbers"
      refine xlc_inv (fun i acc o => o = [(q, OO.lst (((numF ts).map D.int).map W.d))] ∧ acc = ((List.range i).map fun i : Nat => 9 + (i : Int)).map D.int) ⟨rfl, rfl⟩ ?_ ?_
      · rintro j w acc os hj ⟨rfl, rfl⟩ s1 H1 C cl fp
        obtain ⟨rfl, hj2⟩ := rng_at hj
        refine xts_nil ⟨fun _ s1 H1 C cl fp => ?_, fun h => by cases h⟩
        walk_at "go numbers"
        try refine ⟨rfl, ?_⟩
        rw [List.range_succ]
        simp
      · rintro acc os ⟨rfl, rfl⟩
        rw [rng_len, List.length_map, Int.toNat_natCast]
        walk_at "go numbers"
        have := hk hS.ok
        rw [allF, List.map_append] at this
        exact this
def tupF (many a : Nat) : D := if a < many then .tup [.str "task", .int a] else .tup [.str "interrupt", .int ((a : Int) - many)]
def S_owner : List D → (D → Prop) → Prop := fun ds k => ∃ (a b c d : D) (ts : List TK) (is : List IK) (n : Int), ds = [.tup [a, b, c, d, .lst (ts.map tD), .lst (is.map iD)], .int n] ∧ ts.length ≤ 8 ∧ is.length ≤ 2 ∧
  (∀ a : Nat, (allF ts is.length)[a]? = some n → (∀ b, b < a → (allF ts is.length)[b]? ≠ some n) → k (tupF ts.length a)) ∧ (n ∉ allF ts is.length → k .non)
theorem allF_len (ts : List TK) (m : Nat) : (allF ts m).length = ts.length + m := by rw [allF, List.length_append, numF_len, List.length_map, List.length_range]
theorem ok_owner {f : Addr} {fd : FuncData} (F : Fun K "owner" "owner" s_owner f fd) (T : Txt K mg) (C_numbers : Cal P w K mg base 1 "numbers" ["program"] (spP K 1 S_numbers)) : FnOk P w K mg base CX0 2 f fd ["program", "number"] (spP K 2 S_owner) := by
  refine okP F sc_owner rfl fun cdv A outer s H E hr ds k0 hl hp env he => ?_
  obtain ⟨a, b, c, d, ts, is, n, rfl, hts, his, hk1, hk2⟩ := hp
  have hal := allF_len ts is.length
  subst he
  refine xs_cons ?_
  walk_at "go owner"
  refine xfor_inv (fun i en o => ∃ (x4 : Option W), en = [some (W.d (D.tup [a, b, c, d, D.lst (List.map tD ts), D.lst (List.map iD is)])), some (wI n), some (wL ((allF ts is.length).map D.int)), some (wI ((ts.map tD).length : Int)), x4] ∧ o = [] ∧ ∀ b, b < i → (allF ts is.length)[b]? ≠ some n) ⟨none, rfl, rfl, fun b h => absurd h (Nat.not_lt_zero _)⟩ ?_ ?_
  · rintro i w en o hi ⟨x4, rfl, rfl, hno⟩
    obtain ⟨rfl, hi2⟩ := rng_at hi
    have hi3 : i < (allF ts is.length).length := by simpa using hi2
    have hq := List.getElem?_eq_getElem hi3
    walk_at "go owner"
    refine xix_lst (d := .int ((allF ts is.length)[i])) (atI_natP (by omega) (by rw [List.getElem?_map, show (0 + (i : Int)).toNat = i by omega, hq]; rfl)) ?_
    walk_at "go owner"
    · rename_i e1 e2
      have := hk1 i (by rw [hq, e1]) hno
      rw [tupF, if_pos (by simp only [List.length_map] at e2; omega)] at this
      rw [Int.zero_add]
      exact this
    · rename_i e1 e2
      have := hk1 i (by rw [hq, e1]) hno
      rw [tupF, if_neg (by simp only [List.length_map] at e2; omega)] at this
      rw [Int.zero_add, List.length_map]
      exact this
    · rename_i e1 b2 e2
      by_cases e3 : b2 < i
      · exact hno b2 e3
      · have e4 : b2 = i := by omega
        subst e4
        rw [hq]
        exact fun z => e1 (Option.some.inj z)
  · rintro en o ⟨x4, rfl, rfl, hno⟩
    rw [rng_len, List.length_map, Int.toNat_natCast] at hno
    walk_at "go owner"
    refine hk2 fun hm => ?_
    obtain ⟨j, hj⟩ := List.getElem?_of_mem hm
    exact hno j (List.getElem?_eq_some_iff.mp hj).1 hj

def NmOk (x : Str) : Prop := PyData.canLay0 (.str x) = true
theorem nm_t : ∀ n : Fin 9, (("t" : Str).length + (toString (0 + (n.val : Int)) : Str).length ≤ 1000 ∧ PyData.canLay0 (.str (("t" : Str) ++ (toString (0 + (n.val : Int)) : Str))) = true) := by decide +kernel
theorem nm_i : ∀ n : Fin 9, (("i" : Str).length + (toString (0 + (n.val : Int)) : Str).length ≤ 1000 ∧ PyData.canLay0 (.str (("i" : Str) ++ (toString (0 + (n.val : Int)) : Str))) = true) := by decide +kernel
theorem nm_t' {i : Nat} (h : i < 9) : ("t" : Str).length + (toString (0 + (i : Int)) : Str).length ≤ sizeLine ∧ NmOk (("t" : Str) ++ (toString (0 + (i : Int)) : Str)) := ⟨szN (nm_t ⟨i, h⟩).1, (nm_t ⟨i, h⟩).2⟩
theorem nm_i' {i : Nat} (h : i < 9) : ("i" : Str).length + (toString (0 + (i : Int)) : Str).length ≤ sizeLine ∧ NmOk (("i" : Str) ++ (toString (0 + (i : Int)) : Str)) := ⟨szN (nm_i ⟨i, h⟩).1, (nm_i ⟨i, h⟩).2⟩
def OkK (ts : List TK) : Prop := ∀ t ∈ ts, NmOk t.1
theorem okK_app {ts : List TK} {t : TK} (h : OkK ts) (h1 : NmOk t.1) : OkK (ts ++ [t]) := by
  intro p hp
  rcases List.mem_append.mp hp with hp | hp
  · exact h p hp
  · rw [List.mem_singleton] at hp; subst hp; exact h1
theorem tD_app {ts : List TK} {t : TK} : (ts.map tD).map W.d ++ [.d (tD t)] = ((ts ++ [t]).map tD).map W.d := by simp
theorem iD_app {ts : List TK} {t : TK} : (ts.map iD).map W.d ++ [.d (iD t)] = ((ts ++ [t]).map iD).map W.d := by simp
theorem tk_os {q : Addr} {ts : List TK} {of : Os} {x : Str} {a b : Int} : (q, OO.lst ((ts.map tD).map W.d ++ [.d (.tup [.str "task", .str x, .int a, .int b, .lst [], .lst []])])) :: of = (q, OO.lst (((ts ++ [(x, a, b)]).map tD).map W.d)) :: of := by rw [← tD_app]
theorem ik_os {q : Addr} {ts : List IK} {of : Os} {x : Str} {a b : Int} : (q, OO.lst ((ts.map iD).map W.d ++ [.d (.tup [.str "interrupt", .str x, .int a, .int b, .str "o", .str "f", .lst []])])) :: of = (q, OO.lst (((ts ++ [(x, a, b)]).map iD).map W.d)) :: of := by rw [← iD_app]
def B_tasks : List D → (D → Prop) → Prop := fun ds k => ds = [] ∧ ∀ ts : List TK, ts.length ≤ 8 → OkK ts → k (.lst (ts.map tD))
def B_ints : List D → (D → Prop) → Prop := fun ds k => ds = [] ∧ ∀ ts : List IK, ts.length ≤ 2 → OkK ts → k (.lst (ts.map iD))
theorem ok__law_tasks {f : Addr} {fd : FuncData} (F : Fun K "_law_tasks" "_law_tasks" s__law_tasks f fd) (T : Txt K mg) (C__law_draw : Cal P w K mg base 1 "_law_draw" ["_law_state_here", "_law_many"] (spS K 2 DSa B_draw)) : FnOk P w K mg base CX0 2 f fd ["_law_state_here"] (spS K 1 DSa B_tasks) := by
  refine okS F sc__law_tasks rfl fun cdv A outer s H E hr p of ds k0 hl hD hp env he => ?_
  obtain ⟨rfl, hk⟩ := hp
  subst he
  refine xs_cons ?_
  walk_at "go _law_tasks"
  rename_i q v v0 v1 of1 hD1 u u0 u1 of2 hD2
  refine xfor_inv (fun i en o => ∃ (of : Os) (ts : List TK) (x3 x4 x5 : Option W), en = [some (.ref p), some (.ref q), some (wI v), x3, x4, x5] ∧ o = (q, OO.lst ((ts.map tD).map W.d)) :: of ∧ DSa p of ∧ OkK ts ∧ ts.length ≤ i) ⟨of2, [], none, none, none, rfl, rfl, hD2, fun _ h => absurd h List.not_mem_nil, Nat.le_refl _⟩ ?_ ?_
  · rintro i w en o hi ⟨of, ts, x3, x4, x5, rfl, rfl, hD, hts, htl⟩
    obtain ⟨rfl, hi2⟩ := rng_at hi
    obtain ⟨hn1, hn2⟩ := nm_t' (i := i) (by omega)
    walk_at "go _law_tasks"
    all_goals (try refine ⟨0, _, rfl, ?_, ?_⟩)
    all_goals first
      | (rw [List.length_map, List.length_map]; exact small1000 (by omega))
      | (refine ⟨_, _, _, _, _, rfl, tk_os, by assumption, okK_app hts hn2, ?_⟩; rw [List.length_append, List.length_singleton]; omega)
      | skip
  · rintro en o ⟨of, ts, x3, x4, x5, rfl, rfl, hD, hts, htl⟩
    rw [rng_len] at htl
    refine xs_freeze (n := 0) (pl := q) (ds := ts.map tD) (is := [1]) rfl (by intro i h; rw [List.mem_singleton] at h; subst h; rfl) ?_
    show XS _ _ [some (.ref p), some (wL (ts.map tD)), some (wI v), x3, x4, x5] of _
    walk_at "go _law_tasks"
    exact .inl ⟨_, _, rfl, List.Sublist.refl _, hk _ (by omega) hts _ (by assumption)⟩
theorem ok__law_interrupts {f : Addr} {fd : FuncData} (F : Fun K "_law_interrupts" "_law_interrupts" s__law_interrupts f fd) (T : Txt K mg) (C__law_draw : Cal P w K mg base 1 "_law_draw" ["_law_state_here", "_law_many"] (spS K 2 DSa B_draw)) : FnOk P w K mg base CX0 2 f fd ["_law_state_here"] (spS K 1 DSa B_ints) := by
  refine okS F sc__law_interrupts rfl fun cdv A outer s H E hr p of ds k0 hl hD hp env he => ?_
  obtain ⟨rfl, hk⟩ := hp
  subst he
  refine xs_cons ?_
  walk_at "go _law_interrupts"
  rename_i q u u0 u1 of2 hD2
  refine xfor_inv (fun i en o => ∃ (of : Os) (ts : List IK) (x3 x4 : Option W), en = [some (.ref p), some (.ref q), x3, x4] ∧ o = (q, OO.lst ((ts.map iD).map W.d)) :: of ∧ DSa p of ∧ OkK ts ∧ ts.length ≤ i) ⟨of2, [], none, none, rfl, rfl, hD2, fun _ h => absurd h List.not_mem_nil, Nat.le_refl _⟩ ?_ ?_
  · rintro i w en o hi ⟨of, ts, x3, x4, rfl, rfl, hD, hts, htl⟩
    obtain ⟨rfl, hi2⟩ := rng_at hi
    obtain ⟨hn1, hn2⟩ := nm_i' (i := i) (by omega)
    walk_at "go _law_interrupts"
    all_goals (try refine ⟨0, _, rfl, ?_, ?_⟩)
    all_goals first
      | (rw [List.length_map, List.length_map]; exact small1000 (by omega))
      | (refine ⟨_, _, _, _, rfl, ik_os, by assumption, okK_app hts hn2, ?_⟩; rw [List.length_append, List.length_singleton]; omega)
      | skip
  · rintro en o ⟨of, ts, x3, x4, rfl, rfl, hD, hts, htl⟩
    rw [rng_len] at htl
    refine xs_freeze (n := 0) (pl := q) (ds := ts.map iD) (is := [1]) rfl (by intro i h; rw [List.mem_singleton] at h; subst h; rfl) ?_
    show XS _ _ [some (.ref p), some (wL (ts.map iD)), x3, x4] of _
    walk_at "go _law_interrupts"
    exact .inl ⟨_, _, rfl, List.Sublist.refl _, hk _ (by omega) hts _ (by assumption)⟩
abbrev opD : D := .tup [.str "operation", .str "f", .lst [], .lst [], .lst [], .non]
abbrev prog (ts : List TK) (is : List IK) : D := .tup [.str "system", .str "s", .lst [], .lst [.tup [.str "object", .str "o", .lst [], .lst [opD]]], .lst (ts.map tD), .lst (is.map iD)]
def nineTo (m : Nat) : List Int := (List.range m).map fun i : Nat => 9 + (i : Int)
theorem cut1 {ts : List TK} {m : Nat} : cutA ((allF ts m).map D.int) none (some ((ts.map tD).length : Int)) = (numF ts).map D.int := by
  rw [cutA_to (by rw [List.length_map, List.length_map, allF_len]; omega), allF, List.map_append, List.length_map]
  exact List.take_left' (by rw [List.length_map, numF_len])
theorem cut2 {ts : List TK} {m : Nat} : cutA ((allF ts m).map D.int) (some ((ts.map tD).length : Int)) none = (nineTo m).map D.int := by
  rw [cutA_from (by rw [List.length_map, List.length_map, allF_len]; omega), allF, List.map_append, List.length_map]
  exact List.drop_left' (by rw [List.length_map, numF_len])
theorem cut3 {m : Nat} (h : m ≤ 2) : cutA [D.int 9, D.int 10] none (some (m : Int)) = (nineTo m).map D.int := by
  rw [cutA_to (by exact h)]
  obtain rfl | rfl | rfl : m = 0 ∨ m = 1 ∨ m = 2 := by omega
  all_goals rfl
def rouF (n m : Nat) : List D := ((List.range n).map fun k : Nat => .tup [.str "task", .int (k : Int)]) ++ (List.range m).map fun k : Nat => .tup [.str "interrupt", .int (k : Int)]
theorem rouF_at {n m j : Nat} (h : j < n + m) : (rouF n m)[j]? = some (tupF n j) := by
  unfold rouF tupF
  by_cases hj : j < n
  · rw [List.getElem?_append_left (by rw [List.length_map, List.length_range]; exact hj), List.getElem?_map, List.getElem?_range hj, if_pos hj]
    rfl
  · rw [List.getElem?_append_right (by rw [List.length_map, List.length_range]; omega), List.length_map, List.length_range, List.getElem?_map, List.getElem?_range (by omega), if_neg hj]
    show some (D.tup [.str "interrupt", .int ((j - n : Nat) : Int)]) = _
    have e : ((j - n : Nat) : Int) = (j : Int) - n := by omega
    rw [e]
theorem lay1 : PyData.canLay0 (.str "task") = true := by decide +kernel
theorem lay2 : PyData.canLay0 (.str "interrupt") = true := by decide +kernel
theorem lay3 : PyData.canLay0 (.str "o") = true := by decide +kernel
theorem lay4 : PyData.canLay0 (.str "f") = true := by decide +kernel
theorem tupF_shp (n j : Nat) : shp (tupF n j) 60 = true := by
  unfold tupF
  split
  · simp only [shp, shpA, lay1]; rfl
  · simp only [shp, shpA, lay2]; rfl
theorem tD_shp {t : TK} (h : NmOk t.1) : shp (tD t) 59 = true := by
  simp only [shp, shpA, lay1]
  rw [show PyData.canLay0 (.str t.1) = true from h]
  rfl
theorem iD_shp {t : IK} (h : NmOk t.1) : shp (iD t) 59 = true := by
  simp only [shp, shpA, lay2, lay3, lay4]
  rw [show PyData.canLay0 (.str t.1) = true from h]
  rfl
theorem tDs_shp {ts : List TK} (h : OkK ts) : shp (.lst (ts.map tD)) 60 = true := by
  rw [shp, shpA_all.mpr fun d hd => by obtain ⟨t, ht, rfl⟩ := List.mem_map.mp hd; exact tD_shp (h t ht)]
  rfl
theorem iDs_shp {ts : List IK} (h : OkK ts) : shp (.lst (ts.map iD)) 60 = true := by
  rw [shp, shpA_all.mpr fun d hd => by obtain ⟨t, ht, rfl⟩ := List.mem_map.mp hd; exact iD_shp (h t ht)]
  rfl
theorem allF_at {ts : List TK} {m i : Nat} {a : Int} (h : (numF ts)[i]? = some a) : (allF ts m)[i]? = some a := by
  rw [allF, List.getElem?_append_left (List.getElem?_eq_some_iff.mp h).1]
  exact h
theorem cut2' {ts : List TK} {m : Nat} : cutA ((allF ts m).map D.int) (some (ts.length : Int)) none = (nineTo m).map D.int := by
  have := cut2 (ts := ts) (m := m)
  rw [List.length_map] at this
  exact this
theorem cut3' {is : List IK} (h : is.length ≤ 2) : cutA [D.int 9, D.int 10] none (some ((is.map iD).length : Int)) = (nineTo is.length).map D.int := by
  rw [List.length_map]
  exact cut3 h
theorem ix_at {α : Type} {xs : List α} {f : α → D} {i : Nat} {x : α} (h : xs[i]? = some x) : atI (xs.map f) (0 + (i : Int)) = some (f x) := atI_natP (by omega) (by rw [show (0 + (i : Int)).toNat = i by omega, List.getElem?_map, h]; rfl)
theorem or2N {A B : Prop} {b : Bool} (hb : b = true) (h : A) : ((!b) = false → A) ∧ ((!b) = true → B) := by
  subst hb
  exact ⟨fun _ => h, fun e => absurd e (by decide)⟩
theorem imp2N {A B : Prop} {b : Bool} (hb : b = true) (h : B) : ((!b) = true → A) ∧ ((!b) = false → B) := by
  subst hb
  exact ⟨fun e => absurd e (by decide), fun _ => h⟩
--@base
theorem ok_law {f : Addr} {fd : FuncData} (F : Fun K "law" "law" s_law f fd) (T : Txt K mg) (C__law_state : Cal P w K mg base 1 "_law_state" ["_law_script"] (spF K 1 S_state)) (C__law_draw : Cal P w K mg base 1 "_law_draw" ["_law_state_here", "_law_many"] (spS K 2 DSa B_draw)) (C__law_tasks : Cal P w K mg base 2 "_law_tasks" ["_law_state_here"] (spS K 1 DSa B_tasks)) (C__law_interrupts : Cal P w K mg base 2 "_law_interrupts" ["_law_state_here"] (spS K 1 DSa B_ints)) (C_numbers : Cal P w K mg base 1 "numbers" ["program"] (spP K 1 S_numbers)) (C_owner : Cal P w K mg base 2 "owner" ["program", "number"] (spP K 2 S_owner)) : FnOk P w K mg base CX0 3 f fd ["_law_script"] (spP K 1 S_law) := by
  refine okP F sc_law rfl fun cdv A outer s H E hr ds k0 hl hp env he => ?_
  obtain ⟨ns, rfl, hlen, hk⟩ := hp
  subst he
  refine xs_cons ?_
  walk_at "go law"
  · rename_i hne
    simp only [List.length_map, allF_len] at hne
    omega
  rename_i p of0 hD0 ts hts hok of1 hD1 is his hoki of2 hD2 hOk hlen2
  refine xfor_inv (fun i en o => ∃ x7 : Option W, en = [some (wL (ns.map D.int)), some (.ref p), some (wL (ts.map tD)), some (wL (is.map iD)), some (.d opD), some (.d (prog ts is)), some (wL ((allF ts is.length).map D.int)), x7, none, none, none, none, none, none] ∧ of2 = o) ⟨none, rfl, rfl⟩ ?_ ?_
  · rintro i w en o hi ⟨x7, rfl, rfl⟩
    obtain ⟨n, rfl⟩ := ints_at hi
    walk_at "go law"
  rintro en o ⟨x7, rfl, rfl⟩
  walk_at "go law"
  rw [cut1]
  walk_at "go law"
  rename_i ms h1 h2
  refine xlc_inv (fun i acc o => acc = (oneTo i).map D.int ∧ of2 = o) ⟨rfl, rfl⟩ ?_ ?_
  · rintro j w acc os hj ⟨rfl, rfl⟩ s1 H1 C cl fp
    obtain ⟨rfl, hj2⟩ := rng_at hj
    refine xts_nil ⟨fun _ s1 H1 C cl fp => ?_, fun h => by cases h⟩
    walk_at "go law"
    try refine ⟨?_, rfl⟩
    rw [oneTo, oneTo, List.range_succ]
    simp
  rintro acc os ⟨rfl, rfl⟩
  rw [rng_len, List.length_map, Int.toNat_natCast]
  walk_at "go law"
  refine or2N (by rw [eqD_ints]; exact decide_eq_true (sorted_oneTo (h1.trans hOk.perm) h2)) ?_
  walk_at "go law"
  all_goals simp only [cut2', cut3' his]
  · exact shp_ints _
  · exact shp_ints _
  refine imp2N (by rw [eqD_ints]; exact decide_eq_true rfl) ?_
  walk_at "go law"
  refine xfor_inv (fun i en o => ∃ x9 x10 x11 : Option W, en = [some (wL (ns.map D.int)), some (.ref p), some (wL (ts.map tD)), some (wL (is.map iD)), some (.d opD), some (.d (prog ts is)), some (wL ((allF ts is.length).map D.int)), x7, some (wI (ts.length : Int)), x9, x10, x11, none, none] ∧ of2 = o) ⟨none, none, none, rfl, rfl⟩ ?_ ?_
  · rintro i w en o hi ⟨x9, x10, x11, rfl, rfl⟩
    obtain ⟨rfl, hi2⟩ := rng_at hi
    have hi3 : i < ts.length := by omega
    have gi := List.getElem?_eq_getElem hi3
    walk_at "go law"
    refine xfor_inv (fun j en o => ∃ x10 x11 : Option W, en = [some (wL (ns.map D.int)), some (.ref p), some (wL (ts.map tD)), some (wL (is.map iD)), some (.d opD), some (.d (prog ts is)), some (wL ((allF ts is.length).map D.int)), x7, some (wI (ts.length : Int)), some (wI (0 + (i : Int))), x10, x11, none, none] ∧ of2 = o) ⟨_, _, rfl, rfl⟩ ?_ ?_
    · rintro j w en o hj ⟨x10, x11, rfl, rfl⟩
      obtain ⟨rfl, hj2⟩ := rng_at hj
      have hj3 : j < ts.length := by omega
      have gj := List.getElem?_eq_getElem hj3
      have ni := numF_get gi
      have nj := numF_get gj
      have hord := hOk.ord i j _ _ _ _ (by omega) ni nj gi gj
      walk_at "go law"
      refine xix_lst (ix_at gi) ?_
      walk_at "go law"
      refine xix_lst (ix_at gj) ?_
      walk_at "go law"
      refine xix_lst (ix_at (allF_at ni)) ?_
      walk_at "go law"
      refine xix_lst (ix_at (allF_at nj)) ?_
      walk_at "go law"
      refine imp2N (beq_iff_eq.mpr (decide_eq_decide.mpr hord)) ?_
      walk_at "go law"
    · rintro en o ⟨x10, x11, rfl, rfl⟩
      walk_at "go law"
  rintro en o ⟨x9, x10, x11, rfl, rfl⟩
  walk_at "go law"
  refine xlc_inv (fun i acc o => acc = (List.range i).map (fun k : Nat => D.tup [.str "task", .int (k : Int)]) ∧ of2 = o) ⟨rfl, rfl⟩ ?_ ?_
  · rintro j w acc os hj ⟨rfl, rfl⟩ s1 H1 C cl fp
    obtain ⟨rfl, hj2⟩ := rng_at hj
    refine xts_nil ⟨fun _ s1 H1 C cl fp => ?_, fun h => by cases h⟩
    walk_at "go law"
    try refine ⟨?_, rfl⟩
    rw [List.range_succ]
    simp
  rintro acc os ⟨rfl, rfl⟩
  walk_at "go law"
  refine xlc_inv (fun i acc o => acc = (List.range i).map (fun k : Nat => D.tup [.str "interrupt", .int (k : Int)]) ∧ of2 = o) ⟨rfl, rfl⟩ ?_ ?_
  · rintro j w acc os hj ⟨rfl, rfl⟩ s1 H1 C cl fp
    obtain ⟨rfl, hj2⟩ := rng_at hj
    refine xts_nil ⟨fun _ s1 H1 C cl fp => ?_, fun h => by cases h⟩
    walk_at "go law"
    try refine ⟨?_, rfl⟩
    rw [List.range_succ]
    simp
  rintro acc os ⟨rfl, rfl⟩
  simp only [rng_len, Int.toNat_natCast, List.length_map]
  walk_at "go law"
  refine xfor_inv (fun i en o => ∃ x7 x13 : Option W, en = [some (wL (ns.map D.int)), some (.ref p), some (wL (ts.map tD)), some (wL (is.map iD)), some (.d opD), some (.d (prog ts is)), some (wL ((allF ts is.length).map D.int)), x7, some (wI (ts.length : Int)), x9, x10, x11, some (wL (rouF ts.length is.length)), x13] ∧ of2 = o) ⟨x7, none, rfl, rfl⟩ ?_ ?_
  · clear x7
    rintro i w en o hi ⟨x7, x13, rfl, rfl⟩
    obtain ⟨rfl, hi2⟩ := rng_at hi
    walk_at "go law"
    · rename_i hin j hj1 hj2
      have hjl := (List.getElem?_eq_some_iff.mp hj1).1
      rw [allF_len] at hjl
      refine xix_lst (d := tupF ts.length j) (atI_nat (rouF_at hjl)) ?_
      walk_at "go law"
      refine ⟨fun a ha hfa => ?_, fun hn => absurd hin hn⟩
      have ej : a = j := by
        rcases Nat.lt_trichotomy a j with h | h | h
        · exact absurd ha (hj2 a h)
        · exact h
        · exact absurd hj1 (hfa j h)
      subst ej
      walk_at "go law"
      · exact tupF_shp _ _
      · exact tupF_shp _ _
      refine imp2N (eqD_refl (tupF_shp _ _)) ?_
      walk_at "go law"
    · rename_i hni
      refine ⟨fun a ha _ => absurd (List.mem_of_getElem? ha) hni, fun _ => ?_⟩
      walk_at "go law"
  rintro en o ⟨x7, x13, rfl, rfl⟩
  walk_at "go law"
  · exact tDs_shp hok
  · exact tDs_shp hok
  rw [eqD_refl (tDs_shp hok)]
  walk_at "go law"
  · exact iDs_shp hoki
  · exact iDs_shp hoki
  rw [eqD_refl (iDs_shp hoki)]
  walk_at "go law"

end IfsOn
end
theorem all_mk {l : PySem.W.OpenLaw} {w : World} {K : PySem.W.Frag} {h : Heap} {mg : Str → Option Value} {fa : Addr} (X : K.In h) (G : h.Ns mainGlobals mg) (hfa : mg "law" = some (.ref fa))
    {f__law_state : Addr} {od__law_state an__law_state : Option Addr} {sl__law_state : Array (Option Value)} {oc__law_state kV__law_state dc__law_state pm__law_state cd__law_state ct__law_state : Value}
    {f__law_draw : Addr} {od__law_draw an__law_draw : Option Addr} {sl__law_draw : Array (Option Value)} {oc__law_draw kV__law_draw dc__law_draw pm__law_draw cd__law_draw ct__law_draw : Value}
    {f_numbers : Addr} {od_numbers an_numbers : Option Addr} {sl_numbers : Array (Option Value)} {oc_numbers kV_numbers dc_numbers pm_numbers cd_numbers ct_numbers : Value}
    {f_owner : Addr} {od_owner an_owner : Option Addr} {sl_owner : Array (Option Value)} {oc_owner kV_owner dc_owner pm_owner cd_owner ct_owner : Value}
    {f__law_tasks : Addr} {od__law_tasks an__law_tasks : Option Addr} {sl__law_tasks : Array (Option Value)} {oc__law_tasks kV__law_tasks dc__law_tasks pm__law_tasks cd__law_tasks ct__law_tasks : Value}
    {f__law_interrupts : Addr} {od__law_interrupts an__law_interrupts : Option Addr} {sl__law_interrupts : Array (Option Value)} {oc__law_interrupts kV__law_interrupts dc__law_interrupts pm__law_interrupts cd__law_interrupts ct__law_interrupts : Value}
    {f_law : Addr} {od_law an_law : Option Addr} {sl_law : Array (Option Value)} {oc_law kV_law dc_law pm_law cd_law ct_law : Value}
    (z_sorted : PySem.W.nsIn K mainGlobals "sorted" = some none)
    (z_range : PySem.W.nsIn K mainGlobals "range" = some none)
    (z_len : PySem.W.nsIn K mainGlobals "len" = some none)
    (z_int : PySem.W.nsIn K mainGlobals "int" = some none)
    (z_abs : PySem.W.nsIn K mainGlobals "abs" = some none)
    (z_str : PySem.W.nsIn K mainGlobals "str" = some none)
    (z_list : PySem.W.nsIn K mainGlobals "list" = some none)
    (z_isinstance : PySem.W.nsIn K mainGlobals "isinstance" = some none)
    (z_bool : PySem.W.nsIn K mainGlobals "bool" = some none)
    (a__law_state : PySem.W.nsIn K mainGlobals "_law_state" = some (some (.ref f__law_state)))
    (l__law_state : K.lookup f__law_state = some ⟨oc__law_state, od__law_state, .func (PySem.W.fnOf "_law_state" "_law_state" (defArgs s__law_state) (defBody s__law_state) (defScope s__law_state) .none kV__law_state dc__law_state pm__law_state an__law_state cd__law_state ct__law_state), sl__law_state⟩)
    (c__law_state : PySem.W.codeIn K cd__law_state "_law_state" = true)
    (k__law_state : PySem.W.keepIn K (.ref f__law_state) = true)
    (a__law_draw : PySem.W.nsIn K mainGlobals "_law_draw" = some (some (.ref f__law_draw)))
    (l__law_draw : K.lookup f__law_draw = some ⟨oc__law_draw, od__law_draw, .func (PySem.W.fnOf "_law_draw" "_law_draw" (defArgs s__law_draw) (defBody s__law_draw) (defScope s__law_draw) .none kV__law_draw dc__law_draw pm__law_draw an__law_draw cd__law_draw ct__law_draw), sl__law_draw⟩)
    (c__law_draw : PySem.W.codeIn K cd__law_draw "_law_draw" = true)
    (k__law_draw : PySem.W.keepIn K (.ref f__law_draw) = true)
    (a_numbers : PySem.W.nsIn K mainGlobals "numbers" = some (some (.ref f_numbers)))
    (l_numbers : K.lookup f_numbers = some ⟨oc_numbers, od_numbers, .func (PySem.W.fnOf "numbers" "numbers" (defArgs s_numbers) (defBody s_numbers) (defScope s_numbers) .none kV_numbers dc_numbers pm_numbers an_numbers cd_numbers ct_numbers), sl_numbers⟩)
    (c_numbers : PySem.W.codeIn K cd_numbers "numbers" = true)
    (k_numbers : PySem.W.keepIn K (.ref f_numbers) = true)
    (a_owner : PySem.W.nsIn K mainGlobals "owner" = some (some (.ref f_owner)))
    (l_owner : K.lookup f_owner = some ⟨oc_owner, od_owner, .func (PySem.W.fnOf "owner" "owner" (defArgs s_owner) (defBody s_owner) (defScope s_owner) .none kV_owner dc_owner pm_owner an_owner cd_owner ct_owner), sl_owner⟩)
    (c_owner : PySem.W.codeIn K cd_owner "owner" = true)
    (k_owner : PySem.W.keepIn K (.ref f_owner) = true)
    (a__law_tasks : PySem.W.nsIn K mainGlobals "_law_tasks" = some (some (.ref f__law_tasks)))
    (l__law_tasks : K.lookup f__law_tasks = some ⟨oc__law_tasks, od__law_tasks, .func (PySem.W.fnOf "_law_tasks" "_law_tasks" (defArgs s__law_tasks) (defBody s__law_tasks) (defScope s__law_tasks) .none kV__law_tasks dc__law_tasks pm__law_tasks an__law_tasks cd__law_tasks ct__law_tasks), sl__law_tasks⟩)
    (c__law_tasks : PySem.W.codeIn K cd__law_tasks "_law_tasks" = true)
    (k__law_tasks : PySem.W.keepIn K (.ref f__law_tasks) = true)
    (a__law_interrupts : PySem.W.nsIn K mainGlobals "_law_interrupts" = some (some (.ref f__law_interrupts)))
    (l__law_interrupts : K.lookup f__law_interrupts = some ⟨oc__law_interrupts, od__law_interrupts, .func (PySem.W.fnOf "_law_interrupts" "_law_interrupts" (defArgs s__law_interrupts) (defBody s__law_interrupts) (defScope s__law_interrupts) .none kV__law_interrupts dc__law_interrupts pm__law_interrupts an__law_interrupts cd__law_interrupts ct__law_interrupts), sl__law_interrupts⟩)
    (c__law_interrupts : PySem.W.codeIn K cd__law_interrupts "_law_interrupts" = true)
    (k__law_interrupts : PySem.W.keepIn K (.ref f__law_interrupts) = true)
    (a_law : PySem.W.nsIn K mainGlobals "law" = some (some (.ref f_law)))
    (l_law : K.lookup f_law = some ⟨oc_law, od_law, .func (PySem.W.fnOf "law" "law" (defArgs s_law) (defBody s_law) (defScope s_law) .none kV_law dc_law pm_law an_law cd_law ct_law), sl_law⟩)
    (c_law : PySem.W.codeIn K cd_law "law" = true)
    (k_law : PySem.W.keepIn K (.ref f_law) = true)
    : ∃ fd : FuncData, (∀ (s : Shared) (v : Value), BindsTo s fd ⟨[v], []⟩ [("_law_script", v)]) ∧ ∀ base : Heap, K.In base → base.Ns mainGlobals mg → FnOk l.prog w K mg base CX0 3 fa fd ["_law_script"] (spP K 1 S_law) := by
  have e := hfa.symm.trans (PySem.W.mg_of X G a_law)
  cases e
  have T : Txt K mg := ⟨PySem.W.mg_none_of X G z_sorted, PySem.W.mg_none_of X G z_range, PySem.W.mg_none_of X G z_len, PySem.W.mg_none_of X G z_int, PySem.W.mg_none_of X G z_abs, PySem.W.mg_none_of X G z_str, PySem.W.mg_none_of X G z_list, PySem.W.mg_none_of X G z_isinstance, PySem.W.mg_none_of X G z_bool⟩
  exact ⟨PySem.W.fnOf "law" "law" (defArgs s_law) (defBody s_law) (defScope s_law) .none kV_law dc_law pm_law an_law cd_law ct_law, fun s v => .of_eq rfl, fun base _ _ => by
    have C__law_state : Cal l.prog w K mg base 1 "_law_state" ["_law_script"] (spF K 1 S_state) := ⟨f__law_state, _, ok__law_state (fun_mk (st := s__law_state) l__law_state c__law_state k__law_state) T , PySem.W.mg_of X G a__law_state, k__law_state, (fun_mk (st := s__law_state) l__law_state c__law_state k__law_state).binds (ps := ["_law_script"]) fun _ _ _ _ _ _ us hl => match us, hl with | [_], _ => rfl⟩
    have C__law_draw : Cal l.prog w K mg base 1 "_law_draw" ["_law_state_here", "_law_many"] (spS K 2 DSa B_draw) := ⟨f__law_draw, _, ok__law_draw (fun_mk (st := s__law_draw) l__law_draw c__law_draw k__law_draw) T , PySem.W.mg_of X G a__law_draw, k__law_draw, (fun_mk (st := s__law_draw) l__law_draw c__law_draw k__law_draw).binds (ps := ["_law_state_here", "_law_many"]) fun _ _ _ _ _ _ us hl => match us, hl with | [_, _], _ => rfl⟩
    have C_numbers : Cal l.prog w K mg base 1 "numbers" ["program"] (spP K 1 S_numbers) := ⟨f_numbers, _, ok_numbers (fun_mk (st := s_numbers) l_numbers c_numbers k_numbers) T , PySem.W.mg_of X G a_numbers, k_numbers, (fun_mk (st := s_numbers) l_numbers c_numbers k_numbers).binds (ps := ["program"]) fun _ _ _ _ _ _ us hl => match us, hl with | [_], _ => rfl⟩
    have C_owner : Cal l.prog w K mg base 2 "owner" ["program", "number"] (spP K 2 S_owner) := ⟨f_owner, _, ok_owner (fun_mk (st := s_owner) l_owner c_owner k_owner) T C_numbers, PySem.W.mg_of X G a_owner, k_owner, (fun_mk (st := s_owner) l_owner c_owner k_owner).binds (ps := ["program", "number"]) fun _ _ _ _ _ _ us hl => match us, hl with | [_, _], _ => rfl⟩
    have C__law_tasks : Cal l.prog w K mg base 2 "_law_tasks" ["_law_state_here"] (spS K 1 DSa B_tasks) := ⟨f__law_tasks, _, ok__law_tasks (fun_mk (st := s__law_tasks) l__law_tasks c__law_tasks k__law_tasks) T C__law_draw, PySem.W.mg_of X G a__law_tasks, k__law_tasks, (fun_mk (st := s__law_tasks) l__law_tasks c__law_tasks k__law_tasks).binds (ps := ["_law_state_here"]) fun _ _ _ _ _ _ us hl => match us, hl with | [_], _ => rfl⟩
    have C__law_interrupts : Cal l.prog w K mg base 2 "_law_interrupts" ["_law_state_here"] (spS K 1 DSa B_ints) := ⟨f__law_interrupts, _, ok__law_interrupts (fun_mk (st := s__law_interrupts) l__law_interrupts c__law_interrupts k__law_interrupts) T C__law_draw, PySem.W.mg_of X G a__law_interrupts, k__law_interrupts, (fun_mk (st := s__law_interrupts) l__law_interrupts c__law_interrupts k__law_interrupts).binds (ps := ["_law_state_here"]) fun _ _ _ _ _ _ us hl => match us, hl with | [_], _ => rfl⟩
    exact ok_law (fun_mk (st := s_law) l_law c_law k_law) T C__law_state C__law_draw C__law_tasks C__law_interrupts C_numbers C_owner⟩
theorem walk {l : PySem.W.OpenLaw} {q : Program} {loose : List Str} {XP : (Str → Option Value) → Heap → Prop} {YP : World → Heap → Prop} {d : DefRec} {K : Params → PySem.W.Frag} (hn : l.most = some 63) (hdf : d.params.defaults = [])
    (hY : ∀ (w : World) (h : Heap), YP w h → (K w.params).In h)
    (F : ∀ (w : World) (mg : Str → Option Value) (fa : Addr) (h : Heap), (K w.params).In h → h.Ns mainGlobals mg → mg d.name = some (.ref fa) →
      ∃ fd : FuncData, (∀ (s : Shared) (u : Value), BindsTo s fd ⟨[u], []⟩ [("_law_script", u)]) ∧ ∀ base : Heap, (K w.params).In base → base.Ns mainGlobals mg → FnOk l.prog w (K w.params) mg base CX0 3 fa fd ["_law_script"] (spP (K w.params) 1 S_law)) :
    PySem.W.WalkO q loose XP YP l.row.toRowW d [] (fun f vs => PySem.call f vs) :=
  L2.walk_ofK (n := 63) (k := 3) (x := "_law_script") (CX := CX0) (sp := fun K => spP K 1 S_law) hn (by decide) hdf ⟨rfl, by decide, by decide⟩ hY F law_sp fun _ _ _ _ z => z
end My
open PySem PySem.W PyProof.Rows
set_option maxRecDepth 100000 in
set_option maxHeartbeats 0 in
theorem PySem.Challenge.cw_deadbeat_k42_numbers_of_tasks_holds : PySem.Challenge.rw_deadbeat_k42_numbers_of_tasks.Holds := by
  w_on; o_law; k_head; (case hw => w_witness2)
  k_fill
  refine My.walk (l := PySem.Challenge.rw_deadbeat_k42_numbers_of_tasks) rfl rfl (fun w h Y => PySem.W.kIn_of Y) ?F
  case F =>
    intro w mg fa h KX G hmg
    refine' My.all_mk KX G hmg ?z_sorted ?z_range ?z_len ?z_int ?z_abs ?z_str ?z_list ?z_isinstance ?z_bool ?a__law_state ?l__law_state ?c__law_state ?k__law_state ?a__law_draw ?l__law_draw ?c__law_draw ?k__law_draw ?a_numbers ?l_numbers ?c_numbers ?k_numbers ?a_owner ?l_owner ?c_owner ?k_owner ?a__law_tasks ?l__law_tasks ?c__law_tasks ?k__law_tasks ?a__law_interrupts ?l__law_interrupts ?c__law_interrupts ?k__law_interrupts ?a_law ?l_law ?c_law ?k_law
    (case z_sorted => k_is)
    (case z_range => k_is)
    (case z_len => k_is)
    (case z_int => k_is)
    (case z_abs => k_is)
    (case z_str => k_is)
    (case z_list => k_is)
    (case z_isinstance => k_is)
    (case z_bool => k_is)
    (case a__law_state => k_is)
    (case l__law_state => k_is)
    (case c__law_state => k_is)
    (case k__law_state => k_is)
    (case a__law_draw => k_is)
    (case l__law_draw => k_is)
    (case c__law_draw => k_is)
    (case k__law_draw => k_is)
    (case a_numbers => k_is)
    (case l_numbers => k_is)
    (case c_numbers => k_is)
    (case k_numbers => k_is)
    (case a_owner => k_is)
    (case l_owner => k_is)
    (case c_owner => k_is)
    (case k_owner => k_is)
    (case a__law_tasks => k_is)
    (case l__law_tasks => k_is)
    (case c__law_tasks => k_is)
    (case k__law_tasks => k_is)
    (case a__law_interrupts => k_is)
    (case l__law_interrupts => k_is)
    (case c__law_interrupts => k_is)
    (case k__law_interrupts => k_is)
    (case a_law => k_is)
    (case l_law => k_is)
    (case c_law => k_is)
    (case k_law => k_is)
